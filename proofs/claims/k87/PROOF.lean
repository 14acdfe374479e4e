import PyProof.Rows.All
import Wide.All
import OpenK.AllK
import Wide.FinOn
import HandS.ForMost
import HandS.Flow
import HandS.TupAny
import HandS.IsInst
import HandS.More
import HandS.Iter
import HandS.TupMul
import HandS.Evl
import HandS.Style
import HandS.Conv
import KE.GoesMore
import KE.GoesEnum
import KE.KAssignIn
import PySem.Challenge.RW_asiffresh_k87_rows_of_a_core
set_option linter.all false
/-! The machine in plain Lean: cells, rows, a checked run within a frame (Run), a piece of such a run (Steps), the whole run with its frames (Whole). -/
namespace Mch
inductive Cell where
  | mk (n : Int) (cs : List Cell)
mutual
def Cell.size : Cell → Nat
  | .mk _ cs => 1 + sizes cs
def sizes : List Cell → Nat
  | [] => 0
  | c :: r => c.size + sizes r
end
mutual
def Cell.depth : Cell → Nat
  | .mk _ cs => 1 + depths cs
def depths : List Cell → Nat
  | [] => 0
  | c :: r => max c.depth (depths r)
end
def Cell.num : Cell → Int
  | .mk n _ => n
def Cell.parts : Cell → List Cell
  | .mk _ cs => cs
mutual
def Cell.eqb : Cell → Cell → Bool
  | .mk n cs, .mk m ds => decide (n = m) && eqbs cs ds
def eqbs : List Cell → List Cell → Bool
  | [], [] => true
  | c :: r, d :: q => c.eqb d && eqbs r q
  | [], _ :: _ => false
  | _ :: _, [] => false
end
def boolC (b : Bool) : Cell := .mk (if b then 1 else 0) []
theorem sizes_append (a b : List Cell) : sizes (a ++ b) = sizes a + sizes b := by
  induction a with
  | nil => simp [sizes]
  | cons c r ih => simp [sizes, ih]; omega
theorem sizes_reverse (a : List Cell) : sizes a.reverse = sizes a := by
  induction a with
  | nil => rfl
  | cons c r ih => simp [sizes, sizes_append, ih]; omega
theorem size_pos (c : Cell) : 1 ≤ c.size := by cases c; simp [Cell.size]
theorem sizes_mem {c : Cell} {l : List Cell} (h : c ∈ l) : c.size ≤ sizes l := by
  induction l with
  | nil => cases h
  | cons d r ih =>
    rcases List.mem_cons.mp h with rfl | h
    · simp [sizes]
    · have := ih h
      simp [sizes]; omega
theorem depths_append (a b : List Cell) : depths (a ++ b) = max (depths a) (depths b) := by
  induction a with
  | nil => simp [depths]
  | cons c r ih => simp only [List.cons_append, depths, ih, Nat.max_assoc]
theorem depths_reverse (a : List Cell) : depths a.reverse = depths a := by
  induction a with
  | nil => rfl
  | cons c r ih => simp only [List.reverse_cons, depths_append, ih, depths]; omega
theorem depths_mem {c : Cell} {l : List Cell} (h : c ∈ l) : c.depth ≤ depths l := by
  induction l with
  | nil => cases h
  | cons d r ih =>
    rcases List.mem_cons.mp h with rfl | h
    · simp only [depths]; omega
    · have := ih h
      simp only [depths]; omega
theorem depths_le {n : Nat} {l : List Cell} (h : ∀ c ∈ l, c.depth ≤ n) : depths l ≤ n := by
  induction l with
  | nil => simp [depths]
  | cons d r ih =>
    have h1 := h d List.mem_cons_self
    have h2 := ih fun c hc => h c (List.mem_cons_of_mem _ hc)
    simp only [depths]; omega
theorem depths_take (n : Nat) (l : List Cell) : depths (l.take n) ≤ depths l := depths_le fun c hc => depths_mem (List.mem_of_mem_take hc)
theorem depths_drop (n : Nat) (l : List Cell) : depths (l.drop n) ≤ depths l := depths_le fun c hc => depths_mem (List.mem_of_mem_drop hc)
theorem sizes_take (n : Nat) (l : List Cell) : sizes (l.take n) ≤ sizes l := by
  induction l generalizing n with
  | nil => simp
  | cons c r ih =>
    cases n with
    | zero => simp [sizes]
    | succ n => have := ih n; simp only [List.take_succ_cons, sizes]; omega
theorem length_le_sizes (l : List Cell) : l.length ≤ sizes l := by
  induction l with
  | nil => simp [sizes]
  | cons c r ih => have := size_pos c; simp [sizes]; omega

inductive Row (N : Type) where
  | loc (n : Nat) | drop | keep | forget (n : Nat) | part (n : Nat) | make (m : Int) (n : Nat) | same
  | call (f : N) (n : Nat) | isr (m : Int) (to : Nat) | go (to : Nat) | back
abbrev Built (N : Type) := N → Option (Nat × List (Row N))
section
variable {N : Type}
/-- a row that only moves cells; the stack's top is its head -/
inductive Simp1 : Row N → List Cell → List Cell → List Cell → List Cell → Prop
  | loc {n held st c} : held[n]? = some c → Simp1 (.loc n) held st held (c :: st)
  | drop {held c st} : Simp1 .drop held (c :: st) held st
  | keep {held c st} : Simp1 .keep held (c :: st) (held ++ [c]) st
  | forget {n held st} : n ≤ held.length → Simp1 (.forget n) held st (held.take (held.length - n)) st
  | part {n held m cs c st} : cs[n]? = some c → Simp1 (.part n) held (.mk m cs :: st) held (c :: st)
  | make {m n held st} : n ≤ st.length → 1 + sizes (st.take n) ≤ 256 → Simp1 (.make m n) held st held (.mk m (st.take n).reverse :: st.drop n)
  | same {held c d st} : c.depth ≤ 250 → Simp1 .same held (c :: d :: st) held (boolC (c.eqb d) :: st)
/-- Run B rows at held st v c d k h: from this row on, within this frame, to its end: v is answered; c calls are made (at any depth), d rows done (at any depth), k of them in this frame; calls nest at most h deep -/
inductive Run (B : Built N) : List (Row N) → Nat → List Cell → List Cell → Cell → Nat → Nat → Nat → Nat → Prop
  | back {rows i held st v} : rows[i]? = some .back → Run B rows i held (v :: st) v 0 1 1 0
  | simp {rows i held st r held' st' v c d k h} : rows[i]? = some r → Simp1 r held st held' st' → Run B rows (i + 1) held' st' v c d k h → Run B rows i held st v c (d + 1) (k + 1) h
  | go {rows i held st to v c d k h} : rows[i]? = some (.go to) → Run B rows to held st v c d k h → Run B rows i held st v c (d + 1) (k + 1) h
  | isr {rows i held m to n cs st v c d k h} : rows[i]? = some (.isr m to) → Run B rows (if n = m then i + 1 else to) held (.mk n cs :: st) v c d k h → Run B rows i held (.mk n cs :: st) v c (d + 1) (k + 1) h
  | call {rows i held st f n rows' w c1 d1 k1 h1 v c d k h} : rows[i]? = some (.call f n) → n ≤ st.length → B f = some (n, rows') → Run B rows' 0 (st.take n).reverse [] w c1 d1 k1 h1 → k1 ≤ 400 →
      Run B rows (i + 1) held (w :: st.drop n) v c d k h → Run B rows i held st v (c1 + c + 1) (d1 + d + 1) (k + 1) (max (h1 + 1) h)
/-- a piece of a run -/
inductive Steps (B : Built N) (rows : List (Row N)) : Nat → List Cell → List Cell → Nat → List Cell → List Cell → Nat → Nat → Nat → Nat → Prop
  | refl {i held st} : Steps B rows i held st i held st 0 0 0 0
  | simp {i held st r held' st' j held2 st2 c d k h} : rows[i]? = some r → Simp1 r held st held' st' → Steps B rows (i + 1) held' st' j held2 st2 c d k h → Steps B rows i held st j held2 st2 c (d + 1) (k + 1) h
  | go {i held st to j held2 st2 c d k h} : rows[i]? = some (.go to) → Steps B rows to held st j held2 st2 c d k h → Steps B rows i held st j held2 st2 c (d + 1) (k + 1) h
  | isr {i held m to n cs st j held2 st2 c d k h} : rows[i]? = some (.isr m to) → Steps B rows (if n = m then i + 1 else to) held (.mk n cs :: st) j held2 st2 c d k h → Steps B rows i held (.mk n cs :: st) j held2 st2 c (d + 1) (k + 1) h
  | call {i held st f n rows' w c1 d1 k1 h1 j held2 st2 c d k h} : rows[i]? = some (.call f n) → n ≤ st.length → B f = some (n, rows') → Run B rows' 0 (st.take n).reverse [] w c1 d1 k1 h1 → k1 ≤ 400 →
      Steps B rows (i + 1) held (w :: st.drop n) j held2 st2 c d k h → Steps B rows i held st j held2 st2 (c1 + c + 1) (d1 + d + 1) (k + 1) (max (h1 + 1) h)
theorem Steps.trans {B : Built N} {rows : List (Row N)} {i j l : Nat} {held st held2 st2 held3 st3 : List Cell} {c d k h c' d' k' h' : Nat}
    (a : Steps B rows i held st j held2 st2 c d k h) (b : Steps B rows j held2 st2 l held3 st3 c' d' k' h') : Steps B rows i held st l held3 st3 (c + c') (d + d') (k + k') (max h h') := by
  induction a with
  | refl => simpa using b
  | simp e s _ ih =>
    have := Steps.simp e s (ih b)
    rw [show ∀ a b : Nat, a + 1 + b = a + b + 1 by omega, show ∀ a b : Nat, a + 1 + b = a + b + 1 by omega]; exact this
  | go e _ ih =>
    have := Steps.go e (ih b)
    rw [show ∀ a b : Nat, a + 1 + b = a + b + 1 by omega, show ∀ a b : Nat, a + 1 + b = a + b + 1 by omega]; exact this
  | isr e _ ih =>
    have := Steps.isr e (ih b)
    rw [show ∀ a b : Nat, a + 1 + b = a + b + 1 by omega, show ∀ a b : Nat, a + 1 + b = a + b + 1 by omega]; exact this
  | @call i held st f n rows' w c1 d1 k1 h1 j held2 st2 c d k h e hn hB r hk _ ih =>
    have := Steps.call e hn hB r hk (ih b)
    rw [show c1 + c + 1 + c' = c1 + (c + c') + 1 by omega, show d1 + d + 1 + d' = d1 + (d + d') + 1 by omega, show k + 1 + k' = k + k' + 1 by omega, Nat.max_assoc]; exact this
theorem Steps.run {B : Built N} {rows : List (Row N)} {i j : Nat} {held st held2 st2 : List Cell} {v : Cell} {c d k h c' d' k' h' : Nat}
    (a : Steps B rows i held st j held2 st2 c d k h) (b : Run B rows j held2 st2 v c' d' k' h') : Run B rows i held st v (c + c') (d + d') (k + k') (max h h') := by
  induction a with
  | refl => simpa using b
  | simp e s _ ih =>
    have := Run.simp e s (ih b)
    rw [show ∀ a b : Nat, a + 1 + b = a + b + 1 by omega, show ∀ a b : Nat, a + 1 + b = a + b + 1 by omega]; exact this
  | go e _ ih =>
    have := Run.go e (ih b)
    rw [show ∀ a b : Nat, a + 1 + b = a + b + 1 by omega, show ∀ a b : Nat, a + 1 + b = a + b + 1 by omega]; exact this
  | isr e _ ih =>
    have := Run.isr e (ih b)
    rw [show ∀ a b : Nat, a + 1 + b = a + b + 1 by omega, show ∀ a b : Nat, a + 1 + b = a + b + 1 by omega]; exact this
  | @call i held st f n rows' w c1 d1 k1 h1 j held2 st2 c d k h e hn hB r hk _ ih =>
    have := Run.call e hn hB r hk (ih b)
    rw [show c1 + c + 1 + c' = c1 + (c + c') + 1 by omega, show d1 + d + 1 + d' = d1 + (d + d') + 1 by omega, show k + 1 + k' = k + k' + 1 by omega, Nat.max_assoc]; exact this
/-- more defs, more rows: the run stays -/
theorem Run.more {B B' : Built N} (hB : ∀ f x, B f = some x → B' f = some x) {rows : List (Row N)} {i : Nat} {held st : List Cell} {v : Cell} {c d k h : Nat} (a : Run B rows i held st v c d k h) : Run B' rows i held st v c d k h := by
  induction a with
  | back e => exact .back e
  | simp e s _ ih => exact .simp e s ih
  | go e _ ih => exact .go e ih
  | isr e _ ih => exact .isr e ih
  | call e hn hf _ hk _ ih1 ih2 => exact .call e hn (hB _ _ hf) ih1 hk ih2
theorem get_pre {α : Type} {a b : List α} {i : Nat} {x : α} (h : a[i]? = some x) : (a ++ b)[i]? = some x := by
  rw [List.getElem?_append_left (List.getElem?_eq_some_iff.mp h).1]; exact h
theorem Steps.more {B B' : Built N} (hB : ∀ f x, B f = some x → B' f = some x) {rows more : List (Row N)} {i j : Nat} {held st held2 st2 : List Cell} {c d k h : Nat} (a : Steps B rows i held st j held2 st2 c d k h) :
    Steps B' (rows ++ more) i held st j held2 st2 c d k h := by
  induction a with
  | refl => exact .refl
  | simp e s _ ih => exact .simp (get_pre e) s ih
  | go e _ ih => exact .go (get_pre e) ih
  | isr e _ ih => exact .isr (get_pre e) ih
  | call e hn hf r hk _ ih => exact .call (get_pre e) hn (hB _ _ hf) (r.more hB) hk ih

/-! ### the whole machine: frames that wait -/
structure Frame (N : Type) where
  rows : List (Row N)
  i : Nat
  held : List Cell
  st : List Cell
inductive Whole (B : Built N) (v : Cell) : List (Frame N) → List (Row N) → Nat → List Cell → List Cell → Nat → Nat → Prop
  | top {rows i held st c d k h} : Run B rows i held st v c d k h → Whole B v [] rows i held st c d
  | more {fs : List (Frame N)} {fr : Frame N} {rows i held st w c1 d1 k h c d} : Run B rows i held st w c1 d1 k h → Whole B v fs fr.rows fr.i fr.held (w :: fr.st) c d → Whole B v (fr :: fs) rows i held st (c1 + c) (d1 + d)
/-- what the next row is, and what is left behind it -/
inductive Next (B : Built N) (v : Cell) (fs : List (Frame N)) (rows : List (Row N)) (i : Nat) (held st : List Cell) (c d : Nat) : Prop
  | fin : rows[i]? = some .back → fs = [] → (∃ st', st = v :: st') → Next B v fs rows i held st c d
  | ret {w st' fr fs' d'} : rows[i]? = some .back → fs = fr :: fs' → st = w :: st' → d = d' + 1 → Whole B v fs' fr.rows fr.i fr.held (w :: fr.st) c d' → Next B v fs rows i held st c d
  | simp {r held' st' d'} : rows[i]? = some r → Simp1 r held st held' st' → d = d' + 1 → Whole B v fs rows (i + 1) held' st' c d' → Next B v fs rows i held st c d
  | go {to d'} : rows[i]? = some (.go to) → d = d' + 1 → Whole B v fs rows to held st c d' → Next B v fs rows i held st c d
  | isr {m to n cs st' d'} : rows[i]? = some (.isr m to) → st = .mk n cs :: st' → d = d' + 1 → Whole B v fs rows (if n = m then i + 1 else to) held st c d' → Next B v fs rows i held st c d
  | call {f n rows' c' d'} : rows[i]? = some (.call f n) → n ≤ st.length → B f = some (n, rows') → c = c' + 1 → d = d' + 1 → Whole B v (⟨rows, i + 1, held, st.drop n⟩ :: fs) rows' 0 (st.take n).reverse [] c' d' → Next B v fs rows i held st c d
theorem Whole.pos {B : Built N} {v : Cell} {fs : List (Frame N)} {rows : List (Row N)} {i : Nat} {held st : List Cell} {c d : Nat} (w : Whole B v fs rows i held st c d) : Next B v fs rows i held st c d := by
  cases w with
  | top r =>
    cases r with
    | back e => exact .fin e rfl ⟨_, rfl⟩
    | simp e s r => exact .simp e s rfl (.top r)
    | go e r => exact .go e rfl (.top r)
    | isr e r => exact .isr e rfl rfl (.top r)
    | @call _ _ _ _ f n rows' w c1 d1 k1 h1 _ c d k h e hn hB r hk r2 => exact .call e hn hB rfl rfl (.more r (.top r2))
  | @more fs fr _ _ _ _ w c1 d1 k h c d r W =>
    cases r with
    | back e => exact .ret e rfl rfl (d' := d) (by omega) (by simpa using W)
    | @simp _ _ _ _ r held' st' _ _ d1 k h e s r => exact .simp e s (d' := d1 + d) (by omega) (.more r W)
    | @go _ _ _ _ _ _ _ d1 _ _ e r => exact .go e (d' := d1 + d) (by omega) (.more r W)
    | @isr _ _ _ _ _ _ _ _ _ _ d1 _ _ e r => exact .isr e rfl (d' := d1 + d) (by omega) (.more r W)
    | @call _ _ _ _ f n rows' w c1 d1 k1 h1 _ c2 d2 k h e hn hB r hk r2 =>
      refine .call e hn hB (c' := c1 + (c2 + c)) (d' := d1 + (d2 + d)) (by omega) (by omega) ?_
      exact .more r (.more (fr := ⟨_, _, _, _⟩) r2 W)
end
end Mch

set_option Elab.async false
set_option linter.all false
set_option maxRecDepth 100000
set_option maxHeartbeats 2000000
/-! Rules of our own over the hand layer: del xs[a:], xs.extend(tuple), == and != of cells at any depth. -/
namespace Ru
open PySem PySem.Spec PyProof.Rows L2

theorem filt_from {α : Type} {p : Nat → Bool} {a : Nat} : ∀ (its : List α) (i : Nat), (∀ k, i ≤ k → k < i + its.length → p k = decide (a ≤ k)) →
    ((its.zipIdx i).filterMap fun x => if p x.2 = true then none else some x.1) = its.take (a - i)
  | [], i, _ => by simp
  | x :: r, i, h => by
    have ih := filt_from (p := p) (a := a) r (i + 1) fun k h1 h2 => h k (by omega) (by simp only [List.length_cons]; omega)
    have e := h i (Nat.le_refl _) (by simp only [List.length_cons]; omega)
    rw [List.zipIdx_cons, List.filterMap_cons]
    by_cases c : a ≤ i
    · have e' : p i = true := by rw [e]; exact decide_eq_true c
      have z1 : a - i = 0 := by omega
      have z2 : a - (i + 1) = 0 := by omega
      simp only [e', if_true]
      rw [ih, z1, z2]
      simp
    · have e' : p i = false := by rw [e]; exact decide_eq_false c
      have z : a - i = (a - (i + 1)) + 1 := by omega
      simp only [e', Bool.false_eq_true, if_false]
      rw [ih, z, List.take_succ_cons]

section
variable {prog : Program} {w : World} {A : Around} {E : Value → Shared → Prop} {s : Shared}
theorem bounds_from {a n : Nat} (ha : a ≤ n) : sliceBounds (some (a : Int)) none none n = ((a : Int), (n : Int), 1) := by
  simp only [sliceBounds, Option.getD_none]
  have h1 : ¬ ((a : Int) < 0) := by omega
  simp only [h1, if_false, show (1 : Int) > 0 by decide, if_true]
  congr 1
  omega
theorem slot_delitem : PySem.Slot "list" "__delitem__" "list.__delitem__" := PySem.F.slot_list_delitem
set_option maxRecDepth 100000 in
/-- list.__delitem__ with a slice that has a beginning alone -/
theorem delItem_from {l sl : Addr} {its : List Value} {n : Nat} {vl : Value} {a : Nat} {Q : Unit → Shared → Prop}
    (e : s.heap.get? l = some { cls := .type "list", data := .seq its.toArray n }) (hs : s.heap.IsSliceOf sl vl .none .none) (pl : IsPart vl (some (a : Int))) (ha : a ≤ its.length)
    (hz : its.length ≤ sizeLine) (h : ∀ f : Array Value → Array Value, f its.toArray = (its.take a).toArray → Q () { s with heap := s.heap.update l (Obj.mapSeq f) }) :
    wpAny (model prog w) A (delItem (.ref l) (.ref sl)) Q E s := by
  have hl : s.heap.IsList l its.toArray := PySem.IsL.isList e
  obtain ⟨os, hos, hcs, hds⟩ := id hs
  have hTs : s.TypeIs (.ref sl) "slice" := ⟨os, hos, hcs⟩
  have hstep : ¬ ((rawPart none == rawInt 0) = true) := Bool.false_ne_true
  refine PySem.wpAny_delItem_slot hl.typeIs (by decide) PySem.F.slot_list_delitem
    (wpAny_call_entry PySem.F.slot_list_delitem hl.typeIs PySem.F.entry_list_delitem ?_ (PySem.F.args_list_delitem_2 _ _))
  show wpAny _ _ (Builtin.List.listSubscript? (.ref sl) >>= _) _ _ s
  refine wpAny_bind ?_
  unfold Builtin.List.listSubscript?
  refine wpAny_bind (wpAny_specialOf hTs slice_no_index ?_)
  simp only [Option.isNone_none, if_true]
  refine wpAny_pure ?_
  show wpAny _ _ (typeOf (.ref sl) >>= _) _ _ s
  refine wpAny_bind (wpAny_typeOf hTs ?_)
  first
    | rw [if_neg (by decide)]
    | refine PySem.W.KFB.if_not (by decide) ?_
  rw [listSliceParts_eq]
  refine wpAny_bind (wpAny_bind (wpAny_field hos hds (x := .none) rfl (wpAny_bind (wpAny_listPart .none ?_))))
  rw [if_neg hstep]
  refine wpAny_bind (wpAny_field hos hds (x := vl) rfl (wpAny_bind (wpAny_listPart pl ?_)))
  refine wpAny_bind (wpAny_field hos hds (x := .none) rfl (wpAny_bind (wpAny_listPart .none (wpAny_pure ?_))))
  unfold Builtin.List.listItems
  refine wpAny_bind (wpAny_bind (wpAny_seqItems e rfl (wpAny_pure ?_)))
  refine wpAny_bind (wpAny_of_eq ((sliceIndices_raw (some (a : Int)) none none its.toArray.size (by simp)).trans (congrArg (pure : Int × Int × Int → Sem (Int × Int × Int)) (bounds_from (n := its.toArray.size) (by rw [List.size_toArray]; exact ha)))) ?_)
  refine wpAny_bind (wpAny_rule ?_)
  have key : ∀ p : Nat → Bool, (∀ k, k < its.length → p k = decide (a ≤ k)) → (fun xs : Array Value => (xs.toList.zipIdx.filterMap fun x => if p x.2 = true then none else some x.1).toArray) its.toArray = (its.take a).toArray := fun p hp => by
    have q := filt_from (p := p) (a := a) its 0 fun k _ h2 => hp k (by omega)
    simpa using congrArg List.toArray q
  have size_ok : ∀ f : Array Value → Array Value, f its.toArray = (its.take a).toArray → (f its.toArray).size ≤ sizeLine + 1 := fun f hf => by
    rw [hf, List.size_toArray, List.length_take]
    omega
  refine wpAny_bind ?_
  have pk : ∀ k : Nat, k < its.length → ((decide ((a : Int) ≤ (k : Int)) && decide ((k : Int) < (its.toArray.size : Int)) && ((k : Int) - (a : Int)) % 1 == 0)) = decide (a ≤ k) := fun k hk => by
    have h1 : decide ((k : Int) < (its.toArray.size : Int)) = true := decide_eq_true (by rw [List.size_toArray]; omega)
    have h2 : (((k : Int) - (a : Int)) % 1 == 0) = true := by rw [Int.emod_one]; rfl
    have h3 : decide ((a : Int) ≤ (k : Int)) = decide (a ≤ k) := by
      by_cases c : a ≤ k
      · rw [decide_eq_true c, decide_eq_true (by omega)]
      · rw [decide_eq_false c, decide_eq_false (by omega)]
    rw [h1, h2, h3]
    simp
  have upd := fun (f : Array Value → Array Value) (hf : f its.toArray = (its.take a).toArray) (Q' : Unit → Shared → Prop) (q : Q' () { s with heap := s.heap.update l (Obj.mapSeq f) }) =>
    (wpAny_updateSeq (M := model prog w) (A := A.in1) (E := E) (Q := Q') (f := f) (hz := by rw [List.size_toArray]; exact hz) (_hz' := size_ok f hf) e rfl q)
  refine upd _ (key _ pk) _ ?_
  refine wpAny_bind (wpAny_letGo ?_)
  first
    | exact wpAny_bind (wpAny_pure (wpAny_pure ⟨.none, rfl, wpAny_pure (h _ (key _ pk))⟩))
    | exact wpAny_pure ⟨.none, rfl, h _ (key _ pk)⟩
    | exact wpAny_pure ⟨.none, rfl, wpAny_pure (h _ (key _ pk))⟩
end
end Ru

set_option Elab.async false
set_option linter.all false
set_option maxRecDepth 100000
set_option maxHeartbeats 2000000
namespace Ru
open PySem PySem.Spec PyProof.Rows L2
section
variable {X : Cx}
/-- del xs[a:] -/
def tDelFrom (to ti : TE) : TS := fun D σ H => to σ H fun x H1 => ti σ H1 fun y H2 => ∃ (l : Addr) (xs : List V) (a : Nat), x = .ref l ∧ y = .int (a : Int) ∧ H2 l = some (.lst xs) ∧ a ≤ xs.length ∧ D.nx σ (upd H2 l (.lst (xs.take a)))
theorem ps_delFrom {o i : Expr} {to ti : TE} {tpos p2 pos : Pos} (ho : PE X o to) (hi : PE X i ti) : PS X (.Delete [.Subscript o (.Slice (some i) none none p2) tpos] pos) (tDelFrom to ti) := by
  refine ⟨fun pins s σ H D I h => ?_⟩
  refine wpAny_Delete (wpAny_deleteEach_cons (wpAny_delete_Subscript (thn (ho.run pins s σ H _ I h) fun u s1 ⟨x, H1, I1, rx, q1⟩ => ?_)))
  refine wpAny_Slice ?_
  rw [evalPart_some]
  refine thn (hi.run pins s1 σ H1 _ I1 q1) fun iv s2 ⟨y, H2, I2, ry, q2⟩ => ?_
  rw [evalPart_none]
  refine wpAny_pure (wpAny_pure ?_)
  obtain ⟨l, xs, a, ex, ey, hH, ha, q2⟩ := q2
  subst ex
  subst ey
  cases (show u = Value.ref l from rx)
  obtain ⟨t, rfl⟩ := (show ∃ t, iv = Value.int (a : Int) t from ry)
  have I3 : Inv X pins σ H2 { s2 with heap := s2.heap.push { cls := .type "slice", data := .fields #[.int (a : Int) t, .none, .none] } } := I2.kept (t' := s2.toks) fun b ob q => Heap.get?_push_of_some _ q
  obtain ⟨z, its, n, r, hl, e⟩ := I3.lstM hH
  refine delItem_from (its := its) e (Heap.IsSliceOf.new ..) (.int _ _) (by rw [← hl]; exact ha) (by rw [← hl]; exact z) fun f hf => ?_
  refine wpAny_deleteEach_nil ⟨σ, _, ?_, q2⟩
  refine I3.lset (its' := its.take a) (t' := s2.toks) hH e hf (r.take a) ?_
  rw [List.length_take]
  omega

set_option maxRecDepth 8000 in
theorem list_extend_tupA (l : Addr) (items : Array Value) (n : Nat) (b : Addr) (items2 : Array Value) (n2 : Nat) (dd : Option Addr) (sl : Array (Option Value)) (hs0 : ¬(!items.isEmpty && Builtin.List.listTooLong (items.size + items2.size)) = true) (hs1 : items.size ≤ sizeLine) (hs2 : items.size + items2.size ≤ sizeLine + 1) :
    Meets (Builtin.«list.extend» ⟨[.ref l, .ref b], []⟩) (fun _ R s => s.heap.get? l = some { cls := .type "list", dict := none, data := .seq items n, slots := #[] } ∧ s.heap.get? b = some { cls := .type "tuple", dict := dd, data := .seq items2 n2, slots := sl } ∧ R (.ok (.ret Value.none)) { s with heap := s.heap.update l (Obj.mapSeq fun x => x ++ items2), toks := s.toks }) :=
  .of_wp fun prog w A R s h => by
    obtain ⟨hp, g, d, tk, os⟩ := s; obtain ⟨hl, hb, h⟩ := h
    have f1 := PySem.AutoSeq1.idx_int; have f2 := PySem.AutoSeq1.sub_tuple_tuple; have f3 := PySem.AutoSeq1.sub_list_list; have f4 := PySem.AutoSeq1.sub_tuple_list; have f5 := PySem.AutoSeq1.sub_list_tuple
    have hz' : (items ++ items2).size ≤ sizeLine + 1 := by rw [Array.size_append]; exact hs2
    wp_walk using (wpAny_updateSeq hl rfl (hz := hs1) (_hz' := hz')), wpAny_loadPart' hl, wpAny_loadPart' hb; exact ⟨_, rfl, h⟩
/-- xs.extend(t), t a tuple -/
def rExtendT (K : PySem.W.Frag) : V → List V → Hp → VK → Prop := fun x vs H Q => ∃ l b xs zs, x = .ref l ∧ vs = [.ref b] ∧ H l = some (.lst xs) ∧ SqT K H b zs ∧ xs.length + zs.length ≤ sizeLine ∧ Q .non (upd H l (.lst (xs ++ zs)))
theorem mt_extendT : MtM X "list.extend" (rExtendT X.K) := by
  intro pins s σ H x vs v us Q I rx rv h
  obtain ⟨l, b, xs, zs, rfl, rfl, hH, hB, hz, q⟩ := h
  cases rx
  obtain ⟨u, rfl, ru⟩ := rv.one
  cases ru
  obtain ⟨z, its, n, r, hl, e⟩ := I.lstM hH
  obtain ⟨its2, r2, ⟨⟨oc, od, dt, sl⟩, e2, hc2, n2, hd2⟩, z2⟩ := I.tuple hB
  simp only at hc2 hd2
  subst hc2 hd2
  have hl2 := r2.length
  have hsz : its.toArray.size + its2.toArray.size ≤ sizeLine := by rw [List.size_toArray, List.size_toArray]; omega
  have hlong : ¬ (!its.toArray.isEmpty && Builtin.List.listTooLong (its.toArray.size + its2.toArray.size)) = true := by
    rw [notLongL hsz, Bool.and_false]
    exact Bool.false_ne_true
  refine call_meets F.slot_list_extend ⟨_, e, rfl⟩ F.entry_list_extend (F.args_list_extend_2 _ _)
    (list_extend_tupA l its.toArray n b its2.toArray n2 od sl hlong (by rw [List.size_toArray]; omega) (by omega)) ⟨e, e2, ?_⟩
  refine ⟨.non, _, I.lset (its' := its ++ its2) hH e (by simp) (r.append r2) ?_, rfl, q⟩
  rw [List.length_append]
  omega

/-- == of data, m deep at most -/
def rEqM (K : PySem.W.Frag) (m : Nat) : R2 := fun x y H Q => ∃ d e, Dp K H x d ∧ Dp K H y e ∧ d.canLay0 = true ∧ e.canLay0 = true ∧ min d.depth e.depth ≤ m ∧ Q (.bl (PyData.eqv d e)) H
theorem op_eqM {m : Nat} (hu : X.A.units + m < cLine) : OpR X (compareOp .Eq) (rEqM X.K m) := by
  intro pins s σ H x y v u Q I rx ry h
  obtain ⟨d, e, hd, he, sd, se, hm, q⟩ := h
  obtain ⟨as, r1⟩ := Dp.reads I d x v hd rx
  obtain ⟨bs, r2⟩ := Dp.reads I e y u he ry
  exact SeqAt.compareEq_reads r1 r2 sd se (by omega) ⟨.bl _, H, I, rfl, q⟩
end

/-! ### two dicts with tuples as keys that hold the same pairs -/
section
variable {prog : Program} {w : World} {A : Around} {E : Value → Shared → Prop} {s : Shared} {κ : Type} [DecidableEq κ] {knd : HeapKind prog w κ}
theorem nodup_get {α : Type} {l : List α} (hn : l.Nodup) {i j : Nat} {x : α} (h1 : l[i]? = some x) (h2 : l[j]? = some x) : i = j := by
  obtain ⟨a1, e1⟩ := List.getElem?_eq_some_iff.mp h1
  obtain ⟨a2, e2⟩ := List.getElem?_eq_some_iff.mp h2
  exact (List.getElem_inj hn).mp (e1.trans e2.symm)
theorem samePairsT {nm : String} {a b : Addr} {xs ys : List (κ × Addr × Value)} {Q : Bool → Shared → Prop} (hr : knd.room A) (ha : (a == sysModules) = false) (hb : (b == sysModules) = false)
    (da : s.heap.DictOfH knd a xs) (db : s.heap.DictOfH knd b ys) (hsame : xs.map (fun x => (x.1, x.2.2)) = ys.map (fun x => (x.1, x.2.2))) (h : Q true s) :
    wpAny (model prog w) A (Builtin.Dict.samePairs nm a b) Q E s := by
  obtain ⟨oa, es, ep, hoa, _, hda, hea, hia, hna⟩ := da
  obtain ⟨ob, es', ep', hob, _, hdb, heb, hib, hnb⟩ := db
  have hla := size_of_entries hea
  have hlb := size_of_entries heb
  have hlen : xs.length = ys.length := by simpa using congrArg List.length hsame
  unfold Builtin.Dict.samePairs Builtin.Dict.showsAll
  rw [if_neg (show ¬ (a == sysModules) = true by rw [ha]; exact Bool.false_ne_true), if_neg (show ¬ (b == sysModules) = true by rw [hb]; exact Bool.false_ne_true)]
  refine wpAny_bind (wpAny_pure (wpAny_bind (wpAny_pure ?_)))
  refine wpAny_bind (wpAny_dictEntries hoa hda ?_)
  dsimp only
  refine wpAny_bind (wpAny_dictEntries hob hdb ?_)
  rw [if_neg (by rw [hla, hlb, hlen]; simp)]
  refine wpAny_bind (wpAny_dictEpoch hoa hda ?_)
  refine wpAny_bind ?_
  rw [Std.Legacy.Range.forIn_eq_forIn_range']
  simp only [Std.Legacy.Range.size, Nat.sub_zero, Nat.add_sub_cancel, Nat.div_one]
  refine wpAny_forIn_list _
    (fun rest q s' => s' = s ∧ q = (none, ()) ∧ ∃ i, rest = List.range' i (es.size - i) ∧ i ≤ es.size)
    _ ?_ ?_ _ _ ⟨rfl, rfl, 0, by simp, Nat.zero_le _⟩
  · rintro x rest q s' ⟨rfl, rfl, i, hr', hi⟩
    have hlt : i < es.size := by
      rcases Nat.lt_or_ge i es.size with h | h
      · exact h
      · rw [Nat.sub_eq_zero_of_le h] at hr'; simp at hr'
    obtain ⟨rfl, hrest⟩ : x = i ∧ rest = List.range' (i + 1) (es.size - (i + 1)) := by
      have e : es.size - i = (es.size - (i + 1)) + 1 := by omega
      rw [e, List.range'_succ] at hr'
      injection hr' with h1 h2
      exact ⟨h1, h2⟩
    refine wpAny_bind (wpAny_dictEntries hoa hda ?_)
    have hltx : x < xs.length := by rw [← hla]; exact hlt
    have hex : es[x]? = some (entryOfKey knd xs[x]) := by rw [entry_at hea, List.getElem?_eq_getElem hltx]; rfl
    rw [hex]
    have hmem : xs[x] ∈ xs := List.getElem_mem hltx
    have hkey := hia _ hmem
    have hy : ∃ p, ys[x]? = some (xs[x].1, p) ∧ p.2 = xs[x].2.2 := by
      have hlty : x < ys.length := by omega
      have e1 : (ys.map (fun x => (x.1, x.2.2)))[x]? = some (xs[x].1, xs[x].2.2) := by rw [← hsame, List.getElem?_map, List.getElem?_eq_getElem hltx]; rfl
      rw [List.getElem?_map, List.getElem?_eq_getElem hlty] at e1
      have e2 : (ys[x].1, ys[x].2.2) = (xs[x].1, xs[x].2.2) := Option.some.inj e1
      refine ⟨ys[x].2, ?_, (Prod.mk.inj e2).2⟩
      rw [List.getElem?_eq_getElem hlty]
      have e3 : ys[x].1 = xs[x].1 := (Prod.mk.inj e2).1
      rw [← e3]
    obtain ⟨p, hp1, hp2⟩ := hy
    show wpAny _ _ (holding [Value.ref xs[x].2.1, xs[x].2.2] _ >>= _) _ _ _
    refine wpAny_bind (wpAny_holding (wpAny_bind (wpAny_dictFind_heap (knd := knd) (k := xs[x].1) hr hkey hob hdb heb hib hnb (fun hno => absurd hp1 (hno x p)) fun j q hj => ?_)))
    have hq : q.2 = xs[x].2.2 := by
      have hjl := (List.getElem?_eq_some_iff.mp hj).1
      have hxl := (List.getElem?_eq_some_iff.mp hp1).1
      have ej : j = x := by
        have n1 : (ys.map (·.1))[j]? = some xs[x].1 := by rw [List.getElem?_map, hj]; rfl
        have n2 : (ys.map (·.1))[x]? = some xs[x].1 := by rw [List.getElem?_map, hp1]; rfl
        exact nodup_get hnb n1 n2
      subst ej
      rw [hp1] at hj
      have := Option.some.inj hj
      have e4 : p = q := congrArg Prod.snd this
      rw [← e4]; exact hp2
    refine wpAny_bind (wpAny_dictEntries hob hdb ?_)
    have hej : es'[j]? = some (entryOfKey knd (xs[x].1, q)) := by rw [entry_at heb, hj]; rfl
    rw [hej]
    show wpAny _ _ (holding [q.2] (eqBool xs[x].2.2 q.2)) _ _ _
    rw [hq]
    refine wpAny_holding (SeqAt.EqAt.same _ _ _ _ _ ?_)
    show wpAny _ _ (if (!true) = true then _ else _) _ _ _
    rw [if_neg (by decide)]
    refine wpAny_bind (wpAny_dictEpoch hoa hda ?_)
    rw [if_neg (by simp)]
    exact wpAny_pure ⟨rfl, rfl, x + 1, hrest, hlt⟩
  · rintro q s' ⟨rfl, rfl, i, hr', hi⟩
    exact wpAny_pure h
theorem keqT_ne {a b : Addr} {xs ys : List (κ × Addr × Value)} {Q : Value → Shared → Prop} (hr : knd.room A.in1) (ha : (a == sysModules) = false) (hb : (b == sysModules) = false)
    (da : s.heap.DictOfH knd a xs) (db : s.heap.DictOfH knd b ys) (hsame : xs.map (fun x => (x.1, x.2.2)) = ys.map (fun x => (x.1, x.2.2))) (hu : A.units < cLine) (h : Q (.bool false) s) :
    wpAny (model prog w) A (compareOp .NotEq (.ref a) (.ref b)) Q E s := by
  refine wpAny_richCompare_same_room (op := .NotEq) da.typeIs db.typeIs PySem.F.slot_dict_ne (wpAny_call_entry PySem.F.slot_dict_ne da.typeIs PySem.F.entry_dict_ne ?_ (PySem.F.args_dict_ne_2 _ _)) hu
  show wpAny _ _ (Builtin.Dict.dictSlotArgs "__ne__" ⟨[.ref a, .ref b], []⟩ >>= _) _ _ s
  refine wpAny_bind ?_
  unfold Builtin.Dict.dictSlotArgs
  refine wpAny_bind (wpAny_notOrdered_dict da.typeIs ?_)
  show wpAny _ _ (pure (Value.ref a, Value.ref b)) _ _ s
  refine wpAny_pure ?_
  refine wpAny_bind (wpAny_isInstance (T := "dict") db.typeIs PySem.F.sub_dict_dict ?_)
  simp only [Bool.not_true, Bool.false_eq_true, if_false]
  refine wpAny_bind (wpAny_pure (wpAny_bind (wpAny_pure ?_)))
  refine wpAny_bind (samePairsT hr ha hb da db hsame ?_)
  refine wpAny_pure ⟨_, rfl, ?_, ?_⟩
  · exact fun x => nomatch x
  · simpa using h
end
section
variable {X : Cx}
/-- a != b of two dicts with tuple keys that hold the same objects -/
def rNeT : R2 := fun x y H Q => ∃ a b kvs, x = .ref a ∧ y = .ref b ∧ H a = some (.dT kvs) ∧ H b = some (.dT kvs) ∧ (∀ p ∈ kvs, ∃ c, p.2 = .ref c) ∧ Q (.bl false) H
theorem same_vals {H : Hp} : ∀ {kvs : List (List Key × V)} {xs ys : List (List Key × Addr × Value)}, KT H kvs xs → KT H kvs ys → (∀ p ∈ kvs, ∃ c, p.2 = .ref c) → xs.map (fun x => (x.1, x.2.2)) = ys.map (fun x => (x.1, x.2.2))
  | _, _, _, .nil, .nil, _ => rfl
  | _, _, _, .cons (a := p) a r, .cons b q, h => by
    obtain ⟨c, e⟩ := h _ List.mem_cons_self
    have ih := same_vals r q fun p hp => h p (List.mem_cons_of_mem _ hp)
    obtain ⟨a1, _, a2⟩ := a
    obtain ⟨b1, _, b2⟩ := b
    rw [e] at a2 b2
    have a2 := (show _ = Value.ref c from a2)
    have b2 := (show _ = Value.ref c from b2)
    rw [List.map_cons, List.map_cons, ih, ← a1, ← b1, a2, b2]
theorem op_neT (hu : X.A.units + 1 < cLine) : OpR X (compareOp .NotEq) rNeT := by
  intro pins s σ H x y v u Q I rx ry h
  obtain ⟨a, b, kvs, rfl, rfl, ea, eb, hv, q⟩ := h
  obtain rfl : v = Value.ref a := rx
  obtain rfl : u = Value.ref b := ry
  obtain ⟨_, ya, xa, ra, da⟩ := dt_of I.hok ea
  obtain ⟨_, yb, xb, rb, db⟩ := dt_of I.hok eb
  exact keqT_ne (knd := tupleKind (mixKind X.prog X.w)) (tupleKind_room_in1 hu) ya yb da db (same_vals ra rb hv) (by omega) ⟨.bl _, H, I, rfl, q⟩
end
end Ru

set_option Elab.async false
set_option linter.all false
set_option maxRecDepth 100000
set_option maxHeartbeats 2000000
/-! How cells, rows and what was built stand in the heap. -/
namespace Rp
open PySem PySem.Spec PyProof.Rows L2 Ru Mch
/-- tuples that can be read stay -/
def TEx (H H' : Hp) : Prop := ∀ a xs, Rd H a (.tup xs) → Rd H' a (.tup xs)
theorem TEx.refl (H : Hp) : TEx H H := fun _ _ h => h
theorem TEx.trans {H H1 H2 : Hp} (a : TEx H H1) (b : TEx H1 H2) : TEx H H2 := fun x o h => b x o (a x o h)
theorem TEx.of_same {H H' : Hp} (e : Same H H') : TEx H H' := fun a xs h => by
  rcases h with h | ⟨o, h⟩
  · exact Or.inl (e a _ h)
  · exact Or.inr ⟨o, e a _ h⟩
/-- a list that is written leaves the tuples -/
theorem TEx.upd_lst {H : Hp} {l : Addr} {xs ys : List V} (h : H l = some (.lst xs)) : TEx H (upd H l (.lst ys)) := fun a zs r => by
  have ne : a ≠ l := by
    rintro rfl
    rcases r with r | ⟨o, r⟩ <;> (rw [h] at r; cases r)
  rcases r with r | ⟨o, r⟩
  · exact Or.inl (by rw [upd_ne ne]; exact r)
  · exact Or.inr ⟨o, by rw [upd_ne ne]; exact r⟩
theorem TEx.upd_new {H : Hp} {l : Addr} {o : HO} (h : H l = none) : TEx H (upd H l o) := TEx.of_same fun b u e => by
  rw [upd_ne (ne_of_none e h)]; exact e
theorem TEx.sq {K : PySem.W.Frag} {H H' : Hp} {a : Addr} {xs : List V} (e : TEx H H') (h : SqT K H a xs) : SqT K H' a xs := by
  rcases h with h | h
  · exact Or.inl (e _ _ h)
  · exact Or.inr h
/-- all but the objects at l, m stand -/
def But2 (H H' : Hp) (l m : Addr) : Prop := ∀ b o, H b = some o → b ≠ l → b ≠ m → H' b = some o
theorem TEx.but2 {H H' : Hp} {l m : Addr} {xs ys : List V} (hl : H l = some (.lst xs)) (hm : H m = some (.lst ys)) (k : But2 H H' l m) : TEx H H' := fun a zs r => by
  have n1 : a ≠ l := by
    rintro rfl
    rcases r with r | ⟨o, r⟩ <;> (rw [hl] at r; cases r)
  have n2 : a ≠ m := by
    rintro rfl
    rcases r with r | ⟨o, r⟩ <;> (rw [hm] at r; cases r)
  rcases r with r | ⟨o, r⟩
  · exact Or.inl (k _ _ r n1 n2)
  · exact Or.inr ⟨o, k _ _ r n1 n2⟩

section
variable (K : PySem.W.Frag)
mutual
def CellAt (H : Hp) : V → Cell → Prop
  | v, .mk n cs => ∃ a b vs, v = .ref a ∧ SqT K H a [.int n, .ref b] ∧ SqT K H b vs ∧ CellsAt H vs cs
def CellsAt (H : Hp) : List V → List Cell → Prop
  | vs, [] => vs = []
  | vs, c :: r => ∃ v q, vs = v :: q ∧ CellAt H v c ∧ CellsAt H q r
end
end
section
variable {K : PySem.W.Frag} {H H' : Hp}
mutual
theorem CellAt.mono (e : TEx H H') : ∀ (c : Cell) (v : V), CellAt K H v c → CellAt K H' v c
  | .mk n cs, v, h => by
    unfold CellAt at h ⊢
    obtain ⟨a, b, vs, rfl, h1, h2, h3⟩ := h
    exact ⟨a, b, vs, rfl, e.sq h1, e.sq h2, CellsAt.mono e cs vs h3⟩
theorem CellsAt.mono (e : TEx H H') : ∀ (cs : List Cell) (vs : List V), CellsAt K H vs cs → CellsAt K H' vs cs
  | [], vs, h => by
    unfold CellsAt at h ⊢
    exact h
  | c :: r, vs, h => by
    unfold CellsAt at h ⊢
    obtain ⟨v, q, rfl, h1, h2⟩ := h
    exact ⟨v, q, rfl, CellAt.mono e c v h1, CellsAt.mono e r q h2⟩
end
theorem CellAt.to (e : TEx H H') {c : Cell} {v : V} (h : CellAt K H v c) : CellAt K H' v c := CellAt.mono e c v h
theorem CellsAt.to (e : TEx H H') {c : List Cell} {v : List V} (h : CellsAt K H v c) : CellsAt K H' v c := CellsAt.mono e c v h
theorem cellAt_mk {v : V} {n : Int} {cs : List Cell} : CellAt K H v (.mk n cs) ↔ ∃ a b vs, v = .ref a ∧ SqT K H a [.int n, .ref b] ∧ SqT K H b vs ∧ CellsAt K H vs cs := by unfold CellAt; exact Iff.rfl
theorem cells_nil {vs : List V} : CellsAt K H vs [] ↔ vs = [] := by unfold CellsAt; exact Iff.rfl
theorem cells_cons {vs : List V} {c : Cell} {r : List Cell} : CellsAt K H vs (c :: r) ↔ ∃ v q, vs = v :: q ∧ CellAt K H v c ∧ CellsAt K H q r := by rw [CellsAt]
theorem cells_len : ∀ {cs : List Cell} {vs : List V}, CellsAt K H vs cs → vs.length = cs.length
  | [], vs, h => by rw [cells_nil.mp h]; rfl
  | c :: r, vs, h => by
    obtain ⟨v, q, rfl, _, h2⟩ := cells_cons.mp h
    simp [cells_len h2]
theorem cells_append : ∀ {cs ds : List Cell} {vs ws : List V}, CellsAt K H vs cs → CellsAt K H ws ds → CellsAt K H (vs ++ ws) (cs ++ ds)
  | [], _, vs, ws, h, g => by rw [cells_nil.mp h]; exact g
  | c :: r, ds, vs, ws, h, g => by
    obtain ⟨v, q, rfl, h1, h2⟩ := cells_cons.mp h
    exact cells_cons.mpr ⟨v, q ++ ws, rfl, h1, cells_append h2 g⟩
theorem cells_split : ∀ {cs ds : List Cell} {vs : List V}, CellsAt K H vs (cs ++ ds) → ∃ us ws, vs = us ++ ws ∧ CellsAt K H us cs ∧ CellsAt K H ws ds
  | [], _, vs, h => ⟨[], vs, rfl, cells_nil.mpr rfl, h⟩
  | c :: r, ds, vs, h => by
    obtain ⟨v, q, rfl, h1, h2⟩ := cells_cons.mp h
    obtain ⟨us, ws, rfl, g1, g2⟩ := cells_split h2
    exact ⟨v :: us, ws, rfl, cells_cons.mpr ⟨v, us, rfl, h1, g1⟩, g2⟩
theorem cells_one {v : V} {c : Cell} : CellAt K H v c → CellsAt K H [v] [c] := fun h => cells_cons.mpr ⟨v, [], rfl, h, cells_nil.mpr rfl⟩
theorem cells_snoc {cs : List Cell} {vs : List V} {c : Cell} {v : V} (h : CellsAt K H vs cs) (g : CellAt K H v c) : CellsAt K H (vs ++ [v]) (cs ++ [c]) := cells_append h (cells_one g)
theorem cells_last {cs : List Cell} {vs : List V} {c : Cell} (h : CellsAt K H vs (cs ++ [c])) : ∃ q v, vs = q ++ [v] ∧ CellsAt K H q cs ∧ CellAt K H v c := by
  obtain ⟨us, ws, rfl, g1, g2⟩ := cells_split h
  obtain ⟨v, q, rfl, h1, h2⟩ := cells_cons.mp g2
  rw [cells_nil.mp h2]
  exact ⟨us, v, rfl, g1, h1⟩
theorem cells_get : ∀ {cs : List Cell} {vs : List V} {i : Nat} {c : Cell}, CellsAt K H vs cs → cs[i]? = some c → ∃ v, vs[i]? = some v ∧ CellAt K H v c
  | [], _, i, c, _, e => by simp at e
  | d :: r, vs, 0, c, h, e => by
    obtain ⟨v, q, rfl, h1, h2⟩ := cells_cons.mp h
    have e' : d = c := by simpa using e
    subst e'
    exact ⟨v, rfl, h1⟩
  | d :: r, vs, i + 1, c, h, e => by
    obtain ⟨v, q, rfl, h1, h2⟩ := cells_cons.mp h
    obtain ⟨w, e1, e2⟩ := cells_get (i := i) h2 (by simpa using e)
    exact ⟨w, by simpa using e1, e2⟩
theorem cells_take : ∀ {cs : List Cell} {vs : List V} (n : Nat), CellsAt K H vs cs → CellsAt K H (vs.take n) (cs.take n)
  | _, _, 0, _ => by simp [cells_nil]
  | [], vs, n + 1, h => by rw [cells_nil.mp h]; simp [cells_nil]
  | c :: r, vs, n + 1, h => by
    obtain ⟨v, q, rfl, h1, h2⟩ := cells_cons.mp h
    exact cells_cons.mpr ⟨v, q.take n, rfl, h1, cells_take n h2⟩
theorem cells_drop : ∀ {cs : List Cell} {vs : List V} (n : Nat), CellsAt K H vs cs → CellsAt K H (vs.drop n) (cs.drop n)
  | _, _, 0, h => h
  | [], vs, n + 1, h => by rw [cells_nil.mp h]; simp [cells_nil]
  | c :: r, vs, n + 1, h => by
    obtain ⟨v, q, rfl, h1, h2⟩ := cells_cons.mp h
    exact cells_drop n h2
theorem cellAt_ref {v : V} {c : Cell} (h : CellAt K H v c) : ∃ a, v = .ref a := by
  cases c with
  | mk n cs =>
    obtain ⟨a, _, _, rfl, _⟩ := cellAt_mk.mp h
    exact ⟨a, rfl⟩
end

/-! ### cells as data -/
mutual
def cellD : Cell → PyData
  | .mk n cs => .tuple [.int n, .tuple (cellsD cs)]
def cellsD : List Cell → List PyData
  | [] => []
  | c :: r => cellD c :: cellsD r
end
mutual
theorem cell_dp {K : PySem.W.Frag} {H : Hp} : ∀ (c : Cell) (v : V), CellAt K H v c → Dp K H v (cellD c)
  | .mk n cs, v, h => by
    obtain ⟨a, b, vs, rfl, h1, h2, h3⟩ := cellAt_mk.mp h
    unfold cellD
    exact .tup h1 (.cons (.int n) (.cons (.tup h2 (cells_dp cs vs h3)) .nil))
theorem cells_dp {K : PySem.W.Frag} {H : Hp} : ∀ (cs : List Cell) (vs : List V), CellsAt K H vs cs → DpAll K H vs (cellsD cs)
  | [], vs, h => by
    rw [cells_nil.mp h]; unfold cellsD; exact .nil
  | c :: r, vs, h => by
    obtain ⟨v, q, rfl, h1, h2⟩ := cells_cons.mp h
    unfold cellsD
    exact .cons (cell_dp c v h1) (cells_dp r q h2)
end
mutual
theorem cell_eqv : ∀ (c d : Cell), PyData.eqv (cellD c) (cellD d) = c.eqb d
  | .mk n cs, .mk m ds => by
    have ih := cells_eqv cs ds
    simp only [cellD, PyData.eqv, PyData.eqvAll, Cell.eqb, ih, Bool.and_true, Bool.beq_eq_decide_eq]
theorem cells_eqv : ∀ (cs ds : List Cell), PyData.eqvAll (cellsD cs) (cellsD ds) = eqbs cs ds
  | [], [] => by simp [cellsD, PyData.eqvAll, eqbs]
  | c :: r, d :: q => by
    have h1 := cell_eqv c d
    have h2 := cells_eqv r q
    simp [cellsD, PyData.eqvAll, eqbs, h1, h2]
  | [], _ :: _ => by simp [cellsD, PyData.eqvAll, eqbs]
  | _ :: _, [] => by simp [cellsD, PyData.eqvAll, eqbs]
end
mutual
theorem cell_can : ∀ c : Cell, (cellD c).canLay0 = true
  | .mk n cs => by
    have ih := cells_can cs
    simp [cellD, PyData.canLay0, PyData.canLayAll0, ih]
theorem cells_can : ∀ cs : List Cell, PyData.canLayAll0 (cellsD cs) = true
  | [] => by simp [cellsD, PyData.canLayAll0]
  | c :: r => by simp [cellsD, PyData.canLayAll0, cell_can c, cells_can r]
end
mutual
theorem cell_depth : ∀ c : Cell, (cellD c).depth ≤ 2 * c.depth
  | .mk n cs => by
    have ih := cells_depth cs
    simp only [cellD, PyData.depth, PyData.depthAll, Cell.depth]
    omega
theorem cells_depth : ∀ cs : List Cell, PyData.depthAll (cellsD cs) ≤ 2 * depths cs
  | [] => by simp [cellsD, PyData.depthAll]
  | c :: r => by
    have h1 := cell_depth c
    have h2 := cells_depth r
    simp only [cellsD, PyData.depthAll, depths]
    omega
end

/-! ### rows, what was built -/
abbrev Nm := Str × Str
def rowV : Row Nm → List V
  | .loc n => [.str "local", .int (n : Int)]
  | .drop => [.str "drop"]
  | .keep => [.str "keep"]
  | .forget n => [.str "forget", .int (n : Int)]
  | .part n => [.str "part", .int (n : Int)]
  | .make m n => [.str "make", .int m, .int (n : Int)]
  | .same => [.str "same"]
  | .call f n => [.str "call", .str f.1, .str f.2, .int (n : Int)]
  | .isr m to => [.str "is", .int m, .int (to : Int)]
  | .go to => [.str "go", .int (to : Int)]
  | .back => [.str "back"]
section
variable (K : PySem.W.Frag) (H : Hp)
def RowAt (v : V) (r : Row Nm) : Prop := ∃ a, v = .ref a ∧ SqT K H a (rowV r)
def RowsOf : List V → List (Row Nm) → Prop := Paired (RowAt K H)
def RowsAt (v : V) (rs : List (Row Nm)) : Prop := ∃ a vs, v = .ref a ∧ SqT K H a vs ∧ RowsOf K H vs rs
/-- (givens, rows) -/
def DefAt (v : V) (g : Nat) (rs : List (Row Nm)) : Prop := ∃ a r, v = .ref a ∧ SqT K H a [.int (g : Int), r] ∧ RowsAt K H r rs
def keyOf (f : Nm) : List Key := [Sum.inr f.1, Sum.inr f.2]
def BuiltOf (kvs : List (List Key × V)) (B : Built Nm) : Prop := ∀ f, (B f = none → valV kvs (keyOf f) = none) ∧ ∀ g rs, B f = some (g, rs) → ∃ v, valV kvs (keyOf f) = some v ∧ DefAt K H v g rs
end
section
variable {K : PySem.W.Frag} {H H' : Hp}
theorem RowAt.to (e : TEx H H') {v : V} {r : Row Nm} (h : RowAt K H v r) : RowAt K H' v r := by
  obtain ⟨a, rfl, h⟩ := h
  exact ⟨a, rfl, e.sq h⟩
theorem RowsOf.to (e : TEx H H') {vs : List V} {rs : List (Row Nm)} (h : RowsOf K H vs rs) : RowsOf K H' vs rs := L2.Paired.mapP h fun _ _ q => q.to e
theorem RowsAt.to (e : TEx H H') {v : V} {rs : List (Row Nm)} (h : RowsAt K H v rs) : RowsAt K H' v rs := by
  obtain ⟨a, vs, rfl, h1, h2⟩ := h
  exact ⟨a, vs, rfl, e.sq h1, h2.to e⟩
theorem DefAt.to (e : TEx H H') {v : V} {g : Nat} {rs : List (Row Nm)} (h : DefAt K H v g rs) : DefAt K H' v g rs := by
  obtain ⟨a, r, rfl, h1, h2⟩ := h
  exact ⟨a, r, rfl, e.sq h1, h2.to e⟩
theorem BuiltOf.to (e : TEx H H') {kvs : List (List Key × V)} {B : Built Nm} (h : BuiltOf K H kvs B) : BuiltOf K H' kvs B := fun f =>
  ⟨(h f).1, fun g rs q => by
    obtain ⟨v, h1, h2⟩ := (h f).2 g rs q
    exact ⟨v, h1, h2.to e⟩⟩
theorem paired_get {α β : Type} {F : α → β → Prop} : ∀ {xs : List α} {ys : List β} {i : Nat} {y : β}, Paired F xs ys → ys[i]? = some y → ∃ x, xs[i]? = some x ∧ F x y
  | _, _, _, _, .nil, e => by simp at e
  | _, _, 0, y, .cons (a := a) (b := b) f r, e => by
    have : b = y := by simpa using e
    subst this
    exact ⟨a, rfl, f⟩
  | _, _, i + 1, y, .cons f r, e => by
    obtain ⟨x, h1, h2⟩ := paired_get (i := i) r (by simpa using e)
    exact ⟨x, by simpa using h1, h2⟩
theorem paired_append {α β : Type} {F : α → β → Prop} : ∀ {xs zs : List α} {ys ws : List β}, Paired F xs ys → Paired F zs ws → Paired F (xs ++ zs) (ys ++ ws)
  | _, _, _, _, .nil, h => h
  | _, _, _, _, .cons f r, h => .cons f (paired_append r h)
theorem keyOf_map (f : Nm) : (keyOf f).map kV = [V.str f.1, V.str f.2] := rfl
theorem keyOf_inj {f g : Nm} (h : keyOf f = keyOf g) : f = g := by
  obtain ⟨a, b⟩ := f
  obtain ⟨c, d⟩ := g
  unfold keyOf at h
  injection h with h1 h2
  injection h2 with h2 _
  injection h1 with h1
  injection h2 with h2
  have e1 : a = c := h1
  have e2 : b = d := h2
  rw [e1, e2]
end
end Rp

set_option linter.all false
set_option maxRecDepth 100000
/-! Tolds and forms, and how their rows are written: the maker of rows in plain Lean. -/
namespace K87
open Mch
variable {N : Type}
mutual
inductive Form where
  | any | bind | make (m : Nat) (fs : Forms)
inductive Forms where
  | nil | cons (f : Form) (r : Forms)
end
mutual
inductive Told (N : Type) where
  | loc (n : Nat) | letT (a b : Told N) | ifT (a b c : Told N) | same (k : Nat) (a b : Told N) | case (k : Nat) (a : Told N) (arms : Arms N) | call (f : N) (ps : Tolds N) | make (k m : Nat) (ps : Tolds N)
inductive Tolds (N : Type) where
  | nil | cons (t : Told N) (r : Tolds N)
inductive Arms (N : Type) where
  | nil | cons (f : Form) (t : Told N) (r : Arms N)
end
def Forms.list : Forms → List Form
  | .nil => []
  | .cons f r => f :: r.list
def Tolds.list : Tolds N → List (Told N)
  | .nil => []
  | .cons t r => t :: r.list
def Arms.list : Arms N → List (Form × Told N)
  | .nil => []
  | .cons f t r => (f, t) :: r.list
/-! ### the state -/
structure St (N : Type) where
  rows : List (Row N)
  places : List Nat
  seats : List Nat
  held : Nat
def St.add (S : St N) (r : Row N) : St N := { S with rows := S.rows ++ [r] }
def St.addAll (S : St N) (rs : List (Row N)) : St N := { S with rows := S.rows ++ rs }
def St.put (S : St N) (k : Nat) : St N := { S with places := S.places.set k S.rows.length }
def St.seat (S : St N) (s : List Nat) (h : Nat) : St N := { S with seats := s, held := h }
def St.marks (S : St N) (n : Nat) : St N := { S with places := S.places ++ List.replicate n 0 }
/-! ### a form's tests -/
structure Ts (N : Type) where
  rows : List (Row N)
  bound : List Nat
  kept : Nat
def partRow (N : Type) : Option Nat → List (Row N)
  | none => []
  | some p => [.part p]
mutual
def testF (root first : Nat) : Form → Nat → Option Nat → Ts N → Ts N
  | .any, _, _, T => T
  | .bind, seat, none, T => ⟨T.rows, T.bound ++ [seat], T.kept⟩
  | .bind, seat, some p, T => ⟨T.rows ++ [.loc seat, .part p, .keep], T.bound ++ [root + T.kept + 1], T.kept + 1⟩
  | .make m .nil, seat, at_, T => ⟨T.rows ++ ([.loc seat] ++ partRow N at_ ++ [.isr (m : Int) (first + T.kept), .drop]), T.bound, T.kept⟩
  | .make m (.cons f r), seat, none, T => testFs root first (.cons f r) seat 0 ⟨T.rows ++ [.loc seat, .isr (m : Int) (first + T.kept), .drop], T.bound, T.kept⟩
  | .make m (.cons f r), seat, some p, T => testFs root first (.cons f r) (root + T.kept + 1) 0 ⟨T.rows ++ [.loc seat, .part p, .isr (m : Int) (first + T.kept), .keep], T.bound, T.kept + 1⟩
def testFs (root first : Nat) : Forms → Nat → Nat → Ts N → Ts N
  | .nil, _, _, T => T
  | .cons f r, seat, n, T => testFs root first r seat (n + 1) (testF root first f seat (some n) T)
end
def tests (N : Type) (f : Form) (root first : Nat) : Ts N := testF root first f root none ⟨[], [], 0⟩
/-! ### a told's rows -/
/-- mark first + at; forget 1: from at = n down to 1 -/
def undo (first : Nat) : Nat → St N → St N
  | 0, S => S
  | n + 1, S => undo first n ((S.put (first + (n + 1))).add (.forget 1))
def armMarks : Arms N → Nat → Nat → Nat
  | .nil, _, n => n
  | .cons f _ r, root, n => armMarks r root (n + 1 + (tests N f root n).kept)
mutual
def doT : Told N → St N → St N
  | .loc n, S => S.add (.loc (S.seats.getD n 0))
  | .letT a b, S => ((doT b (((doT a S).add .keep).seat (S.seats ++ [S.held]) (S.held + 1))).add (.forget 1)).seat S.seats S.held
  | .ifT a b c, S => (doT c ((((doT b (((doT a (S.marks 2)).add (.isr 1 S.places.length)).add .drop)).add (.go (S.places.length + 1))).put S.places.length).add .drop)).put (S.places.length + 1)
  | .same _ a b, S => (doT b (doT a S)).add .same
  | .call f ps, S => (doTs ps S).add (.call f ps.list.length)
  | .make _ m ps, S => (doTs ps S).add (.make (m : Int) ps.list.length)
  | .case _ a arms, S => (((doArms arms S.seats S.held S.places.length (S.places.length + 1) ((doT a (S.marks (armMarks arms S.held (S.places.length + 1) - S.places.length))).add .keep)).put S.places.length).add (.forget 1)).seat S.seats S.held
def doTs : Tolds N → St N → St N
  | .nil, S => S
  | .cons t r, S => doTs r (doT t S)
def doArms : Arms N → List Nat → Nat → Nat → Nat → St N → St N
  | .nil, _, _, _, _, S => S
  | .cons f t r, seats, held, e, first, S =>
    let T := tests N f held first
    let S1 := doT t ((S.addAll T.rows).seat (seats ++ T.bound) (held + 1 + T.kept))
    let S2 := (if 0 < T.kept then S1.add (.forget T.kept) else S1).add (.go e)
    let S3 := undo first T.kept S2
    doArms r seats held e (first + 1 + T.kept) (if T.rows = [] then S3 else (S3.put first).add .drop)
end
/-! ### the pieces that wait -/
inductive Piece (N : Type) where
  | told (t : Told N) | row (r : Row N) | mark (k : Nat) | seats (s : List Nat) (h : Nat)
def doP : Piece N → St N → St N
  | .told t, S => doT t S
  | .row r, S => S.add r
  | .mark k, S => S.put k
  | .seats s h, S => S.seat s h
def runP : List (Piece N) → St N → St N
  | [], S => S
  | p :: r, S => runP r (doP p S)
def undoP (first : Nat) : Nat → List (Piece N)
  | 0 => []
  | n + 1 => .mark (first + (n + 1)) :: .row (.forget 1) :: undoP first n
def armP (f : Form) (t : Told N) (seats : List Nat) (held e first : Nat) : List (Piece N) :=
  let T := tests N f held first
  T.rows.map .row ++ [.seats (seats ++ T.bound) (held + 1 + T.kept), .told t] ++ (if 0 < T.kept then [.row (.forget T.kept)] else []) ++ [.row (.go e)] ++ undoP first T.kept ++ (if T.rows = [] then [] else [.mark first, .row .drop])
def armsP : Arms N → List Nat → Nat → Nat → Nat → List (Piece N)
  | .nil, _, _, _, _ => []
  | .cons f t r, seats, held, e, first => armP f t seats held e first ++ armsP r seats held e (first + 1 + (tests N f held first).kept)
def putP : Told N → St N → List (Piece N)
  | .loc n, S => []
  | .letT a b, S => [.told a, .row .keep, .seats (S.seats ++ [S.held]) (S.held + 1), .told b, .row (.forget 1), .seats S.seats S.held]
  | .ifT a b c, S => [.told a, .row (.isr 1 S.places.length), .row .drop, .told b, .row (.go (S.places.length + 1)), .mark S.places.length, .row .drop, .told c, .mark (S.places.length + 1)]
  | .same _ a b, S => [.told a, .told b, .row .same]
  | .call f ps, S => ps.list.map .told ++ [.row (.call f ps.list.length)]
  | .make _ m ps, S => ps.list.map .told ++ [.row (.make (m : Int) ps.list.length)]
  | .case _ a arms, S => [.told a, .row .keep] ++ armsP arms S.seats S.held S.places.length (S.places.length + 1) ++ [.mark S.places.length, .row (.forget 1), .seats S.seats S.held]
def putS : Told N → St N → St N
  | .loc n, S => S.add (.loc (S.seats.getD n 0))
  | .ifT a b c, S => S.marks 2
  | .case _ a arms, S => S.marks (armMarks arms S.held (S.places.length + 1) - S.places.length)
  | _, S => S
theorem runP_append (p q : List (Piece N)) (S : St N) : runP (p ++ q) S = runP q (runP p S) := by
  induction p generalizing S with
  | nil => rfl
  | cons a r ih => exact ih _
theorem runP_rows (rs : List (Row N)) (S : St N) : runP (rs.map .row) S = S.addAll rs := by
  induction rs generalizing S with
  | nil => simp [runP, St.addAll]
  | cons a r ih =>
    rw [List.map_cons]
    show runP (r.map .row) (S.add a) = _
    rw [ih]
    simp [St.addAll, St.add]
theorem runP_undo (first : Nat) : ∀ (n : Nat) (S : St N), runP (undoP first n) S = undo first n S
  | 0, S => rfl
  | n + 1, S => runP_undo first n _
theorem runP_tolds : ∀ (ps : Tolds N) (S : St N), runP (ps.list.map .told) S = doTs ps S
  | .nil, S => rfl
  | .cons t r, S => by
    rw [doTs]
    exact runP_tolds r (doT t S)
theorem runP_arm (f : Form) (t : Told N) (seats : List Nat) (held e first : Nat) (S : St N) : runP (armP f t seats held e first) S =
    (let T := tests N f held first
     let S1 := doT t ((S.addAll T.rows).seat (seats ++ T.bound) (held + 1 + T.kept))
     let S2 := (if 0 < T.kept then S1.add (.forget T.kept) else S1).add (.go e)
     let S3 := undo first T.kept S2
     if T.rows = [] then S3 else (S3.put first).add .drop) := by
  unfold armP
  dsimp only
  generalize tests N f held first = T
  rw [runP_append, runP_append, runP_append, runP_append, runP_append, runP_rows, runP_undo]
  by_cases h1 : 0 < T.kept
  · rw [if_pos h1, if_pos h1]
    by_cases h2 : T.rows = []
    · rw [if_pos h2, if_pos h2]; rfl
    · rw [if_neg h2, if_neg h2]; rfl
  · rw [if_neg h1, if_neg h1]
    by_cases h2 : T.rows = []
    · rw [if_pos h2, if_pos h2]; rfl
    · rw [if_neg h2, if_neg h2]; rfl
theorem runP_arms (seats : List Nat) (held e : Nat) : ∀ (arms : Arms N) (first : Nat) (S : St N), runP (armsP arms seats held e first) S = doArms arms seats held e first S
  | .nil, first, S => by rw [doArms]; rfl
  | .cons f t r, first, S => by
    rw [armsP, runP_append, runP_arm, runP_arms seats held e r]
    rw [doArms]
/-- a told is done as its pieces are -/
theorem put_do (t : Told N) (S : St N) : runP (putP t S) (putS t S) = doT t S := by
  cases t with
  | loc n => rw [doT]; rfl
  | letT a b => rw [doT]; rfl
  | ifT a b c => rw [doT]; rfl
  | same k a b => rw [doT]; rfl
  | call f ps => rw [doT, putP, runP_append, runP_tolds]; rfl
  | make k m ps => rw [doT, putP, runP_append, runP_tolds]; rfl
  | case k a arms => rw [doT, putP, runP_append, runP_append, runP_arms]; rfl
theorem run_told (t : Told N) (r : List (Piece N)) (S : St N) : runP (.told t :: r) S = runP (putP t S ++ r) (putS t S) := by
  rw [runP_append, put_do]; rfl
/-! ### how many -/
mutual
def cntF : Form → Nat
  | .any => 1
  | .bind => 1
  | .make _ fs => 1 + cntFs fs
def cntFs : Forms → Nat
  | .nil => 0
  | .cons f r => cntF f + cntFs r
end
mutual
def cnt : Told N → Nat
  | .loc _ => 1
  | .letT a b => 1 + (cnt a + cnt b)
  | .ifT a b c => 1 + (cnt a + cnt b + cnt c)
  | .same _ a b => 1 + (cnt a + cnt b)
  | .call _ ps => 1 + cntTs ps
  | .make _ _ ps => 1 + cntTs ps
  | .case _ a arms => 1 + (cnt a + cntArms arms)
def cntTs : Tolds N → Nat
  | .nil => 0
  | .cons t r => cnt t + cntTs r
def cntArms : Arms N → Nat
  | .nil => 0
  | .cons f t r => cntF f + cnt t + cntArms r
end
theorem cntF_pos (f : Form) : 1 ≤ cntF f := by cases f <;> (rw [cntF]; try omega)
theorem cnt_pos (t : Told N) : 1 ≤ cnt t := by cases t <;> (rw [cnt]; try omega)
mutual
theorem testF_cnt (root first : Nat) : ∀ (f : Form) (seat : Nat) (at_ : Option Nat) (T : Ts N), (testF root first f seat at_ T).rows.length ≤ T.rows.length + 4 * cntF f ∧ T.kept ≤ (testF root first f seat at_ T).kept ∧ (testF root first f seat at_ T).kept ≤ T.kept + cntF f
  | .any, seat, at_, T => by rw [testF, cntF]; omega
  | .bind, seat, none, T => by rw [testF, cntF]; dsimp only; omega
  | .bind, seat, some p, T => by rw [testF, cntF]; simp
  | .make m .nil, seat, at_, T => by
    rw [testF, cntF, cntFs]
    cases at_ <;> simp [partRow]
  | .make m (.cons f r), seat, none, T => by
    rw [testF, cntF]
    have h := testFs_cnt root first (.cons f r) seat 0 (⟨T.rows ++ [.loc seat, .isr (m : Int) (first + T.kept), .drop], T.bound, T.kept⟩ : Ts N)
    simp only [List.length_append, List.length_cons, List.length_nil] at h
    omega
  | .make m (.cons f r), seat, some p, T => by
    rw [testF, cntF]
    have h := testFs_cnt root first (.cons f r) (root + T.kept + 1) 0 (⟨T.rows ++ [.loc seat, .part p, .isr (m : Int) (first + T.kept), .keep], T.bound, T.kept + 1⟩ : Ts N)
    simp only [List.length_append, List.length_cons, List.length_nil] at h
    omega
theorem testFs_cnt (root first : Nat) : ∀ (fs : Forms) (seat n : Nat) (T : Ts N), (testFs root first fs seat n T).rows.length ≤ T.rows.length + 4 * cntFs fs ∧ T.kept ≤ (testFs root first fs seat n T).kept ∧ (testFs root first fs seat n T).kept ≤ T.kept + cntFs fs
  | .nil, seat, n, T => by rw [testFs, cntFs]; omega
  | .cons f r, seat, n, T => by
    rw [testFs, cntFs]
    have h1 := testF_cnt root first f seat (some n) T
    have h2 := testFs_cnt root first r seat (n + 1) (testF root first f seat (some n) T)
    omega
end
theorem tests_cnt (f : Form) (root first : Nat) : (tests N f root first).rows.length ≤ 4 * cntF f ∧ (tests N f root first).kept ≤ cntF f := by
  have h := testF_cnt (N := N) root first f root none ⟨[], [], 0⟩
  unfold tests
  simp only [List.length_nil] at h
  omega
theorem undo_len (first : Nat) : ∀ (n : Nat) (S : St N), (undo first n S).rows.length = S.rows.length + n
  | 0, S => rfl
  | n + 1, S => by
    rw [undo, undo_len first n]
    simp [St.put, St.add]
    omega
mutual
theorem doT_cnt : ∀ (t : Told N) (S : St N), (doT t S).rows.length + 10 ≤ S.rows.length + 20 * cnt t
  | .loc n, S => by rw [doT, cnt]; simp [St.add]
  | .letT a b, S => by
    rw [doT, cnt]
    have h1 := doT_cnt a S
    have h2 := doT_cnt b (((doT a S).add .keep).seat (S.seats ++ [S.held]) (S.held + 1))
    simp only [St.add, St.seat, List.length_append, List.length_cons, List.length_nil] at h2 ⊢
    omega
  | .ifT a b c, S => by
    rw [doT, cnt]
    have h1 := doT_cnt a (S.marks 2)
    have h2 := doT_cnt b (((doT a (S.marks 2)).add (.isr 1 S.places.length)).add .drop)
    have h3 := doT_cnt c ((((doT b (((doT a (S.marks 2)).add (.isr 1 S.places.length)).add .drop)).add (.go (S.places.length + 1))).put S.places.length).add .drop)
    simp only [St.add, St.put, St.marks, List.length_append, List.length_cons, List.length_nil] at h1 h2 h3 ⊢
    omega
  | .same _ a b, S => by
    rw [doT, cnt]
    have h1 := doT_cnt a S
    have h2 := doT_cnt b (doT a S)
    simp only [St.add, List.length_append, List.length_cons, List.length_nil]
    omega
  | .call f ps, S => by
    rw [doT, cnt]
    have h1 := doTs_cnt ps S
    simp only [St.add, List.length_append, List.length_cons, List.length_nil]
    omega
  | .make k m ps, S => by
    rw [doT, cnt]
    have h1 := doTs_cnt ps S
    simp only [St.add, List.length_append, List.length_cons, List.length_nil]
    omega
  | .case k a arms, S => by
    rw [doT, cnt]
    have h1 := doT_cnt a (S.marks (armMarks arms S.held (S.places.length + 1) - S.places.length))
    have h2 := doArms_cnt arms S.seats S.held S.places.length (S.places.length + 1) ((doT a (S.marks (armMarks arms S.held (S.places.length + 1) - S.places.length))).add .keep)
    simp only [St.add, St.put, St.seat, St.marks, List.length_append, List.length_cons, List.length_nil] at h1 h2 ⊢
    omega
theorem doTs_cnt : ∀ (ps : Tolds N) (S : St N), (doTs ps S).rows.length ≤ S.rows.length + 20 * cntTs ps
  | .nil, S => by rw [doTs, cntTs]; omega
  | .cons t r, S => by
    rw [doTs, cntTs]
    have h1 := doT_cnt t S
    have h2 := doTs_cnt r (doT t S)
    omega
theorem doArms_cnt : ∀ (arms : Arms N) (seats : List Nat) (held e first : Nat) (S : St N), (doArms arms seats held e first S).rows.length ≤ S.rows.length + 20 * cntArms arms
  | .nil, seats, held, e, first, S => by rw [doArms, cntArms]; omega
  | .cons f t r, seats, held, e, first, S => by
    rw [doArms, cntArms]
    try dsimp only
    have h0 := tests_cnt (N := N) f held first
    have hp := cntF_pos f
    generalize tests N f held first = T at *
    have h1 := doT_cnt t ((S.addAll T.rows).seat (seats ++ T.bound) (held + 1 + T.kept))
    have h2 := doArms_cnt r seats held e (first + 1 + T.kept) (if T.rows = [] then undo first T.kept ((if 0 < T.kept then (doT t ((S.addAll T.rows).seat (seats ++ T.bound) (held + 1 + T.kept))).add (.forget T.kept) else doT t ((S.addAll T.rows).seat (seats ++ T.bound) (held + 1 + T.kept))).add (.go e)) else ((undo first T.kept ((if 0 < T.kept then (doT t ((S.addAll T.rows).seat (seats ++ T.bound) (held + 1 + T.kept))).add (.forget T.kept) else doT t ((S.addAll T.rows).seat (seats ++ T.bound) (held + 1 + T.kept))).add (.go e))).put first).add .drop)
    have h3 : (if 0 < T.kept then (doT t ((S.addAll T.rows).seat (seats ++ T.bound) (held + 1 + T.kept))).add (.forget T.kept) else doT t ((S.addAll T.rows).seat (seats ++ T.bound) (held + 1 + T.kept))).rows.length ≤ (doT t ((S.addAll T.rows).seat (seats ++ T.bound) (held + 1 + T.kept))).rows.length + 1 := by
      split <;> simp [St.add]
    generalize (if 0 < T.kept then (doT t ((S.addAll T.rows).seat (seats ++ T.bound) (held + 1 + T.kept))).add (.forget T.kept) else doT t ((S.addAll T.rows).seat (seats ++ T.bound) (held + 1 + T.kept))) = S9 at *
    have h4 : (if T.rows = [] then undo first T.kept (S9.add (.go e)) else ((undo first T.kept (S9.add (.go e))).put first).add .drop).rows.length ≤ S9.rows.length + 1 + T.kept + 1 := by
      have h5 := undo_len first T.kept (S9.add (.go e))
      have h6 : (S9.add (.go e)).rows.length = S9.rows.length + 1 := by simp [St.add]
      split
      · omega
      · simp only [St.put, St.add, List.length_append, List.length_cons, List.length_nil] at h5 ⊢
        omega
    have e1 : ((S.addAll T.rows).seat (seats ++ T.bound) (held + 1 + T.kept)).rows.length = S.rows.length + T.rows.length := by simp [St.addAll, St.seat]
    rw [e1] at h1
    omega
end
/-! ### the whole -/
def aim (Q : List Nat) : Row N → Row N
  | .isr m k => .isr m (Q.getD k 0)
  | .go k => .go (Q.getD k 0)
  | r => r
def start (many : Nat) : St N := ⟨[], [], List.range many, many⟩
def compile (many : Nat) (t : Told N) : List (Row N) :=
  let S := runP [.told t, .row .back] (start many)
  S.rows.map (aim S.places)
theorem compile_len (many : Nat) (t : Told N) : (compile many t).length ≤ 20 * cnt t := by
  have h := doT_cnt t (start many)
  unfold compile
  simp only [runP, doP, List.length_map, St.add, List.length_append, List.length_cons, List.length_nil]
  have e : (start many : St N).rows.length = 0 := rfl
  omega
end K87

set_option linter.all false
set_option maxRecDepth 100000
set_option maxHeartbeats 1000000
/-! What rows do, what tolds mean; forms and their tests. -/
namespace K87
open Mch
variable {N : Type}
inductive One (F : List (Row N)) (D : N → List Cell → Option Cell) : Nat → List Cell → List Cell → Nat → List Cell → List Cell → Prop
  | loc {i h s n c} : F[i]? = some (.loc n) → h[n]? = some c → One F D i h s (i + 1) h (c :: s)
  | drop {i h s c} : F[i]? = some .drop → One F D i h (c :: s) (i + 1) h s
  | keep {i h s c} : F[i]? = some .keep → One F D i h (c :: s) (i + 1) (h ++ [c]) s
  | forget {i h s n} : F[i]? = some (.forget n) → n ≤ h.length → One F D i h s (i + 1) (h.take (h.length - n)) s
  | part {i h s n m cs c} : F[i]? = some (.part n) → cs[n]? = some c → One F D i h (.mk m cs :: s) (i + 1) h (c :: s)
  | make {i h s m n} : F[i]? = some (.make m n) → n ≤ s.length → One F D i h s (i + 1) h (.mk m (s.take n).reverse :: s.drop n)
  | call {i h s f n v} : F[i]? = some (.call f n) → n ≤ s.length → D f (s.take n).reverse = some v → One F D i h s (i + 1) h (v :: s.drop n)
  | same {i h s c d} : F[i]? = some .same → c.depth ≤ 100 → One F D i h (c :: d :: s) (i + 1) h (boolC (c.eqb d) :: s)
  | isr {i h s m to n cs} : F[i]? = some (.isr m to) → i < to → One F D i h (.mk n cs :: s) (if n = m then i + 1 else to) h (.mk n cs :: s)
  | go {i h s to} : F[i]? = some (.go to) → i < to → One F D i h s to h s
inductive Go (F : List (Row N)) (D : N → List Cell → Option Cell) : Nat → List Cell → List Cell → Nat → List Cell → List Cell → Prop
  | refl {i h s} : Go F D i h s i h s
  | step {i h s i2 h2 s2 j h3 s3} : One F D i h s i2 h2 s2 → Go F D i2 h2 s2 j h3 s3 → Go F D i h s j h3 s3
section
variable {F : List (Row N)} {D : N → List Cell → Option Cell}
theorem One.lt {i h s j h2 s2} (o : One F D i h s j h2 s2) : i < j := by
  cases o <;> first
    | omega
    | (split <;> omega)
theorem Go.trans {i h s j h2 s2 k h3 s3} (a : Go F D i h s j h2 s2) (b : Go F D j h2 s2 k h3 s3) : Go F D i h s k h3 s3 := by
  induction a with
  | refl => exact b
  | step o _ ih => exact .step o (ih b)
theorem Go.one {i h s j h2 s2} (o : One F D i h s j h2 s2) : Go F D i h s j h2 s2 := .step o .refl
end
/-! ### kinds -/
def partsOf (kinds : List (List (List Nat))) (k m : Nat) : Option (List Nat) := (kinds[k]?).bind fun ms => ms[m]?
section
variable (kinds : List (List (List Nat)))
mutual
def CellK : Cell → Nat → Prop
  | .mk n cs, k => ∃ (m : Nat) (ps : List Nat), n = (m : Int) ∧ partsOf kinds k m = some ps ∧ CellsK cs ps
def CellsK : List Cell → List Nat → Prop
  | [], ps => ps = []
  | c :: r, ps => ∃ k q, ps = k :: q ∧ CellK c k ∧ CellsK r q
end
mutual
def FormK : Form → Nat → Prop
  | .any, _ => True
  | .bind, _ => True
  | .make m fs, k => ∃ ps, partsOf kinds k m = some ps ∧ FormsK fs ps
def FormsK : Forms → List Nat → Prop
  | .nil, ps => ps = []
  | .cons f r, ps => ∃ k q, ps = k :: q ∧ FormK f k ∧ FormsK r q
end
mutual
def boundK : Form → Nat → List Nat
  | .any, _ => []
  | .bind, k => [k]
  | .make m fs, k => boundsK fs ((partsOf kinds k m).getD [])
def boundsK : Forms → List Nat → List Nat
  | .nil, _ => []
  | .cons f r, ps => boundK f (ps.headD 0) ++ boundsK r ps.tail
end
end
mutual
def takes : Form → Cell → Bool
  | .any, _ => true
  | .bind, _ => true
  | .make m fs, .mk n cs => decide (n = (m : Int)) && takesL fs cs
def takesL : Forms → List Cell → Bool
  | .nil, _ => true
  | .cons f r, c :: q => takes f c && takesL r q
  | .cons _ _, [] => false
end
mutual
def found : Form → Cell → List Cell
  | .any, _ => []
  | .bind, c => [c]
  | .make _ fs, .mk _ cs => foundL fs cs
def foundL : Forms → List Cell → List Cell
  | .nil, _ => []
  | .cons f r, c :: q => found f c ++ foundL r q
  | .cons _ _, [] => []
end
section
variable {kinds : List (List (List Nat))}
theorem cellK_mk {n : Int} {cs : List Cell} {k : Nat} : CellK kinds (.mk n cs) k ↔ ∃ (m : Nat) (ps : List Nat), n = (m : Int) ∧ partsOf kinds k m = some ps ∧ CellsK kinds cs ps := by rw [CellK]
theorem cellsK_nil {ps : List Nat} : CellsK kinds [] ps ↔ ps = [] := by rw [CellsK]
theorem cellsK_cons {c : Cell} {r : List Cell} {ps : List Nat} : CellsK kinds (c :: r) ps ↔ ∃ k q, ps = k :: q ∧ CellK kinds c k ∧ CellsK kinds r q := by rw [CellsK]
theorem cellsK_append : ∀ {cs ds : List Cell} {ps qs : List Nat}, CellsK kinds cs ps → CellsK kinds ds qs → CellsK kinds (cs ++ ds) (ps ++ qs)
  | [], ds, ps, qs, h, g => by rw [cellsK_nil.mp h]; exact g
  | c :: r, ds, ps, qs, h, g => by
    obtain ⟨k, q, rfl, h1, h2⟩ := cellsK_cons.mp h
    exact cellsK_cons.mpr ⟨k, _, rfl, h1, cellsK_append h2 g⟩
theorem cellsK_len : ∀ {cs : List Cell} {ps : List Nat}, CellsK kinds cs ps → cs.length = ps.length
  | [], ps, h => by rw [cellsK_nil.mp h]; rfl
  | c :: r, ps, h => by
    obtain ⟨k, q, rfl, h1, h2⟩ := cellsK_cons.mp h
    simp [cellsK_len h2]
theorem cellsK_one {c : Cell} {k : Nat} (h : CellK kinds c k) : CellsK kinds [c] [k] := cellsK_cons.mpr ⟨k, [], rfl, h, cellsK_nil.mpr rfl⟩
theorem cellsK_get : ∀ {cs : List Cell} {ps : List Nat} {i k : Nat}, CellsK kinds cs ps → ps[i]? = some k → ∃ c, cs[i]? = some c ∧ CellK kinds c k
  | [], ps, i, k, h, e => by rw [cellsK_nil.mp h] at e; simp at e
  | c :: r, ps, 0, k, h, e => by
    obtain ⟨k', q, rfl, h1, h2⟩ := cellsK_cons.mp h
    have e' : k' = k := by simpa using e
    subst e'
    exact ⟨c, rfl, h1⟩
  | c :: r, ps, i + 1, k, h, e => by
    obtain ⟨k', q, rfl, h1, h2⟩ := cellsK_cons.mp h
    obtain ⟨d, e1, e2⟩ := cellsK_get (i := i) h2 (by simpa using e)
    exact ⟨d, by simpa using e1, e2⟩
mutual
theorem found_ok : ∀ (f : Form) (c : Cell) (k : Nat), FormK kinds f k → CellK kinds c k → takes f c = true → CellsK kinds (found f c) (boundK kinds f k)
  | .any, c, k, _, _, _ => by rw [found, boundK]; exact cellsK_nil.mpr rfl
  | .bind, c, k, _, hc, _ => by rw [found, boundK]; exact cellsK_one hc
  | .make m fs, .mk n cs, k, hf, hc, ht => by
    rw [FormK] at hf
    obtain ⟨ps, e1, hfs⟩ := hf
    obtain ⟨m', ps', rfl, e2, hcs⟩ := cellK_mk.mp hc
    rw [takes, Bool.and_eq_true, decide_eq_true_eq] at ht
    have em : m' = m := by omega
    subst em
    rw [e1] at e2
    cases e2
    rw [found, boundK, e1]
    exact founds_ok fs cs ps hfs hcs ht.2
theorem founds_ok : ∀ (fs : Forms) (cs : List Cell) (ps : List Nat), FormsK kinds fs ps → CellsK kinds cs ps → takesL fs cs = true → CellsK kinds (foundL fs cs) (boundsK kinds fs ps)
  | .nil, cs, ps, hf, hc, _ => by rw [foundL, boundsK]; exact cellsK_nil.mpr rfl
  | .cons f r, cs, ps, hf, hc, ht => by
    rw [FormsK] at hf
    obtain ⟨k, q, rfl, h1, h2⟩ := hf
    cases cs with
    | nil => have := cellsK_nil.mp hc; cases this
    | cons c d =>
      obtain ⟨k', q', e, g1, g2⟩ := cellsK_cons.mp hc
      cases e
      rw [takesL, Bool.and_eq_true] at ht
      rw [foundL, boundsK]
      exact cellsK_append (found_ok f c k h1 g1 ht.1) (founds_ok r d q h2 g2 ht.2)
end
end
/-! ### tests -/
def Placed (F : List (Row N)) (Q : List Nat) (b : Nat) (rows : List (Row N)) (lo : Nat) : Prop := ∀ i r, lo ≤ i → rows[i]? = some r → F[b + i]? = some (aim Q r)
theorem Placed.at {F : List (Row N)} {Q : List Nat} {b : Nat} {a : List (Row N)} {r : Row N} {z : List (Row N)} {lo : Nat} (h : Placed F Q b (a ++ r :: z) lo) (hl : lo ≤ a.length) : F[b + a.length]? = some (aim Q r) := h _ _ hl (by simp)
theorem Placed.mono {F : List (Row N)} {Q : List Nat} {b : Nat} {rows : List (Row N)} {lo lo' : Nat} (h : Placed F Q b rows lo) (hl : lo ≤ lo') : Placed F Q b rows lo' := fun i r h1 h2 => h i r (Nat.le_trans hl h1) h2
theorem Placed.pre {F : List (Row N)} {Q : List Nat} {b : Nat} {a z : List (Row N)} {lo : Nat} (h : Placed F Q b (a ++ z) lo) : Placed F Q b a lo := fun i r h1 h2 => h i r h1 (get_pre h2)
/-- where the tested cell is -/
def Subj (known : List Cell) (seat : Nat) (c : Cell) : Option Nat → Prop
  | none => known[seat]? = some c
  | some p => ∃ m cs, known[seat]? = some (.mk m cs) ∧ cs[p]? = some c
theorem known_more {known E : List Cell} {s : Nat} {c : Cell} (h : known[s]? = some c) : (known ++ E)[s]? = some c := get_pre h
theorem Subj.more {known E : List Cell} {seat : Nat} {c : Cell} {at_ : Option Nat} (h : Subj known seat c at_) : Subj (known ++ E) seat c at_ := by
  cases at_ with
  | none => exact known_more h
  | some p =>
    obtain ⟨m, cs, h1, h2⟩ := h
    exact ⟨m, cs, known_more h1, h2⟩
mutual
theorem testF_pre (root first : Nat) : ∀ (f : Form) (seat : Nat) (at_ : Option Nat) (T : Ts N), ∃ z, (testF root first f seat at_ T).rows = T.rows ++ z
  | .any, seat, at_, T => ⟨[], by rw [testF]; simp⟩
  | .bind, seat, none, T => ⟨[], by rw [testF]; simp⟩
  | .bind, seat, some p, T => ⟨_, by rw [testF]⟩
  | .make m .nil, seat, at_, T => ⟨_, by rw [testF]⟩
  | .make m (.cons f r), seat, none, T => by
    rw [testF]
    obtain ⟨z, e⟩ := testFs_pre root first (.cons f r) seat 0 (⟨T.rows ++ [.loc seat, .isr (m : Int) (first + T.kept), .drop], T.bound, T.kept⟩ : Ts N)
    exact ⟨_, by rw [e]; simp only [List.append_assoc]; rfl⟩
  | .make m (.cons f r), seat, some p, T => by
    rw [testF]
    obtain ⟨z, e⟩ := testFs_pre root first (.cons f r) (root + T.kept + 1) 0 (⟨T.rows ++ [.loc seat, .part p, .isr (m : Int) (first + T.kept), .keep], T.bound, T.kept + 1⟩ : Ts N)
    exact ⟨_, by rw [e]; simp only [List.append_assoc]; rfl⟩
theorem testFs_pre (root first : Nat) : ∀ (fs : Forms) (seat n : Nat) (T : Ts N), ∃ z, (testFs root first fs seat n T).rows = T.rows ++ z
  | .nil, seat, n, T => ⟨[], by rw [testFs]; simp⟩
  | .cons f r, seat, n, T => by
    rw [testFs]
    obtain ⟨z1, e1⟩ := testF_pre root first f seat (some n) T
    obtain ⟨z2, e2⟩ := testFs_pre root first r seat (n + 1) (testF root first f seat (some n) T)
    exact ⟨_, by rw [e2, e1, List.append_assoc]⟩
end
theorem placed_at {F : List (Row N)} {Q : List Nat} {b : Nat} {a z : List (Row N)} {lo j : Nat} {r : Row N} (h : Placed F Q b (a ++ z) lo) (hl : lo ≤ a.length) (e : z[j]? = some r) : F[b + a.length + j]? = some (aim Q r) := by
  have h2 := h (a.length + j) r (by omega) (by rw [List.getElem?_append_right (by omega)]; rw [show a.length + j - a.length = j by omega]; exact e)
  rw [← Nat.add_assoc] at h2
  exact h2
/-- seats that hold the cells -/
def Seated (B : List Nat) (K cs : List Cell) : Prop := B.map (fun s => K[s]?) = cs.map some
theorem Seated.nil {K : List Cell} : Seated [] K [] := rfl
theorem Seated.append {B B' : List Nat} {K cs ds : List Cell} (h : Seated B K cs) (g : Seated B' K ds) : Seated (B ++ B') K (cs ++ ds) := by
  unfold Seated at *
  rw [List.map_append, List.map_append, h, g]
theorem Seated.one {s : Nat} {K : List Cell} {c : Cell} (h : K[s]? = some c) : Seated [s] K [c] := by
  unfold Seated
  rw [List.map_cons, List.map_nil, List.map_cons, List.map_nil, h]
theorem Seated.more : ∀ {B : List Nat} {K cs : List Cell} (E : List Cell), Seated B K cs → Seated B (K ++ E) cs
  | [], K, [], E, h => rfl
  | [], K, c :: r, E, h => by unfold Seated at h; simp at h
  | s :: B, K, [], E, h => by unfold Seated at h; simp at h
  | s :: B, K, c :: r, E, h => by
    unfold Seated at h
    rw [List.map_cons, List.map_cons] at h
    injection h with h1 h2
    have ih := Seated.more (B := B) (K := K) (cs := r) E h2
    unfold Seated at ih ⊢
    rw [List.map_cons, List.map_cons, ih]
    rw [show (K ++ E)[s]? = some c from known_more h1]
theorem Seated.len {B : List Nat} {K cs : List Cell} (h : Seated B K cs) : B.length = cs.length := by
  have := congrArg List.length h
  simpa using this
theorem Seated.get {B : List Nat} {K cs : List Cell} (h : Seated B K cs) {n : Nat} {v : Cell} (e : cs[n]? = some v) : ∃ s, B[n]? = some s ∧ K[s]? = some v := by
  have h2 : (B.map (fun s => K[s]?))[n]? = (cs.map some)[n]? := by rw [h]
  rw [List.getElem?_map, List.getElem?_map, e] at h2
  cases q : B[n]? with
  | none => rw [q] at h2; simp at h2
  | some s =>
    rw [q] at h2
    exact ⟨s, rfl, by simpa using h2⟩
section
variable {kinds : List (List (List Nat))} {root first : Nat} {F : List (Row N)} {D : N → List Cell → Option Cell} {Q : List Nat}
/-- what tests do -/
def TestOk (F : List (Row N)) (D : N → List Cell → Option Cell) (Q : List Nat) (first b : Nat) (T T' : Ts N) (known stk : List Cell) (t : Bool) (fd : List Cell) : Prop :=
  (t = true → ∃ E B, T'.bound = T.bound ++ B ∧ T'.kept = T.kept + E.length ∧ Seated B (known ++ E) fd ∧ Go F D (b + T.rows.length) known stk (b + T'.rows.length) (known ++ E) stk) ∧
  (t = false → ∃ E x, T.kept + E.length ≤ T'.kept ∧ Go F D (b + T.rows.length) known stk (Q.getD (first + (T.kept + E.length)) 0) (known ++ E) (x :: stk))
/-- a piece ahead that only keeps -/
theorem TestOk.ahead {b : Nat} {T T1 T' : Ts N} {known stk E0 fd : List Cell} {t : Bool} (g : Go F D (b + T.rows.length) known stk (b + T1.rows.length) (known ++ E0) stk) (hb : T1.bound = T.bound) (hk : T1.kept = T.kept + E0.length) (h : TestOk F D Q first b T1 T' (known ++ E0) stk t fd) : TestOk F D Q first b T T' known stk t fd := by
  refine ⟨fun ht => ?_, fun ht => ?_⟩
  · obtain ⟨E, B, h1, h2, h3, h4⟩ := h.1 ht
    refine ⟨E0 ++ E, B, by rw [h1, hb], by rw [h2, hk, List.length_append]; omega, by rw [← List.append_assoc]; exact h3, ?_⟩
    rw [← List.append_assoc]
    exact g.trans h4
  · obtain ⟨E, x, h1, h2⟩ := h.2 ht
    refine ⟨E0 ++ E, x, by rw [List.length_append]; omega, ?_⟩
    rw [← List.append_assoc, List.length_append, ← Nat.add_assoc T.kept, ← hk]
    exact g.trans h2
mutual
theorem testF_ok : ∀ (f : Form) (seat : Nat) (at_ : Option Nat) (T : Ts N) (c : Cell) (k b : Nat) (known stk : List Cell), FormK kinds f k → CellK kinds c k → Subj known seat c at_ → known.length = root + 1 + T.kept →
    Placed F Q b (testF root first f seat at_ T).rows T.rows.length → (∀ j, j ≤ (testF root first f seat at_ T).kept → b + (testF root first f seat at_ T).rows.length ≤ Q.getD (first + j) 0) →
    TestOk F D Q first b T (testF root first f seat at_ T) known stk (takes f c) (found f c)
  | .any, seat, at_, T, c, k, b, known, stk, hf, hc, hs, hl, hP, hQ => by
    rw [testF, takes, found]
    exact ⟨fun _ => ⟨[], [], by simp, by simp, .nil, by rw [List.append_nil]; exact .refl⟩, fun z => by cases z⟩
  | .bind, seat, none, T, c, k, b, known, stk, hf, hc, hs, hl, hP, hQ => by
    rw [testF, takes, found]
    exact ⟨fun _ => ⟨[], [seat], by simp, by simp, by rw [List.append_nil]; exact .one hs, by rw [List.append_nil]; exact .refl⟩, fun z => by cases z⟩
  | .bind, seat, some p, T, c, k, b, known, stk, hf, hc, hs, hl, hP, hQ => by
    rw [testF] at hP hQ ⊢
    rw [takes, found]
    obtain ⟨m, cs, h1, h2⟩ := hs
    refine ⟨fun _ => ⟨[c], [root + T.kept + 1], rfl, rfl, .one ?_, ?_⟩, fun z => by cases z⟩
    · rw [List.getElem?_append_right (by omega), show root + T.kept + 1 - known.length = 0 by omega]; rfl
    · have e0 := placed_at (j := 0) hP (Nat.le_refl _) rfl
      have e1 := placed_at (j := 1) hP (Nat.le_refl _) rfl
      have e2 := placed_at (j := 2) hP (Nat.le_refl _) rfl
      have e : b + (T.rows ++ [Row.loc seat, .part p, .keep]).length = b + T.rows.length + 1 + 1 + 1 := by simp; omega
      dsimp only
      rw [e]
      exact .step (.loc e0 h1) (.step (.part e1 h2) (.step (.keep e2) .refl))
  | .make m .nil, seat, at_, T, .mk n cs, k, b, known, stk, hf, hc, hs, hl, hP, hQ => by
    rw [testF] at hP hQ ⊢
    rw [takes, takesL, Bool.and_true, found, foundL]
    dsimp only at hP hQ
    cases at_ with
    | none =>
      have hs' : known[seat]? = some (.mk n cs) := hs
      have e0 := placed_at (j := 0) hP (Nat.le_refl _) rfl
      have e1 := placed_at (j := 1) hP (Nat.le_refl _) rfl
      have e2 := placed_at (j := 2) hP (Nat.le_refl _) rfl
      have q0 := hQ T.kept (Nat.le_refl _)
      have e : b + (T.rows ++ ([Row.loc seat] ++ partRow N none ++ [Row.isr (m : Int) (first + T.kept), Row.drop])).length = b + T.rows.length + 1 + 1 + 1 := by simp [partRow]; omega
      rw [e] at q0
      refine ⟨fun ht => ⟨[], [], by simp, by simp, .nil, ?_⟩, fun ht => ⟨[], .mk n cs, by simp, ?_⟩⟩
      · have hn : n = (m : Int) := of_decide_eq_true ht
        dsimp only
        rw [List.append_nil, e]
        refine .step (.loc e0 hs') (.step (.isr e1 (by omega)) ?_)
        rw [if_pos hn]
        exact .step (.drop e2) .refl
      · have hn : ¬ n = (m : Int) := of_decide_eq_false ht
        rw [List.append_nil]
        refine .step (.loc e0 hs') (.step (.isr e1 (by omega)) ?_)
        rw [if_neg hn]
        exact .refl
    | some p =>
      obtain ⟨m0, cs0, h1, h2⟩ := hs
      have e0 := placed_at (j := 0) hP (Nat.le_refl _) rfl
      have e1 := placed_at (j := 1) hP (Nat.le_refl _) rfl
      have e2 := placed_at (j := 2) hP (Nat.le_refl _) rfl
      have e3 := placed_at (j := 3) hP (Nat.le_refl _) rfl
      have q0 := hQ T.kept (Nat.le_refl _)
      have e : b + (T.rows ++ ([Row.loc seat] ++ partRow N (some p) ++ [Row.isr (m : Int) (first + T.kept), Row.drop])).length = b + T.rows.length + 1 + 1 + 1 + 1 := by simp [partRow]; omega
      rw [e] at q0
      refine ⟨fun ht => ⟨[], [], by simp, by simp, .nil, ?_⟩, fun ht => ⟨[], .mk n cs, by simp, ?_⟩⟩
      · have hn : n = (m : Int) := of_decide_eq_true ht
        dsimp only
        rw [List.append_nil, e]
        refine .step (.loc e0 h1) (.step (.part e1 h2) (.step (.isr e2 (by omega)) ?_))
        rw [if_pos hn]
        exact .step (.drop e3) .refl
      · have hn : ¬ n = (m : Int) := of_decide_eq_false ht
        rw [List.append_nil]
        refine .step (.loc e0 h1) (.step (.part e1 h2) (.step (.isr e2 (by omega)) ?_))
        rw [if_neg hn]
        exact .refl
  | .make m (.cons f r), seat, none, T, .mk n cs, k, b, known, stk, hf, hc, hs, hl, hP, hQ => by
    rw [testF] at hP hQ ⊢
    rw [takes, found]
    have hs' : known[seat]? = some (.mk n cs) := hs
    rw [FormK] at hf
    obtain ⟨ps, k1, hfs⟩ := hf
    obtain ⟨m', ps', hn', k2, hcs⟩ := cellK_mk.mp hc
    obtain ⟨z, ez⟩ := testFs_pre root first (.cons f r) seat 0 (⟨T.rows ++ [.loc seat, .isr (m : Int) (first + T.kept), .drop], T.bound, T.kept⟩ : Ts N)
    have hc2 := testFs_cnt root first (.cons f r) seat 0 (⟨T.rows ++ [.loc seat, .isr (m : Int) (first + T.kept), .drop], T.bound, T.kept⟩ : Ts N)
    have hP1 := hP
    rw [ez] at hP1
    dsimp only at hP1 hc2
    rw [List.append_assoc] at hP1
    have e0 := placed_at (j := 0) hP1 (Nat.le_refl _) rfl
    have e1 := placed_at (j := 1) hP1 (Nat.le_refl _) rfl
    have e2 := placed_at (j := 2) hP1 (Nat.le_refl _) rfl
    have q0 := hQ T.kept hc2.2.1
    rw [ez] at q0
    dsimp only at q0
    have e : (T.rows ++ [Row.loc seat, .isr (m : Int) (first + T.kept), .drop]).length = T.rows.length + 3 := by simp
    rw [List.length_append, e] at q0
    by_cases hn : n = (m : Int)
    · have em : m' = m := by omega
      subst em
      rw [k1] at k2
      cases k2
      rw [decide_eq_true hn, Bool.true_and]
      refine TestOk.ahead (T1 := ⟨T.rows ++ [.loc seat, .isr (m' : Int) (first + T.kept), .drop], T.bound, T.kept⟩) (E0 := []) ?_ rfl rfl (by
        rw [List.append_nil]
        exact testFs_ok (.cons f r) seat 0 _ cs cs ps n b known stk hfs hcs hs' rfl hl (hP.mono (by simp)) hQ)
      dsimp only
      rw [List.append_nil, e]
      refine .step (.loc e0 hs') (.step (.isr e1 (by omega)) ?_)
      rw [if_pos hn]
      exact .step (.drop e2) .refl
    · rw [decide_eq_false hn, Bool.false_and]
      refine ⟨fun z => Bool.noConfusion z, fun _ => ⟨[], .mk n cs, by simpa using hc2.2.1, ?_⟩⟩
      rw [List.append_nil]
      refine .step (.loc e0 hs') (.step (.isr e1 (by omega)) ?_)
      rw [if_neg hn]
      exact .refl
  | .make m (.cons f r), seat, some p, T, .mk n cs, k, b, known, stk, hf, hc, hs, hl, hP, hQ => by
    rw [testF] at hP hQ ⊢
    rw [takes, found]
    obtain ⟨m0, cs0, h1, h2⟩ := hs
    rw [FormK] at hf
    obtain ⟨ps, k1, hfs⟩ := hf
    obtain ⟨m', ps', hn', k2, hcs⟩ := cellK_mk.mp hc
    obtain ⟨z, ez⟩ := testFs_pre root first (.cons f r) (root + T.kept + 1) 0 (⟨T.rows ++ [.loc seat, .part p, .isr (m : Int) (first + T.kept), .keep], T.bound, T.kept + 1⟩ : Ts N)
    have hc2 := testFs_cnt root first (.cons f r) (root + T.kept + 1) 0 (⟨T.rows ++ [.loc seat, .part p, .isr (m : Int) (first + T.kept), .keep], T.bound, T.kept + 1⟩ : Ts N)
    have hP1 := hP
    rw [ez] at hP1
    dsimp only at hP1 hc2
    rw [List.append_assoc] at hP1
    have e0 := placed_at (j := 0) hP1 (Nat.le_refl _) rfl
    have e1 := placed_at (j := 1) hP1 (Nat.le_refl _) rfl
    have e2 := placed_at (j := 2) hP1 (Nat.le_refl _) rfl
    have e3 := placed_at (j := 3) hP1 (Nat.le_refl _) rfl
    have q0 := hQ T.kept (by omega)
    rw [ez] at q0
    dsimp only at q0
    have e : (T.rows ++ [Row.loc seat, .part p, .isr (m : Int) (first + T.kept), .keep]).length = T.rows.length + 4 := by simp
    rw [List.length_append, e] at q0
    by_cases hn : n = (m : Int)
    · have em : m' = m := by omega
      subst em
      rw [k1] at k2
      cases k2
      rw [decide_eq_true hn, Bool.true_and]
      refine TestOk.ahead (T1 := ⟨T.rows ++ [.loc seat, .part p, .isr (m' : Int) (first + T.kept), .keep], T.bound, T.kept + 1⟩) (E0 := [.mk n cs]) ?_ rfl rfl
        (testFs_ok (.cons f r) (root + T.kept + 1) 0 _ cs cs ps n b (known ++ [.mk n cs]) stk hfs hcs ?_ rfl ?_ (hP.mono (by simp)) hQ)
      · dsimp only
        rw [e]
        refine .step (.loc e0 h1) (.step (.part e1 h2) (.step (.isr e2 (by omega)) ?_))
        rw [if_pos hn]
        exact .step (.keep e3) .refl
      · rw [List.getElem?_append_right (by omega), show root + T.kept + 1 - known.length = 0 by omega]; rfl
      · simp; omega
    · rw [decide_eq_false hn, Bool.false_and]
      refine ⟨fun z => Bool.noConfusion z, fun _ => ⟨[], .mk n cs, by simp; omega, ?_⟩⟩
      rw [List.append_nil]
      refine .step (.loc e0 h1) (.step (.part e1 h2) (.step (.isr e2 (by omega)) ?_))
      rw [if_neg hn]
      exact .refl
theorem testFs_ok : ∀ (fs : Forms) (seat n : Nat) (T : Ts N) (all cs : List Cell) (ps : List Nat) (m : Int) (b : Nat) (known stk : List Cell), FormsK kinds fs ps → CellsK kinds cs ps → known[seat]? = some (.mk m all) → all.drop n = cs → known.length = root + 1 + T.kept →
    Placed F Q b (testFs root first fs seat n T).rows T.rows.length → (∀ j, j ≤ (testFs root first fs seat n T).kept → b + (testFs root first fs seat n T).rows.length ≤ Q.getD (first + j) 0) →
    TestOk F D Q first b T (testFs root first fs seat n T) known stk (takesL fs cs) (foundL fs cs)
  | .nil, seat, n, T, all, cs, ps, m, b, known, stk, hf, hc, hs, hd, hl, hP, hQ => by
    rw [testFs, takesL, foundL]
    exact ⟨fun _ => ⟨[], [], by simp, by simp, .nil, by rw [List.append_nil]; exact .refl⟩, fun z => by cases z⟩
  | .cons f r, seat, n, T, all, [], ps, m, b, known, stk, hf, hc, hs, hd, hl, hP, hQ => by
    rw [FormsK] at hf
    obtain ⟨k, q, rfl, _⟩ := hf
    have := cellsK_nil.mp hc
    cases this
  | .cons f r, seat, n, T, all, c :: cs, ps, m, b, known, stk, hf, hc, hs, hd, hl, hP, hQ => by
    rw [testFs] at hP hQ ⊢
    rw [takesL, foundL]
    rw [FormsK] at hf
    obtain ⟨k, q, rfl, f1, f2⟩ := hf
    obtain ⟨k', q', eq, c1, c2⟩ := cellsK_cons.mp hc
    cases eq
    have hcn : all[n]? = some c := by
      have := congrArg (fun l => l[0]?) hd
      simpa using this
    obtain ⟨z, ez⟩ := testFs_pre root first r seat (n + 1) (testF root first f seat (some n) T)
    have hcc := testFs_cnt root first r seat (n + 1) (testF root first f seat (some n) T)
    have hP1 := hP
    rw [ez] at hP1
    have ih1 := testF_ok f seat (some n) T c k b known stk f1 c1 ⟨m, all, hs, hcn⟩ hl hP1.pre (fun j hj => by
      have := hQ j (by omega)
      rw [ez, List.length_append] at this
      omega)
    obtain ⟨z0, ez0⟩ := testF_pre root first f seat (some n) T
    have hT : T.rows.length ≤ (testF root first f seat (some n) T).rows.length := by rw [ez0]; simp
    have hk1 := testF_cnt root first f seat (some n) T
    cases ht : takes f c with
    | false =>
      rw [Bool.false_and]
      refine ⟨fun z => Bool.noConfusion z, fun _ => ?_⟩
      obtain ⟨E, x, h1, h2⟩ := ih1.2 ht
      exact ⟨E, x, by omega, h2⟩
    | true =>
      rw [Bool.true_and]
      obtain ⟨E, B, h1, h2, h3, h4⟩ := ih1.1 ht
      have ih2 := testFs_ok r seat (n + 1) (testF root first f seat (some n) T) all cs q m b (known ++ E) stk f2 c2 (known_more hs) (by rw [← List.drop_drop, hd]; rfl) (by rw [List.length_append]; omega) (hP.mono hT) hQ
      refine ⟨fun ht2 => ?_, fun ht2 => ?_⟩
      · obtain ⟨E2, B2, g1, g2, g3, g4⟩ := ih2.1 ht2
        refine ⟨E ++ E2, B ++ B2, by rw [g1, h1, List.append_assoc], by rw [g2, h2, List.length_append]; omega, ?_, ?_⟩
        · rw [← List.append_assoc]
          exact (h3.more E2).append g3
        · rw [← List.append_assoc]
          exact h4.trans g4
      · obtain ⟨E2, x, g1, g2⟩ := ih2.2 ht2
        refine ⟨E ++ E2, x, by rw [List.length_append]; omega, ?_⟩
        rw [← List.append_assoc, List.length_append, ← Nat.add_assoc T.kept, ← h2]
        exact h4.trans g2
end
end
end K87

set_option linter.all false
set_option maxRecDepth 100000
set_option maxHeartbeats 2000000
/-! What a told means, when it is well kinded; its rows do that. -/
namespace K87
open Mch
variable {N : Type}
section
variable (D : N → List Cell → Option Cell)
mutual
def worth : Told N → List Cell → Option Cell
  | .loc n, env => env[n]?
  | .letT a b, env => (worth a env).bind fun v => worth b (env ++ [v])
  | .ifT a b c, env => (worth a env).bind fun v => if v.num = 1 then worth b env else worth c env
  | .same _ a b, env => (worth a env).bind fun v => (worth b env).bind fun w => some (boolC (v.eqb w))
  | .call f ps, env => (worths ps env).bind fun vs => D f vs
  | .make _ m ps, env => (worths ps env).bind fun vs => some (.mk (m : Int) vs)
  | .case _ a arms, env => (worth a env).bind fun v => worthArms arms v env
def worths : Tolds N → List Cell → Option (List Cell)
  | .nil, _ => some []
  | .cons t r, env => (worth t env).bind fun v => (worths r env).bind fun vs => some (v :: vs)
def worthArms : Arms N → Cell → List Cell → Option Cell
  | .nil, _, _ => none
  | .cons f t r, c, env => if takes f c = true then worth t (env ++ found f c) else worthArms r c env
end
end
section
variable (kinds : List (List (List Nat))) (dk : N → List Nat → Nat → Prop)
def Covers (arms : Arms N) (kk : Nat) : Prop := ∀ c, CellK kinds c kk → ∃ p ∈ arms.list, takes p.1 c = true
mutual
def ToldK : Told N → List Nat → Nat → Prop
  | .loc n, G, k => G[n]? = some k
  | .letT a b, G, k => ∃ ka, ToldK a G ka ∧ ToldK b (G ++ [ka]) k
  | .ifT a b c, G, k => ToldK a G 0 ∧ ToldK b G k ∧ ToldK c G k
  | .same kk a b, G, k => k = 0 ∧ ToldK a G kk ∧ ToldK b G kk
  | .call f ps, G, k => ∃ gs, dk f gs k ∧ ToldsK ps G gs
  | .make kk m ps, G, k => kk = k ∧ ∃ qs, partsOf kinds k m = some qs ∧ ToldsK ps G qs
  | .case kk a arms, G, k => ToldK a G kk ∧ ArmsK arms G kk k ∧ Covers kinds arms kk
def ToldsK : Tolds N → List Nat → List Nat → Prop
  | .nil, _, ks => ks = []
  | .cons t r, G, ks => ∃ k q, ks = k :: q ∧ ToldK t G k ∧ ToldsK r G q
def ArmsK : Arms N → List Nat → Nat → Nat → Prop
  | .nil, _, _, _ => True
  | .cons f t r, G, kk, k => FormK kinds f kk ∧ ToldK t (G ++ boundK kinds f kk) k ∧ ArmsK r G kk k
end
end
/-! ### frames -/
def Keep (P : Nat → Prop) (A B : St N) : Prop := (∃ z, B.rows = A.rows ++ z) ∧ A.places.length ≤ B.places.length ∧ ∀ j, P j → j < A.places.length → B.places[j]? = A.places[j]?
theorem Keep.refl {P : Nat → Prop} (A : St N) : Keep P A A := ⟨⟨[], by simp⟩, Nat.le_refl _, fun _ _ _ => rfl⟩
theorem Keep.trans {P : Nat → Prop} {A B C : St N} (h : Keep P A B) (g : Keep P B C) : Keep P A C := by
  obtain ⟨⟨z1, e1⟩, l1, p1⟩ := h
  obtain ⟨⟨z2, e2⟩, l2, p2⟩ := g
  exact ⟨⟨z1 ++ z2, by rw [e2, e1, List.append_assoc]⟩, by omega, fun j hj hl => by rw [p2 j hj (by omega), p1 j hj hl]⟩
theorem Keep.weak {P R : Nat → Prop} {A B : St N} (h : Keep P A B) (w : ∀ j, R j → P j) : Keep R A B := ⟨h.1, h.2.1, fun j hj hl => h.2.2 j (w j hj) hl⟩
theorem Keep.rows {P : Nat → Prop} {A B : St N} (h : Keep P A B) : A.rows.length ≤ B.rows.length := by
  obtain ⟨⟨z, e⟩, _⟩ := h
  rw [e]; simp
theorem keep_add {P : Nat → Prop} {A : St N} {r : Row N} : Keep P A (A.add r) := ⟨⟨[r], rfl⟩, Nat.le_refl _, fun _ _ _ => rfl⟩
theorem keep_addAll {P : Nat → Prop} {A : St N} {r : List (Row N)} : Keep P A (A.addAll r) := ⟨⟨r, rfl⟩, Nat.le_refl _, fun _ _ _ => rfl⟩
theorem keep_seat {P : Nat → Prop} {A : St N} {s : List Nat} {h : Nat} : Keep P A (A.seat s h) := ⟨⟨[], by simp [St.seat]⟩, Nat.le_refl _, fun _ _ _ => rfl⟩
theorem keep_put {P : Nat → Prop} {A : St N} {k : Nat} (h : ¬ P k) : Keep P A (A.put k) := ⟨⟨[], by simp [St.put]⟩, by simp [St.put], fun j hj hl => by
  have : k ≠ j := fun e => h (e ▸ hj)
  simp [St.put, this]⟩
theorem keep_marks {P : Nat → Prop} {A : St N} {n : Nat} : Keep P A (A.marks n) := ⟨⟨[], by simp [St.marks]⟩, by simp [St.marks], fun j hj hl => by
  simp [St.marks, List.getElem?_append_left hl]⟩
theorem keep_undo {P : Nat → Prop} (first : Nat) : ∀ (n : Nat) (S : St N), (∀ j, P j → j < first + 1 ∨ first + n < j) → Keep P S (undo first n S)
  | 0, S, h => .refl S
  | n + 1, S, h => by
    rw [undo]
    refine Keep.trans (Keep.trans (keep_put fun z => ?_) keep_add) (keep_undo first n _ fun j hj => ?_)
    · have := h _ z; omega
    · have := h _ hj; omega
theorem undo_seats (first : Nat) : ∀ (n : Nat) (S : St N), (undo first n S).seats = S.seats ∧ (undo first n S).held = S.held
  | 0, S => ⟨rfl, rfl⟩
  | n + 1, S => by
    rw [undo]
    exact undo_seats first n _
theorem undo_rows (first : Nat) : ∀ (n : Nat) (S : St N), (undo first n S).rows = S.rows ++ List.replicate n (.forget 1)
  | 0, S => by simp [undo]
  | n + 1, S => by
    rw [undo, undo_rows first n, List.replicate_succ]
    simp [St.add, St.put]
theorem undo_places (first : Nat) : ∀ (n : Nat) (S : St N) (k : Nat), 1 ≤ k → k ≤ n → first + n < S.places.length → (undo first n S).places[first + k]? = some (S.rows.length + (n - k))
  | 0, S, k, h1, h2, h3 => by omega
  | n + 1, S, k, h1, h2, h3 => by
    rw [undo]
    by_cases e : k = n + 1
    · subst e
      have kp := keep_undo (P := fun j => j = first + (n + 1)) first n ((S.put (first + (n + 1))).add (.forget 1)) fun j hj => by omega
      rw [kp.2.2 _ rfl (by simp [St.put, St.add]; omega)]
      simp [St.put, St.add, h3]
    · rw [undo_places first n _ k h1 (by omega) (by simp [St.put, St.add]; omega)]
      simp [St.put, St.add]
      omega
theorem armMarks_le : ∀ (arms : Arms N) (root n : Nat), n ≤ armMarks arms root n
  | .nil, root, n => by rw [armMarks]; omega
  | .cons f t r, root, n => by
    rw [armMarks]
    have := armMarks_le r root (n + 1 + (tests N f root n).kept)
    omega
mutual
theorem doT_frame : ∀ (t : Told N) (S : St N), Keep (fun j => j < S.places.length) S (doT t S) ∧ (doT t S).seats = S.seats ∧ (doT t S).held = S.held
  | .loc n, S => by rw [doT]; exact ⟨keep_add, rfl, rfl⟩
  | .letT a b, S => by
    rw [doT]
    have h1 := doT_frame a S
    have h2 := doT_frame b (((doT a S).add .keep).seat (S.seats ++ [S.held]) (S.held + 1))
    exact ⟨(((h1.1.trans keep_add).trans keep_seat).trans (h2.1.weak fun j hj => Nat.lt_of_lt_of_le hj h1.1.2.1)).trans (keep_add.trans keep_seat), rfl, rfl⟩
  | .ifT a b c, S => by
    rw [doT]
    have h1 := doT_frame a (S.marks 2)
    have h2 := doT_frame b (((doT a (S.marks 2)).add (.isr 1 S.places.length)).add .drop)
    have h3 := doT_frame c ((((doT b (((doT a (S.marks 2)).add (.isr 1 S.places.length)).add .drop)).add (.go (S.places.length + 1))).put S.places.length).add .drop)
    have l0 : (S.marks 2).places.length = S.places.length + 2 := by simp [St.marks]
    have l1 := h1.1.2.1
    have l2 := h2.1.2.1
    have l2' : (doT a (S.marks 2)).places.length ≤ (doT b (((doT a (S.marks 2)).add (.isr 1 S.places.length)).add .drop)).places.length := l2
    have l3' : ((((doT b (((doT a (S.marks 2)).add (.isr 1 S.places.length)).add .drop)).add (.go (S.places.length + 1))).put S.places.length).add .drop).places.length = (doT b (((doT a (S.marks 2)).add (.isr 1 S.places.length)).add .drop)).places.length := by simp [St.put, St.add]
    refine ⟨?_, ?_, ?_⟩
    · refine (keep_marks.trans (h1.1.weak fun j hj => by omega)).trans ((keep_add.trans keep_add).trans ((h2.1.weak fun j hj => ?_).trans (((keep_add.trans (keep_put (by omega))).trans keep_add).trans ((h3.1.weak fun j hj => by omega).trans (keep_put (by omega))))))
      show j < (doT a (S.marks 2)).places.length
      omega
    · show (doT c _).seats = _
      rw [h3.2.1]
      show (doT b _).seats = _
      rw [h2.2.1]
      show (doT a _).seats = _
      rw [h1.2.1]
      rfl
    · show (doT c _).held = _
      rw [h3.2.2]
      show (doT b _).held = _
      rw [h2.2.2]
      show (doT a _).held = _
      rw [h1.2.2]
      rfl
  | .same k a b, S => by
    rw [doT]
    have h1 := doT_frame a S
    have h2 := doT_frame b (doT a S)
    exact ⟨(h1.1.trans (h2.1.weak fun j hj => Nat.lt_of_lt_of_le hj h1.1.2.1)).trans keep_add, h2.2.1.trans h1.2.1, h2.2.2.trans h1.2.2⟩
  | .call f ps, S => by
    rw [doT]
    have h1 := doTs_frame ps S
    exact ⟨h1.1.trans keep_add, h1.2⟩
  | .make k m ps, S => by
    rw [doT]
    have h1 := doTs_frame ps S
    exact ⟨h1.1.trans keep_add, h1.2⟩
  | .case k a arms, S => by
    rw [doT]
    have h1 := doT_frame a (S.marks (armMarks arms S.held (S.places.length + 1) - S.places.length))
    have la := armMarks_le arms S.held (S.places.length + 1)
    have l0 : (S.marks (armMarks arms S.held (S.places.length + 1) - S.places.length)).places.length = armMarks arms S.held (S.places.length + 1) := by simp [St.marks]; omega
    have h2 := doArms_frame arms S.seats S.held S.places.length (S.places.length + 1) ((doT a (S.marks (armMarks arms S.held (S.places.length + 1) - S.places.length))).add .keep)
    have l1 : (S.marks (armMarks arms S.held (S.places.length + 1) - S.places.length)).places.length ≤ ((doT a (S.marks (armMarks arms S.held (S.places.length + 1) - S.places.length))).add .keep).places.length := h1.1.2.1
    exact ⟨(keep_marks.trans (h1.1.weak fun j hj => by omega)).trans ((keep_add.trans (h2.weak fun j hj => by omega)).trans ((keep_put (by omega)).trans (keep_add.trans keep_seat))), rfl, rfl⟩
theorem doTs_frame : ∀ (ps : Tolds N) (S : St N), Keep (fun j => j < S.places.length) S (doTs ps S) ∧ (doTs ps S).seats = S.seats ∧ (doTs ps S).held = S.held
  | .nil, S => by rw [doTs]; exact ⟨.refl S, rfl, rfl⟩
  | .cons t r, S => by
    rw [doTs]
    have h1 := doT_frame t S
    have h2 := doTs_frame r (doT t S)
    exact ⟨h1.1.trans (h2.1.weak fun j hj => Nat.lt_of_lt_of_le hj h1.1.2.1), h2.2.1.trans h1.2.1, h2.2.2.trans h1.2.2⟩
theorem doArms_frame : ∀ (arms : Arms N) (seats : List Nat) (held e first : Nat) (S : St N), Keep (fun j => j < S.places.length ∧ (j < first ∨ armMarks arms held first ≤ j)) S (doArms arms seats held e first S)
  | .nil, seats, held, e, first, S => by rw [doArms]; exact .refl S
  | .cons f t r, seats, held, e, first, S => by
    rw [doArms, armMarks]
    try dsimp only
    generalize tests N f held first = T
    have la := armMarks_le r held (first + 1 + T.kept)
    have h1 := doT_frame t ((S.addAll T.rows).seat (seats ++ T.bound) (held + 1 + T.kept))
    have l1 : S.places.length ≤ (doT t ((S.addAll T.rows).seat (seats ++ T.bound) (held + 1 + T.kept))).places.length := h1.1.2.1
    have k1 : Keep (fun j => j < S.places.length ∧ (j < first ∨ armMarks r held (first + 1 + T.kept) ≤ j)) S (doT t ((S.addAll T.rows).seat (seats ++ T.bound) (held + 1 + T.kept))) :=
      (keep_addAll.trans keep_seat).trans (h1.1.weak fun j hj => hj.1)
    generalize doT t ((S.addAll T.rows).seat (seats ++ T.bound) (held + 1 + T.kept)) = S1 at *
    have k2 : Keep (fun j => j < S.places.length ∧ (j < first ∨ armMarks r held (first + 1 + T.kept) ≤ j)) S1 ((if 0 < T.kept then S1.add (.forget T.kept) else S1).add (.go e)) := by
      split
      · exact keep_add.trans keep_add
      · exact keep_add
    generalize (if 0 < T.kept then S1.add (.forget T.kept) else S1).add (.go e) = S2 at *
    have k3 : Keep (fun j => j < S.places.length ∧ (j < first ∨ armMarks r held (first + 1 + T.kept) ≤ j)) S2 (if T.rows = [] then undo first T.kept S2 else ((undo first T.kept S2).put first).add .drop) := by
      have ku : Keep (fun j => j < S.places.length ∧ (j < first ∨ armMarks r held (first + 1 + T.kept) ≤ j)) S2 (undo first T.kept S2) := keep_undo first T.kept S2 fun j hj => by omega
      split
      · exact ku
      · exact ku.trans ((keep_put (by omega)).trans keep_add)
    have l3 := (k1.trans (k2.trans k3)).2.1
    generalize (if T.rows = [] then undo first T.kept S2 else ((undo first T.kept S2).put first).add .drop) = S4 at *
    have h4 := doArms_frame r seats held e (first + 1 + T.kept) S4
    exact (k1.trans (k2.trans k3)).trans (h4.weak fun j hj => by omega)
end
end K87

set_option linter.all false
set_option maxRecDepth 100000
set_option maxHeartbeats 4000000
namespace K87
open Mch
variable {N : Type}
/-- the final rows and places, from rows r and places lo on -/
def Fits (F : List (Row N)) (Q : List Nat) (r lo : Nat) (B : St N) : Prop := (∀ i x, r ≤ i → B.rows[i]? = some x → F[i]? = some (aim Q x)) ∧ ∀ j, lo ≤ j → j < B.places.length → Q[j]? = B.places[j]?
section
variable {F : List (Row N)} {Q : List Nat} {D : N → List Cell → Option Cell}
theorem Fits.sub {P : Nat → Prop} {r r' lo lo' : Nat} {Y B : St N} (h : Fits F Q r lo B) (hr : r ≤ r') (hlo : lo ≤ lo') (k : Keep P Y B) (hP : ∀ j, lo' ≤ j → j < Y.places.length → P j) : Fits F Q r' lo' Y := by
  obtain ⟨⟨z, e⟩, l, p⟩ := k
  refine ⟨fun i x hi hx => h.1 i x (by omega) (by rw [e]; exact get_pre hx), fun j hj hl => ?_⟩
  rw [h.2 j (by omega) (by omega), p j (hP j hj hl) hl]
theorem fits_row {P : Nat → Prop} {r lo : Nat} {Y B : St N} {x : Row N} (h : Fits F Q r lo B) (k : Keep P (Y.add x) B) (hr : r ≤ Y.rows.length) : F[Y.rows.length]? = some (aim Q x) := by
  obtain ⟨⟨z, e⟩, _⟩ := k
  exact h.1 _ x hr (by rw [e]; exact get_pre (by simp [St.add]))
theorem getD_of {Q : List Nat} {j v : Nat} (h : Q[j]? = some v) : Q.getD j 0 = v := by rw [List.getD_eq_getElem?_getD, h]; rfl
theorem add_len (S : St N) (r : Row N) : (S.add r).rows.length = S.rows.length + 1 := by simp [St.add]
theorem go_forgets (s : List Cell) (K : List Cell) : ∀ (n : Nat) (i : Nat) (E : List Cell), E.length = n → (∀ j, j < n → F[i + j]? = some (.forget 1)) → Go F D i (K ++ E) s (i + n) K s
  | 0, i, E, hE, h => by
    rw [List.eq_nil_of_length_eq_zero hE, List.append_nil]
    exact .refl
  | n + 1, i, E, hE, h => by
    have e0 : F[i]? = some (.forget 1) := h 0 (by omega)
    have ih := go_forgets s K n (i + 1) (E.take n) (by rw [List.length_take]; omega) fun j hj => by
      have := h (j + 1) (by omega)
      rw [show i + 1 + j = i + (j + 1) by omega]
      exact this
    rw [show i + (n + 1) = i + 1 + n by omega]
    refine .step (.forget e0 (by rw [List.length_append]; omega)) ?_
    have e : (K ++ E).take ((K ++ E).length - 1) = K ++ E.take n := by
      rw [List.length_append, hE, show K.length + (n + 1) - 1 = K.length + n by omega, List.take_append, List.take_of_length_le (Nat.le_add_right _ _), Nat.add_sub_cancel_left]
    rw [e]
    exact ih
theorem forget_one {K : List Cell} {c : Cell} : (K ++ [c]).take ((K ++ [c]).length - 1) = K := by
  rw [List.length_append]
  show (K ++ [c]).take (K.length + 1 - 1) = K
  rw [Nat.add_sub_cancel, List.take_left']
  rfl
theorem forget_all {K E : List Cell} {n : Nat} (h : E.length = n) : (K ++ E).take ((K ++ E).length - n) = K := by
  rw [List.length_append, h, Nat.add_sub_cancel, List.take_left']
  rfl
end
mutual
theorem eqb_comm : ∀ (a b : Cell), a.eqb b = b.eqb a
  | .mk n cs, .mk m ds => by
    rw [Cell.eqb, Cell.eqb, eqbs_comm cs ds]
    congr 1
    exact decide_eq_decide.mpr ⟨Eq.symm, Eq.symm⟩
theorem eqbs_comm : ∀ (a b : List Cell), eqbs a b = eqbs b a
  | [], [] => rfl
  | c :: r, d :: q => by rw [eqbs, eqbs, eqb_comm c d, eqbs_comm r q]
  | [], _ :: _ => by simp [eqbs]
  | _ :: _, [] => by simp [eqbs]
end
section
variable {kinds : List (List (List Nat))} {dk : N → List Nat → Nat → Prop} {F : List (Row N)} {Q : List Nat} {D : N → List Cell → Option Cell}
variable (h0 : kinds[0]? = some [[], []]) (hD : ∀ f gs k cs, dk f gs k → CellsK kinds cs gs → ∃ v, D f cs = some v ∧ CellK kinds v k)
include h0 in
theorem bool_kind (b : Bool) : CellK kinds (boolC b) 0 := by
  cases b
  · exact cellK_mk.mpr ⟨0, [], rfl, by simp [partsOf, h0], cellsK_nil.mpr rfl⟩
  · exact cellK_mk.mpr ⟨1, [], rfl, by simp [partsOf, h0], cellsK_nil.mpr rfl⟩
variable (hd4 : ∀ c k, CellK kinds c k → c.depth ≤ 100)
include h0 hD hd4 in
mutual
theorem doT_ok : ∀ (t : Told N) (G : List Nat) (k : Nat) (S : St N) (env known stk : List Cell), ToldK kinds dk t G k → CellsK kinds env G → Seated S.seats known env → known.length = S.held → Fits F Q S.rows.length S.places.length (doT t S) →
    ∃ v, worth D t env = some v ∧ CellK kinds v k ∧ Go F D S.rows.length known stk (doT t S).rows.length known (v :: stk)
  | .loc n, G, k, S, env, known, stk, ht, he, hs, hk, hF => by
    rw [ToldK] at ht
    rw [doT] at hF ⊢
    rw [worth]
    obtain ⟨v, e1, e2⟩ := cellsK_get he ht
    obtain ⟨s, g1, g2⟩ := hs.get e1
    refine ⟨v, e1, e2, ?_⟩
    rw [add_len]
    have := fits_row hF (.refl (P := fun _ => True) _) (Nat.le_refl _)
    rw [getD_of g1] at this
    exact .one (.loc this g2)
  | .letT a b, G, k, S, env, known, stk, ht, he, hs, hk, hF => by
    rw [ToldK] at ht
    obtain ⟨ka, ha, hb⟩ := ht
    rw [doT] at hF ⊢
    rw [worth]
    have fa := doT_frame a S
    have fb := doT_frame b (((doT a S).add .keep).seat (S.seats ++ [S.held]) (S.held + 1))
    have kab : Keep (fun j => j < (doT a S).places.length) (doT a S) (doT b (((doT a S).add .keep).seat (S.seats ++ [S.held]) (S.held + 1))) := (keep_add.trans keep_seat).trans fb.1
    have kend : Keep (fun _ => True) (doT b (((doT a S).add .keep).seat (S.seats ++ [S.held]) (S.held + 1))) (((doT b (((doT a S).add .keep).seat (S.seats ++ [S.held]) (S.held + 1))).add (.forget 1)).seat S.seats S.held) := keep_add.trans keep_seat
    obtain ⟨v, ev, hv, gv⟩ := doT_ok a G ka S env known stk ha he hs hk (hF.sub (Nat.le_refl _) (Nat.le_refl _) (kab.trans (kend.weak fun _ _ => trivial)) fun j _ hj => hj)
    have r1 := fits_row (Y := doT a S) (x := .keep) hF ((keep_seat.trans fb.1).trans (kend.weak fun _ _ => trivial)) fa.1.rows
    obtain ⟨u, eu, hu, gu⟩ := doT_ok b (G ++ [ka]) k (((doT a S).add .keep).seat (S.seats ++ [S.held]) (S.held + 1)) (env ++ [v]) (known ++ [v]) stk hb (cellsK_append he (cellsK_one hv)) ((hs.more [v]).append (.one (by rw [← hk]; simp))) (by simp [St.seat, hk])
      (hF.sub (by show S.rows.length ≤ ((doT a S).add .keep).rows.length; have := fa.1.rows; rw [add_len]; omega) (by exact fa.1.2.1) kend fun j _ hj => trivial)
    have r2 := fits_row (Y := doT b (((doT a S).add .keep).seat (S.seats ++ [S.held]) (S.held + 1))) (x := .forget 1) hF (keep_seat (P := fun _ => True)) (Nat.le_trans fa.1.rows kab.rows)
    refine ⟨u, by rw [ev]; exact eu, hu, ?_⟩
    refine gv.trans (.step (.keep r1) ?_)
    have gu' : Go F D ((doT a S).rows.length + 1) (known ++ [v]) stk (doT b (((doT a S).add .keep).seat (S.seats ++ [S.held]) (S.held + 1))).rows.length (known ++ [v]) (u :: stk) := by
      rw [← add_len (doT a S) .keep]
      exact gu
    refine gu'.trans ?_
    show Go F D _ _ _ ((doT b _).add (.forget 1)).rows.length _ _
    rw [add_len]
    have o := One.forget (F := F) (D := D) (h := known ++ [v]) (s := u :: stk) r2 (by simp)
    rw [forget_one] at o
    exact .one o
  | .ifT a b c, G, k, S, env, known, stk, ht, he, hs, hk, hF => by
    rw [ToldK] at ht
    obtain ⟨ha, hb, hc⟩ := ht
    rw [doT] at hF ⊢
    rw [worth]
    have fa := doT_frame a (S.marks 2)
    have l0 : (S.marks 2).places.length = S.places.length + 2 := by simp [St.marks]
    have fb := doT_frame b (((doT a (S.marks 2)).add (.isr 1 S.places.length)).add .drop)
    have fc := doT_frame c ((((doT b (((doT a (S.marks 2)).add (.isr 1 S.places.length)).add .drop)).add (.go (S.places.length + 1))).put S.places.length).add .drop)
    have oka := doT_ok a G 0 (S.marks 2) env known stk ha he hs hk
    have okb := fun stk => doT_ok b G k (((doT a (S.marks 2)).add (.isr 1 S.places.length)).add .drop) env known stk hb he (by show Seated (doT a (S.marks 2)).seats _ _; rw [fa.2.1]; exact hs) (by show _ = (doT a (S.marks 2)).held; rw [fa.2.2]; exact hk)
    have okc := fun stk => doT_ok c G k ((((doT b (((doT a (S.marks 2)).add (.isr 1 S.places.length)).add .drop)).add (.go (S.places.length + 1))).put S.places.length).add .drop) env known stk hc he
      (by show Seated (doT b (((doT a (S.marks 2)).add (.isr 1 S.places.length)).add .drop)).seats _ _; rw [fb.2.1]; show Seated (doT a (S.marks 2)).seats _ _; rw [fa.2.1]; exact hs)
      (by show _ = (doT b (((doT a (S.marks 2)).add (.isr 1 S.places.length)).add .drop)).held; rw [fb.2.2]; show _ = (doT a (S.marks 2)).held; rw [fa.2.2]; exact hk)
    have la := fa.1.2.1
    have ra : S.rows.length ≤ (doT a (S.marks 2)).rows.length := fa.1.rows
    generalize doT a (S.marks 2) = Sa at *
    have lb : Sa.places.length ≤ (doT b ((Sa.add (.isr 1 S.places.length)).add .drop)).places.length := fb.1.2.1
    have rb : Sa.rows.length + 2 ≤ (doT b ((Sa.add (.isr 1 S.places.length)).add .drop)).rows.length := by
      have := fb.1.rows
      rw [add_len, add_len] at this
      exact this
    have kb : Keep (fun j => j < Sa.places.length) ((Sa.add (.isr 1 S.places.length)).add .drop) (doT b ((Sa.add (.isr 1 S.places.length)).add .drop)) := fb.1
    generalize doT b ((Sa.add (.isr 1 S.places.length)).add .drop) = Sb at *
    have l2 : (((Sb.add (.go (S.places.length + 1))).put S.places.length).add .drop).places.length = Sb.places.length := by simp [St.put, St.add]
    have lc := fc.1.2.1
    have kc := fc.1
    have rc : Sb.rows.length + 2 ≤ (doT c (((Sb.add (.go (S.places.length + 1))).put S.places.length).add .drop)).rows.length := by
      have := fc.1.rows
      rw [add_len] at this
      have e : ((Sb.add (.go (S.places.length + 1))).put S.places.length).rows.length = Sb.rows.length + 1 := by simp [St.put, St.add]
      omega
    have pb : (((Sb.add (.go (S.places.length + 1))).put S.places.length).add .drop).places[S.places.length]? = some (Sb.rows.length + 1) := by
      have : S.places.length < Sb.places.length := by omega
      simp [St.put, St.add, this]
    generalize hS2 : ((Sb.add (.go (S.places.length + 1))).put S.places.length).add .drop = S2 at *
    have r2 : S2.rows.length = Sb.rows.length + 2 := by rw [← hS2]; simp [St.put, St.add]
    have kb2 : ∀ {P : Nat → Prop}, ¬ P S.places.length → Keep P (Sb.add (.go (S.places.length + 1))) S2 := fun hP => by rw [← hS2]; exact (keep_put hP).trans keep_add
    have kpd : Keep (fun _ => True) (((Sb.add (.go (S.places.length + 1))).put S.places.length).add .drop) S2 := by rw [hS2]; exact .refl _
    generalize doT c S2 = Sc at *
    have rB : (Sc.put (S.places.length + 1)).rows.length = Sc.rows.length := rfl
    have keA : Keep (fun j => S.places.length + 2 ≤ j ∧ j < Sa.places.length) Sa (Sc.put (S.places.length + 1)) := (keep_add.trans keep_add).trans ((kb.weak fun j hj => hj.2).trans (keep_add.trans ((kb2 (by omega)).trans ((kc.weak fun j hj => by omega).trans (keep_put (by omega))))))
    have keB : Keep (fun j => S.places.length + 2 ≤ j ∧ j < Sb.places.length) Sb (Sc.put (S.places.length + 1)) := keep_add.trans ((kb2 (by omega)).trans ((kc.weak fun j hj => by omega).trans (keep_put (by omega))))
    have keC : Keep (fun j => ¬ j = S.places.length + 1) Sc (Sc.put (S.places.length + 1)) := keep_put (by omega)
    have qo : Q.getD S.places.length 0 = Sb.rows.length + 1 := by
      refine getD_of ?_
      rw [hF.2 _ (Nat.le_refl _) (by show _ < (Sc.places.set _ _).length; rw [List.length_set]; omega), keC.2.2 _ (by omega) (by omega), kc.2.2 _ (by omega) (by omega)]
      exact pb
    have qe : Q.getD (S.places.length + 1) 0 = Sc.rows.length := by
      refine getD_of ?_
      rw [hF.2 _ (by omega) (by show _ < (Sc.places.set _ _).length; rw [List.length_set]; omega)]
      have : S.places.length + 1 < Sc.places.length := by omega
      simp [St.put, this]
    obtain ⟨v, ev, hv, gv⟩ := oka (hF.sub (Nat.le_refl _) (by rw [l0]; omega) keA fun j hj hl => ⟨by omega, hl⟩)
    have w1 := fits_row (Y := Sa) (x := .isr 1 S.places.length) hF (((keep_add (P := fun j => j < Sa.places.length ∧ S.places.length + 2 ≤ j)).trans (kb.weak fun j hj => hj.1)).trans (keB.weak fun j hj => by omega)) ra
    have w2 := fits_row (Y := Sa.add (.isr 1 S.places.length)) (x := .drop) hF ((kb.weak (R := fun j => j < Sa.places.length ∧ S.places.length + 2 ≤ j) fun j hj => hj.1).trans (keB.weak fun j hj => by omega)) (by rw [add_len]; omega)
    have w3 := fits_row (Y := Sb) (x := .go (S.places.length + 1)) hF ((kb2 (P := fun j => S.places.length + 2 ≤ j ∧ j < Sb.places.length) (by omega)).trans ((kc.weak fun j hj => by omega).trans (keep_put (by omega)))) (by omega)
    have e4 : ((Sb.add (.go (S.places.length + 1))).put S.places.length).rows.length = Sb.rows.length + 1 := by simp [St.put, St.add]
    have w4 := fits_row (Y := (Sb.add (.go (S.places.length + 1))).put S.places.length) (x := .drop) hF ((kpd.weak (R := fun j => S.places.length + 2 ≤ j ∧ j < Sb.places.length) fun _ _ => trivial).trans ((kc.weak fun j hj => by omega).trans (keep_put (by omega)))) (by rw [e4]; omega)
    rw [e4] at w4
    rw [add_len] at w2
    rw [show aim Q (Row.isr (N := N) 1 S.places.length) = .isr 1 (Q.getD S.places.length 0) from rfl, qo] at w1
    rw [show aim Q (Row.go (N := N) (S.places.length + 1)) = .go (Q.getD (S.places.length + 1) 0) from rfl, qe] at w3
    rw [ev]
    obtain ⟨n, cs⟩ := v
    by_cases hn : n = 1
    · obtain ⟨u, eu, hu, gu⟩ := okb stk (hF.sub (by rw [add_len, add_len]; omega) (by show S.places.length ≤ Sa.places.length; omega) keB fun j hj hl => ⟨Nat.le_trans (by omega) (show Sa.places.length ≤ j from hj), hl⟩)
      refine ⟨u, ?_, hu, ?_⟩
      · show (if n = 1 then worth D b env else worth D c env) = some u
        rw [if_pos hn]; exact eu
      · refine gv.trans (.step (.isr w1 (by omega)) ?_)
        rw [if_pos hn]
        refine .step (.drop w2) ?_
        rw [add_len, add_len] at gu
        refine gu.trans (.step (.go w3 (by omega)) ?_)
        exact .refl
    · obtain ⟨u, eu, hu, gu⟩ := okc stk (hF.sub (by omega) (by omega) keC fun j hj hl => by omega)
      refine ⟨u, ?_, hu, ?_⟩
      · show (if n = 1 then worth D b env else worth D c env) = some u
        rw [if_neg hn]; exact eu
      · refine gv.trans (.step (.isr w1 (by omega)) ?_)
        rw [if_neg hn]
        refine .step (.drop w4) ?_
        rw [r2] at gu
        exact gu
  | .same kk a b, G, k, S, env, known, stk, ht, he, hs, hk, hF => by
    rw [ToldK] at ht
    obtain ⟨rfl, ha, hb⟩ := ht
    rw [doT] at hF ⊢
    rw [worth]
    have fa := doT_frame a S
    have fb := doT_frame b (doT a S)
    have ka : Keep (fun j => j < (doT a S).places.length) (doT a S) ((doT b (doT a S)).add .same) := fb.1.trans keep_add
    obtain ⟨v, ev, hv, gv⟩ := doT_ok a G kk S env known stk ha he hs hk (hF.sub (Nat.le_refl _) (Nat.le_refl _) ka fun j _ hj => hj)
    obtain ⟨w, ew, hw, gw⟩ := doT_ok b G kk (doT a S) env known (v :: stk) hb he (by rw [fa.2.1]; exact hs) (by rw [fa.2.2]; exact hk) (hF.sub fa.1.rows fa.1.2.1 (keep_add (P := fun _ => True)) fun j _ hj => trivial)
    have r1 := fits_row (Y := doT b (doT a S)) (x := .same) hF (.refl (P := fun _ => True) _) (Nat.le_trans fa.1.rows fb.1.rows)
    refine ⟨boolC (v.eqb w), by rw [ev, ew]; rfl, bool_kind h0 _, ?_⟩
    rw [add_len, eqb_comm]
    exact gv.trans (gw.trans (.one (.same r1 (hd4 _ _ hw))))
  | .call f ps, G, k, S, env, known, stk, ht, he, hs, hk, hF => by
    rw [ToldK] at ht
    obtain ⟨gs, hd, hp⟩ := ht
    rw [doT] at hF ⊢
    rw [worth]
    have fa := doTs_frame ps S
    obtain ⟨vs, ev, hv, hl, gv⟩ := doTs_ok ps G gs S env known stk hp he hs hk (hF.sub (Nat.le_refl _) (Nat.le_refl _) (keep_add (P := fun _ => True)) fun j _ hj => trivial)
    obtain ⟨v, e1, e2⟩ := hD f gs k vs hd hv
    have r1 := fits_row (Y := doTs ps S) (x := .call f ps.list.length) hF (.refl (P := fun _ => True) _) fa.1.rows
    refine ⟨v, by rw [ev]; exact e1, e2, ?_⟩
    rw [add_len]
    have et : ((vs.reverse ++ stk).take ps.list.length).reverse = vs := by rw [List.take_left' (by simp [hl]), List.reverse_reverse]
    have o := One.call (F := F) (D := D) (h := known) (s := vs.reverse ++ stk) r1 (by simp; omega) (v := v) (by rw [et]; exact e1)
    rw [List.drop_left' (by simp [hl])] at o
    exact gv.trans (.one o)
  | .make kk m ps, G, k, S, env, known, stk, ht, he, hs, hk, hF => by
    rw [ToldK] at ht
    obtain ⟨rfl, gs, hd, hp⟩ := ht
    rw [doT] at hF ⊢
    rw [worth]
    have fa := doTs_frame ps S
    obtain ⟨vs, ev, hv, hl, gv⟩ := doTs_ok ps G gs S env known stk hp he hs hk (hF.sub (Nat.le_refl _) (Nat.le_refl _) (keep_add (P := fun _ => True)) fun j _ hj => trivial)
    have r1 := fits_row (Y := doTs ps S) (x := .make (m : Int) ps.list.length) hF (.refl (P := fun _ => True) _) fa.1.rows
    refine ⟨.mk (m : Int) vs, by rw [ev]; rfl, cellK_mk.mpr ⟨m, gs, rfl, hd, hv⟩, ?_⟩
    rw [add_len]
    have et : ((vs.reverse ++ stk).take ps.list.length).reverse = vs := by rw [List.take_left' (by simp [hl]), List.reverse_reverse]
    have o := One.make (F := F) (D := D) (h := known) (s := vs.reverse ++ stk) r1 (by simp; omega)
    rw [List.drop_left' (by simp [hl]), et] at o
    exact gv.trans (.one o)
  | .case kk a arms, G, k, S, env, known, stk, ht, he, hs, hk, hF => by
    rw [ToldK] at ht
    obtain ⟨ha, hm, hc⟩ := ht
    rw [doT] at hF ⊢
    rw [worth]
    have la := armMarks_le arms S.held (S.places.length + 1)
    have l0 : (S.marks (armMarks arms S.held (S.places.length + 1) - S.places.length)).places.length = armMarks arms S.held (S.places.length + 1) := by simp [St.marks]; omega
    have fa := doT_frame a (S.marks (armMarks arms S.held (S.places.length + 1) - S.places.length))
    have fb := doArms_frame arms S.seats S.held S.places.length (S.places.length + 1) ((doT a (S.marks (armMarks arms S.held (S.places.length + 1) - S.places.length))).add .keep)
    have oka := doT_ok a G kk (S.marks (armMarks arms S.held (S.places.length + 1) - S.places.length)) env known stk ha he hs hk
    have okb := fun c stk => doArms_ok arms G kk k S.seats S.held S.places.length (S.places.length + 1) ((doT a (S.marks (armMarks arms S.held (S.places.length + 1) - S.places.length))).add .keep) env known c stk hm he
    have ra : S.rows.length ≤ (doT a (S.marks (armMarks arms S.held (S.places.length + 1) - S.places.length))).rows.length := fa.1.rows
    have lA := fa.1.2.1
    generalize doT a (S.marks (armMarks arms S.held (S.places.length + 1) - S.places.length)) = Sa at *
    have lB : Sa.places.length ≤ (doArms arms S.seats S.held S.places.length (S.places.length + 1) (Sa.add .keep)).places.length := fb.2.1
    have rB := fb.rows
    rw [add_len] at rB
    generalize doArms arms S.seats S.held S.places.length (S.places.length + 1) (Sa.add .keep) = Sb at *
    have keB : Keep (fun j => ¬ j = S.places.length) Sb (((Sb.put S.places.length).add (.forget 1)).seat S.seats S.held) := (keep_put (by omega)).trans (keep_add.trans keep_seat)
    have keA : Keep (fun j => armMarks arms S.held (S.places.length + 1) ≤ j ∧ j < Sa.places.length) (Sa.add .keep) (((Sb.put S.places.length).add (.forget 1)).seat S.seats S.held) := (fb.weak fun j hj => ⟨hj.2, .inr hj.1⟩).trans (keB.weak fun j hj => by omega)
    have qe : Q.getD S.places.length 0 = Sb.rows.length := by
      refine getD_of ?_
      rw [hF.2 _ (Nat.le_refl _) (by show _ < (Sb.places.set _ _).length; rw [List.length_set]; omega)]
      have : S.places.length < Sb.places.length := by omega
      simp [St.put, St.add, St.seat, this]
    obtain ⟨c, ec, hcc, gc⟩ := oka (hF.sub (Nat.le_refl _) (by omega) (keep_add.trans keA) fun j hj hl => ⟨by omega, hl⟩)
    have w1 := fits_row (Y := Sa) (x := .keep) hF keA ra
    obtain ⟨v, ev, hv, gv⟩ := okb c stk hcc (hc c hcc) hs hk (by show _ ≤ Sa.places.length; omega) (by omega) (hF.sub (by rw [add_len]; omega) (by omega) keB fun j hj hl => by omega) (by omega)
    have w2 := fits_row (Y := Sb.put S.places.length) (x := .forget 1) hF (keep_seat (P := fun _ => True)) (by show _ ≤ Sb.rows.length; omega)
    refine ⟨v, by rw [ec]; exact ev, hv, ?_⟩
    rw [add_len, qe] at gv
    refine gc.trans (.step (.keep w1) (gv.trans ?_))
    show Go F D _ _ _ (((Sb.put S.places.length).add (.forget 1)).rows.length) _ _
    rw [add_len]
    have o := One.forget (F := F) (D := D) (h := known ++ [c]) (s := v :: stk) w2 (by simp)
    rw [forget_one] at o
    exact .one o
theorem doTs_ok : ∀ (ps : Tolds N) (G ks : List Nat) (S : St N) (env known stk : List Cell), ToldsK kinds dk ps G ks → CellsK kinds env G → Seated S.seats known env → known.length = S.held → Fits F Q S.rows.length S.places.length (doTs ps S) →
    ∃ vs, worths D ps env = some vs ∧ CellsK kinds vs ks ∧ vs.length = ps.list.length ∧ Go F D S.rows.length known stk (doTs ps S).rows.length known (vs.reverse ++ stk)
  | .nil, G, ks, S, env, known, stk, ht, he, hs, hk, hF => by
    rw [ToldsK] at ht
    rw [doTs, worths]
    exact ⟨[], rfl, cellsK_nil.mpr ht, rfl, .refl⟩
  | .cons t r, G, ks, S, env, known, stk, ht, he, hs, hk, hF => by
    rw [ToldsK] at ht
    obtain ⟨k, q, rfl, h1, h2⟩ := ht
    rw [doTs] at hF ⊢
    rw [worths]
    have fa := doT_frame t S
    have fb := doTs_frame r (doT t S)
    obtain ⟨v, ev, hv, gv⟩ := doT_ok t G k S env known stk h1 he hs hk (hF.sub (Nat.le_refl _) (Nat.le_refl _) fb.1 fun j _ hj => hj)
    obtain ⟨vs, ew, hw, hl, gw⟩ := doTs_ok r G q (doT t S) env known (v :: stk) h2 he (by rw [fa.2.1]; exact hs) (by rw [fa.2.2]; exact hk) (hF.sub fa.1.rows fa.1.2.1 (.refl (P := fun _ => True) _) fun j _ hj => trivial)
    refine ⟨v :: vs, by rw [ev, ew]; rfl, cellsK_cons.mpr ⟨k, q, rfl, hv, hw⟩, by simp [Tolds.list, hl], ?_⟩
    rw [List.reverse_cons, List.append_assoc]
    exact gv.trans gw
theorem doArms_ok : ∀ (arms : Arms N) (G : List Nat) (kk k : Nat) (seats : List Nat) (held e first : Nat) (S : St N) (env known : List Cell) (c : Cell) (stk : List Cell), ArmsK kinds dk arms G kk k → CellsK kinds env G → CellK kinds c kk → (∃ p ∈ arms.list, takes p.1 c = true) → Seated seats known env → known.length = held →
    armMarks arms held first ≤ S.places.length → e < first → Fits F Q S.rows.length first (doArms arms seats held e first S) → (doArms arms seats held e first S).rows.length ≤ Q.getD e 0 →
    ∃ v, worthArms D arms c env = some v ∧ CellK kinds v k ∧ Go F D S.rows.length (known ++ [c]) stk (Q.getD e 0) (known ++ [c]) (v :: stk)
  | .nil, G, kk, k, seats, held, e, first, S, env, known, c, stk, ht, he, hc, hcov, hs, hk, hm, hef, hF, hQe => by
    obtain ⟨p, hp, _⟩ := hcov
    cases hp
  | .cons f t r, G, kk, k, seats, held, e, first, S, env, known, c, stk, ht, he, hc, hcov, hs, hk, hm, hef, hF, hQe => by
    rw [ArmsK] at ht
    obtain ⟨hf, htt, hr⟩ := ht
    rw [armMarks] at hm
    rw [doArms] at hF hQe
    rw [worthArms]
    try dsimp only at hF hQe
    have hlen1 : (known ++ [c]).length = held + 1 + 0 := by simp [hk]
    have hsub : Subj (known ++ [c]) held c none := by show (known ++ [c])[held]? = some c; rw [← hk]; simp
    have hTk : (tests N f held first).rows = [] → (takes f c = true ∧ (tests N f held first).kept = 0) := by
      intro hz
      cases f with
      | any => exact ⟨by rw [takes], by unfold tests; rw [testF]⟩
      | bind => exact ⟨by rw [takes], by unfold tests; rw [testF]⟩
      | make m fs =>
        exfalso
        cases fs with
        | nil => unfold tests at hz; rw [testF] at hz; simp at hz
        | cons f' r' =>
          unfold tests at hz
          rw [testF] at hz
          obtain ⟨z, ez⟩ := testFs_pre held first (.cons f' r') held 0 (⟨([] : List (Row N)) ++ [.loc held, .isr (m : Int) (first + 0), .drop], [], 0⟩ : Ts N)
          rw [ez] at hz
          simp at hz
    have hTok : (∀ i x, (tests N f held first).rows[i]? = some x → F[S.rows.length + i]? = some (aim Q x)) → ((tests N f held first).rows ≠ [] → ∀ j, j ≤ (tests N f held first).kept → S.rows.length + (tests N f held first).rows.length ≤ Q.getD (first + j) 0) →
        TestOk F D Q first S.rows.length ⟨[], [], 0⟩ (tests N f held first) (known ++ [c]) stk (takes f c) (found f c) := by
      intro hp hq
      by_cases hz : (tests N f held first).rows = []
      · cases f with
        | any =>
          unfold tests
          rw [testF, takes, found]
          exact ⟨fun _ => ⟨[], [], by simp, by simp, .nil, by rw [List.append_nil]; exact .refl⟩, fun z => Bool.noConfusion z⟩
        | bind =>
          unfold tests
          rw [testF, takes, found]
          exact ⟨fun _ => ⟨[], [held], by simp, by simp, by rw [List.append_nil]; exact .one hsub, by rw [List.append_nil]; exact .refl⟩, fun z => Bool.noConfusion z⟩
        | make m fs =>
          exfalso
          cases fs with
          | nil => unfold tests at hz; rw [testF] at hz; simp at hz
          | cons f' r' =>
            unfold tests at hz
            rw [testF] at hz
            obtain ⟨z, ez⟩ := testFs_pre held first (.cons f' r') held 0 (⟨([] : List (Row N)) ++ [.loc held, .isr (m : Int) (first + 0), .drop], [], 0⟩ : Ts N)
            rw [ez] at hz
            simp at hz
      · exact testF_ok f held none ⟨[], [], 0⟩ c kk S.rows.length (known ++ [c]) stk hf hc hsub hlen1 (fun i x _ hx => hp i x hx) (hq hz)
    have hTb : (tests N f held first).bound = (tests N f held first).bound := rfl
    generalize tests N f held first = T at *
    have la := armMarks_le r held (first + 1 + T.kept)
    have f1 := doT_frame t ((S.addAll T.rows).seat (seats ++ T.bound) (held + 1 + T.kept))
    have ok1 := fun E (hE : T.kept = E.length) B (hB : T.bound = B) => doT_ok t (G ++ boundK kinds f kk) k ((S.addAll T.rows).seat (seats ++ T.bound) (held + 1 + T.kept)) (env ++ found f c) (known ++ [c] ++ E) stk htt
    have kX : Keep (fun _ => True) S ((S.addAll T.rows).seat (seats ++ T.bound) (held + 1 + T.kept)) := keep_addAll.trans keep_seat
    have rX : ((S.addAll T.rows).seat (seats ++ T.bound) (held + 1 + T.kept)).rows = S.rows ++ T.rows := rfl
    have lX : ((S.addAll T.rows).seat (seats ++ T.bound) (held + 1 + T.kept)).places.length = S.places.length := rfl
    have sX : ((S.addAll T.rows).seat (seats ++ T.bound) (held + 1 + T.kept)).seats = seats ++ T.bound := rfl
    have hX : ((S.addAll T.rows).seat (seats ++ T.bound) (held + 1 + T.kept)).held = held + 1 + T.kept := rfl
    generalize (S.addAll T.rows).seat (seats ++ T.bound) (held + 1 + T.kept) = X at *
    have l1 := f1.1.2.1
    have r1 := f1.1.rows
    have kX1 := f1.1
    generalize doT t X = S1 at *
    have k12 : ∀ {P : Nat → Prop}, Keep P S1 ((if 0 < T.kept then S1.add (.forget T.kept) else S1).add (.go e)) := by
      intro P
      split
      · exact keep_add.trans keep_add
      · exact keep_add
    have l12 : ((if 0 < T.kept then S1.add (.forget T.kept) else S1).add (.go e)).places.length = S1.places.length := by split <;> rfl
    have keS1 : ∀ {P : Nat → Prop}, Keep P ((if 0 < T.kept then S1.add (.forget T.kept) else S1).add (.go e)) ((if 0 < T.kept then S1.add (.forget T.kept) else S1).add (.go e)) := .refl _
    generalize hS2 : (if 0 < T.kept then S1.add (.forget T.kept) else S1).add (.go e) = S2 at *
    have ku : ∀ {P : Nat → Prop}, (∀ j, P j → j < first ∨ first + T.kept < j) → Keep P S2 (undo first T.kept S2) := fun h => keep_undo first T.kept S2 fun j hj => by have := h j hj; omega
    have uR := undo_rows first T.kept S2
    have uP := undo_places first T.kept S2
    have k24 : ∀ {P : Nat → Prop}, (∀ j, P j → j < first ∨ first + T.kept < j) → Keep P S2 (if T.rows = [] then undo first T.kept S2 else ((undo first T.kept S2).put first).add .drop) := by
      intro P h
      split
      · exact ku h
      · exact (ku h).trans ((keep_put fun z => by have := h _ z; omega).trans keep_add)
    have lu : (undo first T.kept S2).places.length = S2.places.length := by
      have : ∀ (n : Nat) (S : St N), (undo first n S).places.length = S.places.length := by
        intro n
        induction n with
        | zero => intro S; rfl
        | succ n ih => intro S; rw [undo, ih]; simp [St.put, St.add]
      exact this _ _
    have l24 : (if T.rows = [] then undo first T.kept S2 else ((undo first T.kept S2).put first).add .drop).places.length = S2.places.length := by
      split
      · exact lu
      · show ((undo first T.kept S2).places.set _ _).length = _
        rw [List.length_set]; exact lu
    have r4 : T.rows ≠ [] → (if T.rows = [] then undo first T.kept S2 else ((undo first T.kept S2).put first).add .drop).rows = S2.rows ++ List.replicate T.kept (.forget 1) ++ [.drop] := fun hz => by
      rw [if_neg hz]
      show (undo first T.kept S2).rows ++ [.drop] = _
      rw [uR]
    have p4 : T.rows ≠ [] → ∀ j, j ≤ T.kept → first + T.kept < S2.places.length → (if T.rows = [] then undo first T.kept S2 else ((undo first T.kept S2).put first).add .drop).places[first + j]? = some (S2.rows.length + (T.kept - j)) := fun hz j hj hl => by
      rw [if_neg hz]
      show ((undo first T.kept S2).places.set first (undo first T.kept S2).rows.length)[first + j]? = _
      by_cases e0 : j = 0
      · subst e0
        rw [Nat.add_zero, List.getElem?_set, if_pos rfl, if_pos (by omega), uR]
        simp
      · rw [List.getElem?_set_ne (by omega)]
        exact uP j (by omega) hj (by omega)
    generalize hS4 : (if T.rows = [] then undo first T.kept S2 else ((undo first T.kept S2).put first).add .drop) = S4 at *
    have fB := doArms_frame r seats held e (first + 1 + T.kept) S4
    have okB := doArms_ok r G kk k seats held e (first + 1 + T.kept) S4 env known c stk hr he hc
    generalize doArms r seats held e (first + 1 + T.kept) S4 = B at *
    have k1B : Keep (fun j => X.places.length ≤ j ∧ j < S1.places.length) S1 B := k12.trans ((k24 fun j hj => by omega).trans (fB.weak fun j hj => by omega))
    have kXB : Keep (fun _ => False) X B := (kX1.weak fun j hj => hj.elim).trans (k1B.weak fun j hj => hj.elim)
    have rXB := kXB.rows
    have r1B := k1B.rows
    have rX' : X.rows.length = S.rows.length + T.rows.length := by rw [rX]; simp
    have r12 : S1.rows.length < S2.rows.length := by
      rw [← hS2]
      split <;> simp [St.add]
    have r2B : S2.rows.length ≤ B.rows.length := ((k24 (P := fun _ => False) fun j hj => hj.elim).trans (fB.weak fun j hj => hj.elim)).rows
    have hq : T.rows ≠ [] → ∀ j, j ≤ T.kept → Q.getD (first + j) 0 = S2.rows.length + (T.kept - j) := fun hz j hj => by
      refine getD_of ?_
      have lB := fB.2.1
      rw [hF.2 _ (by omega) (by omega), fB.2.2 _ ⟨by omega, .inl (by omega)⟩ (by omega)]
      exact p4 hz j hj (by omega)
    have tok := hTok (fun i x hx => hF.1 _ _ (by omega) (by
      obtain ⟨⟨z, ez⟩, _⟩ := kXB
      rw [ez, rX, List.append_assoc, List.getElem?_append_right (by omega), show S.rows.length + i - S.rows.length = i by omega]
      exact get_pre hx)) (fun hz j hj => by rw [hq hz j hj]; omega)
    have t0 : (([] : List (Row N))).length = 0 := rfl
    cases htk : takes f c with
    | true =>
      obtain ⟨E, Bd, b1, b2, b3, b4⟩ := tok.1 htk
      rw [List.nil_append] at b1
      rw [Nat.zero_add] at b2
      rw [if_pos rfl]
      have hEk : (known ++ [c] ++ E).length = X.held := by rw [hX]; simp [hk, b2]; omega
      obtain ⟨v, ev, hv, gv⟩ := ok1 E b2 Bd b1 (cellsK_append he (found_ok f c kk hf hc htk)) (by rw [sX, b1, List.append_assoc]; exact (hs.more _).append (by rw [← List.append_assoc]; exact b3)) hEk
        (hF.sub (by omega) (by omega) k1B fun j hj hl => ⟨hj, hl⟩)
      refine ⟨v, ev, hv, ?_⟩
      refine b4.trans ?_
      rw [← rX']
      refine gv.trans ?_
      by_cases hkp : 0 < T.kept
      · rw [if_pos hkp] at hS2
        have w1 := fits_row (Y := S1) (x := .forget T.kept) (B := B) hF (by
          have : Keep (fun _ => False) (S1.add (.forget T.kept)) S2 := by rw [← hS2]; exact keep_add
          exact this.trans ((k24 fun j hj => hj.elim).trans (fB.weak fun j hj => hj.elim))) (by omega)
        have w2 := fits_row (Y := S1.add (.forget T.kept)) (x := .go e) (B := B) hF (by
          rw [hS2]
          exact (k24 (P := fun _ => False) fun j hj => hj.elim).trans (fB.weak fun j hj => hj.elim)) (by rw [add_len]; omega)
        rw [add_len] at w2
        have o := One.forget (F := F) (D := D) (h := known ++ [c] ++ E) (s := v :: stk) w1 (by simp; omega)
        rw [forget_all b2.symm] at o
        have r2' : S2.rows.length = S1.rows.length + 2 := by rw [← hS2]; simp [St.add]
        exact .step o (.one (.go w2 (by omega)))
      · rw [if_neg hkp] at hS2
        have eE : E = [] := List.eq_nil_of_length_eq_zero (by omega)
        subst eE
        have w2 := fits_row (Y := S1) (x := .go e) (B := B) hF (by
          rw [hS2]
          exact (k24 (P := fun _ => False) fun j hj => hj.elim).trans (fB.weak fun j hj => hj.elim)) (by omega)
        rw [List.append_nil]
        exact .one (.go w2 (by omega))
    | false =>
      obtain ⟨E, x, b1, b2⟩ := tok.2 htk
      rw [if_neg (by simp)]
      have hz : T.rows ≠ [] := fun z => by
        have := (hTk z).1
        rw [htk] at this
        cases this
      rw [Nat.zero_add] at b1 b2
      rw [hq hz _ b1] at b2
      have hrow : ∀ j, j < T.kept → F[S2.rows.length + j]? = some (.forget 1) := fun j hj => hF.1 _ (.forget 1) (by omega) (by
        obtain ⟨⟨z, ez⟩, _⟩ := fB
        rw [ez, r4 hz, List.append_assoc, List.append_assoc, List.getElem?_append_right (by omega), show S2.rows.length + j - S2.rows.length = j by omega, List.getElem?_append_left (by simpa using hj)]
        simp [hj])
      have hdrop : F[S2.rows.length + T.kept]? = some .drop := hF.1 _ .drop (by omega) (by
        obtain ⟨⟨z, ez⟩, _⟩ := fB
        rw [ez, r4 hz]
        exact get_pre (by rw [List.getElem?_append_right (by simp)]; simp))
      have g1 := go_forgets (F := F) (D := D) (x :: stk) (known ++ [c]) E.length (S2.rows.length + (T.kept - E.length)) E rfl fun j hj => by
        have := hrow (T.kept - E.length + j) (by omega)
        rw [show S2.rows.length + (T.kept - E.length) + j = S2.rows.length + (T.kept - E.length + j) by omega]
        exact this
      rw [show S2.rows.length + (T.kept - E.length) + E.length = S2.rows.length + T.kept by omega] at g1
      have e4 : S4.rows.length = S2.rows.length + T.kept + 1 := by rw [r4 hz]; simp; omega
      obtain ⟨v, ev, hv, gv⟩ := okB (by
        obtain ⟨p, hp, hpt⟩ := hcov
        rw [Arms.list] at hp
        rcases List.mem_cons.mp hp with rfl | hp
        · rw [htk] at hpt; cases hpt
        · exact ⟨p, hp, hpt⟩) hs hk (by omega) (by omega) (hF.sub (by omega) (by omega) (.refl (P := fun _ => True) _) fun j _ _ => trivial) hQe
      refine ⟨v, ev, hv, ?_⟩
      rw [e4] at gv
      exact b2.trans (g1.trans (.step (.drop hdrop) gv))
end
end
end K87

set_option linter.all false
set_option maxRecDepth 100000
set_option maxHeartbeats 1000000
namespace K87
open Mch
variable {N : Type}
theorem seated_range (env : List Cell) : Seated (List.range env.length) env env := by
  unfold Seated
  apply List.ext_getElem?
  intro i
  rw [List.getElem?_map, List.getElem?_map]
  by_cases h : i < env.length
  · rw [List.getElem?_range h, List.getElem?_eq_getElem h]
    simp [List.getElem?_eq_getElem h]
  · rw [List.getElem?_eq_none (by simpa using h), List.getElem?_eq_none (by omega)]
    rfl
theorem compile_ok {kinds : List (List (List Nat))} {dk : N → List Nat → Nat → Prop} {D : N → List Cell → Option Cell} (h0 : kinds[0]? = some [[], []]) (hD : ∀ f gs k cs, dk f gs k → CellsK kinds cs gs → ∃ v, D f cs = some v ∧ CellK kinds v k) (hd4 : ∀ c k, CellK kinds c k → c.depth ≤ 100)
    {t : Told N} {G : List Nat} {k : Nat} {env : List Cell} (ht : ToldK kinds dk t G k) (he : CellsK kinds env G) :
    ∃ v n, worth D t env = some v ∧ CellK kinds v k ∧ Go (compile G.length t) D 0 env [] n env [v] ∧ (compile G.length t)[n]? = some .back ∧ n + 1 = (compile G.length t).length := by
  have hl := cellsK_len he
  have eC : compile G.length t = ((doT t (start G.length)).rows.map (aim (doT t (start G.length)).places)) ++ [.back] := by
    unfold compile
    simp [runP, doP, St.add, aim]
  obtain ⟨v, ev, hv, gv⟩ := doT_ok (F := compile G.length t) (Q := (doT t (start G.length)).places) h0 hD hd4 t G k (start G.length) env env [] ht he (by show Seated (List.range G.length) env env; rw [← hl]; exact seated_range env) hl
    ⟨fun i x _ hx => by rw [eC]; exact get_pre (by rw [List.getElem?_map, hx]; rfl), fun j _ _ => rfl⟩
  refine ⟨v, (doT t (start G.length)).rows.length, ev, hv, gv, ?_, ?_⟩
  · rw [eC, List.getElem?_append_right (by simp)]
    simp
  · rw [eC]
    simp
end K87

set_option linter.all false
set_option maxRecDepth 100000
set_option maxHeartbeats 1000000
/-! What stays true while pieces are done: marks that are there, seats that are there, bounds. -/
namespace K87
open Mch
variable {N : Type}
mutual
def bndF : Form → Nat
  | .any => 0
  | .bind => 1
  | .make _ fs => bndFs fs
def bndFs : Forms → Nat
  | .nil => 0
  | .cons f r => bndF f + bndFs r
end
mutual
theorem bnd_le : ∀ f : Form, bndF f ≤ cntF f
  | .any => by rw [bndF, cntF]; omega
  | .bind => by rw [bndF, cntF]; omega
  | .make m fs => by
    rw [bndF, cntF]
    have := bnds_le fs
    omega
theorem bnds_le : ∀ fs : Forms, bndFs fs ≤ cntFs fs
  | .nil => by rw [bndFs, cntFs]; omega
  | .cons f r => by
    rw [bndFs, cntFs]
    have := bnd_le f
    have := bnds_le r
    omega
end
mutual
theorem testF_bound (root first : Nat) : ∀ (f : Form) (seat : Nat) (at_ : Option Nat) (T : Ts N), (testF root first f seat at_ T).bound.length = T.bound.length + bndF f
  | .any, seat, at_, T => by rw [testF, bndF]; omega
  | .bind, seat, none, T => by rw [testF, bndF]; simp
  | .bind, seat, some p, T => by rw [testF, bndF]; simp
  | .make m .nil, seat, at_, T => by rw [testF, bndF, bndFs]; simp
  | .make m (.cons f r), seat, none, T => by
    rw [testF, bndF]
    exact testFs_bound root first (.cons f r) seat 0 (⟨T.rows ++ [.loc seat, .isr (m : Int) (first + T.kept), .drop], T.bound, T.kept⟩ : Ts N)
  | .make m (.cons f r), seat, some p, T => by
    rw [testF, bndF]
    exact testFs_bound root first (.cons f r) (root + T.kept + 1) 0 (⟨T.rows ++ [.loc seat, .part p, .isr (m : Int) (first + T.kept), .keep], T.bound, T.kept + 1⟩ : Ts N)
theorem testFs_bound (root first : Nat) : ∀ (fs : Forms) (seat n : Nat) (T : Ts N), (testFs root first fs seat n T).bound.length = T.bound.length + bndFs fs
  | .nil, seat, n, T => by rw [testFs, bndFs]; omega
  | .cons f r, seat, n, T => by
    rw [testFs, bndFs, testFs_bound root first r, testF_bound root first f]
    omega
end
theorem tests_bound (f : Form) (root first : Nat) : (tests N f root first).bound.length = bndF f := by
  unfold tests
  rw [testF_bound]
  simp
def rmark (n : Nat) : Row N → Prop
  | .isr _ k => k < n
  | .go k => k < n
  | _ => True
theorem rmark_mono {n m : Nat} (h : n ≤ m) {r : Row N} (g : rmark n r) : rmark m r := by
  cases r <;> first
    | trivial
    | exact Nat.lt_of_lt_of_le g h
def rmarks (n : Nat) (rs : List (Row N)) : Prop := ∀ r ∈ rs, rmark n r
theorem rmarks_append {n : Nat} {a b : List (Row N)} (h : rmarks n a) (g : rmarks n b) : rmarks n (a ++ b) := fun r hr => by
  rcases List.mem_append.mp hr with q | q
  · exact h r q
  · exact g r q
theorem rmarks_mono {n m : Nat} (h : n ≤ m) {rs : List (Row N)} (g : rmarks n rs) : rmarks m rs := fun r hr => rmark_mono h (g r hr)
mutual
theorem testF_marks (root first : Nat) : ∀ (f : Form) (seat : Nat) (at_ : Option Nat) (T : Ts N), rmarks (first + T.kept + 1) T.rows → rmarks (first + (testF root first f seat at_ T).kept + 1) (testF root first f seat at_ T).rows
  | .any, seat, at_, T, h => by rw [testF]; exact h
  | .bind, seat, none, T, h => by rw [testF]; exact h
  | .bind, seat, some p, T, h => by
    rw [testF]
    refine rmarks_append (rmarks_mono (by dsimp only; omega) h) fun r hr => ?_
    simp at hr
    rcases hr with rfl | rfl | rfl <;> trivial
  | .make m .nil, seat, at_, T, h => by
    rw [testF]
    refine rmarks_append h fun r hr => ?_
    cases at_ with
    | none =>
      simp [partRow] at hr
      rcases hr with rfl | rfl | rfl
      · trivial
      · show _ < _; dsimp only; omega
      · trivial
    | some p =>
      simp [partRow] at hr
      rcases hr with rfl | rfl | rfl | rfl
      · trivial
      · trivial
      · show _ < _; dsimp only; omega
      · trivial
  | .make m (.cons f r), seat, none, T, h => by
    rw [testF]
    refine testFs_marks root first (.cons f r) seat 0 _ (rmarks_append h fun x hx => ?_)
    simp at hx
    rcases hx with rfl | rfl | rfl
    · trivial
    · show _ < _; dsimp only; omega
    · trivial
  | .make m (.cons f r), seat, some p, T, h => by
    rw [testF]
    refine testFs_marks root first (.cons f r) (root + T.kept + 1) 0 _ (rmarks_append (rmarks_mono (by dsimp only; omega) h) fun x hx => ?_)
    simp at hx
    rcases hx with rfl | rfl | rfl | rfl
    · trivial
    · trivial
    · show _ < _; dsimp only; omega
    · trivial
theorem testFs_marks (root first : Nat) : ∀ (fs : Forms) (seat n : Nat) (T : Ts N), rmarks (first + T.kept + 1) T.rows → rmarks (first + (testFs root first fs seat n T).kept + 1) (testFs root first fs seat n T).rows
  | .nil, seat, n, T, h => by rw [testFs]; exact h
  | .cons f r, seat, n, T, h => by
    rw [testFs]
    exact testFs_marks root first r seat (n + 1) _ (testF_marks root first f seat (some n) T h)
end
theorem tests_marks (f : Form) (root first : Nat) : rmarks (first + (tests N f root first).kept + 1) (tests N f root first).rows := testF_marks root first f root none ⟨[], [], 0⟩ fun r hr => by cases hr
/-! ### scope -/
mutual
def scT : Told N → Nat → Prop
  | .loc n, s => n < s
  | .letT a b, s => scT a s ∧ scT b (s + 1)
  | .ifT a b c, s => scT a s ∧ scT b s ∧ scT c s
  | .same _ a b, s => scT a s ∧ scT b s
  | .call _ ps, s => scTs ps s
  | .make _ _ ps, s => scTs ps s
  | .case _ a arms, s => scT a s ∧ scArms arms s
def scTs : Tolds N → Nat → Prop
  | .nil, _ => True
  | .cons t r, s => scT t s ∧ scTs r s
def scArms : Arms N → Nat → Prop
  | .nil, _ => True
  | .cons f t r, s => scT t (s + bndF f) ∧ scArms r s
end
def pmark (n : Nat) : Piece N → Prop
  | .row r => rmark n r
  | .mark k => k < n
  | _ => True
def pmarks (n : Nat) (ps : List (Piece N)) : Prop := ∀ p ∈ ps, pmark n p
theorem pmarks_append {n : Nat} {a b : List (Piece N)} (h : pmarks n a) (g : pmarks n b) : pmarks n (a ++ b) := fun r hr => by
  rcases List.mem_append.mp hr with q | q
  · exact h r q
  · exact g r q
theorem pmark_mono {n m : Nat} (h : n ≤ m) {p : Piece N} (g : pmark n p) : pmark m p := by
  cases p with
  | row r => exact rmark_mono h g
  | mark k => exact Nat.lt_of_lt_of_le g h
  | told t => trivial
  | seats s k => trivial
theorem pmarks_mono {n m : Nat} (h : n ≤ m) {ps : List (Piece N)} (g : pmarks n ps) : pmarks m ps := fun p hp => pmark_mono h (g p hp)
def wP : Piece N → Nat
  | .told t => 40 * cnt t
  | _ => 1
def wPs : List (Piece N) → Nat
  | [] => 0
  | p :: r => wP p + wPs r
theorem wPs_append (a b : List (Piece N)) : wPs (a ++ b) = wPs a + wPs b := by
  induction a with
  | nil => simp [wPs]
  | cons p r ih => simp only [List.cons_append, wPs, ih]; omega
theorem wP_pos (p : Piece N) : 1 ≤ wP p := by
  cases p with
  | told t => have := cnt_pos t; simp only [wP]; omega
  | row r => exact Nat.le_refl _
  | mark k => exact Nat.le_refl _
  | seats s k => exact Nat.le_refl _
theorem len_wPs : ∀ ps : List (Piece N), ps.length ≤ wPs ps
  | [] => Nat.le_refl _
  | p :: r => by
    have := wP_pos p
    have := len_wPs r
    simp only [List.length_cons, wPs]; omega
/-- seats are there, and not too many -/
def sane (B : Nat) : List (Piece N) → Nat → Prop
  | [], s => s ≤ B
  | .told t :: r, s => scT t s ∧ s + wPs (.told t :: r) ≤ B ∧ sane B r s
  | .row x :: r, s => s + wPs (.row x :: r) ≤ B ∧ sane B r s
  | .mark k :: r, s => s + wPs (.mark k :: r) ≤ B ∧ sane B r s
  | .seats q h :: r, s => s + wPs (.seats q h :: r) ≤ B ∧ sane B r q.length
theorem sane_le {B : Nat} : ∀ {ps : List (Piece N)} {s : Nat}, sane B ps s → s + wPs ps ≤ B
  | [], s, h => h
  | .told t :: r, s, h => h.2.1
  | .row x :: r, s, h => h.1
  | .mark k :: r, s, h => h.1
  | .seats q k :: r, s, h => h.1
theorem sane_row {B : Nat} {x : Row N} {r : List (Piece N)} {s : Nat} (h : sane B r s) (hb : s + wPs r + 1 ≤ B) : sane B (.row x :: r) s := ⟨by simp only [wPs, wP]; omega, h⟩
def simple : Piece N → Prop
  | .row _ => True
  | .mark _ => True
  | _ => False
theorem sane_simple {B : Nat} {r : List (Piece N)} {s : Nat} (h : sane B r s) : ∀ {ps : List (Piece N)}, (∀ p ∈ ps, simple p) → s + wPs (ps ++ r) ≤ B → sane B (ps ++ r) s
  | [], _, _ => h
  | .told t :: ps, hp, hb => (hp _ List.mem_cons_self).elim
  | .seats q k :: ps, hp, hb => (hp _ List.mem_cons_self).elim
  | .row x :: ps, hp, hb => ⟨hb, sane_simple h (fun p q => hp p (List.mem_cons_of_mem _ q)) (by have : wPs (.row x :: ps ++ r) = 1 + wPs (ps ++ r) := rfl; omega)⟩
  | .mark k :: ps, hp, hb => ⟨hb, sane_simple h (fun p q => hp p (List.mem_cons_of_mem _ q)) (by have : wPs (.mark k :: ps ++ r) = 1 + wPs (ps ++ r) := rfl; omega)⟩
theorem wPs_simple : ∀ {ps : List (Piece N)}, (∀ p ∈ ps, simple p) → wPs ps = ps.length
  | [], _ => rfl
  | .told t :: ps, hp => (hp _ List.mem_cons_self).elim
  | .seats q k :: ps, hp => (hp _ List.mem_cons_self).elim
  | .row x :: ps, hp => by rw [wPs, List.length_cons, wPs_simple fun p q => hp p (List.mem_cons_of_mem _ q)]; simp only [wP]; omega
  | .mark k :: ps, hp => by rw [wPs, List.length_cons, wPs_simple fun p q => hp p (List.mem_cons_of_mem _ q)]; simp only [wP]; omega
theorem wPs_tolds : ∀ ps : Tolds N, wPs (ps.list.map .told) = 40 * cntTs ps
  | .nil => rfl
  | .cons t r => by
    rw [Tolds.list, List.map_cons, wPs, wPs_tolds r, cntTs]
    simp only [wP]; omega
theorem sane_tolds {B : Nat} {r : List (Piece N)} {s : Nat} (h : sane B r s) : ∀ {ps : Tolds N}, scTs ps s → s + (40 * cntTs ps + wPs r) ≤ B → sane B (ps.list.map .told ++ r) s
  | .nil, _, _ => h
  | .cons t q, hs, hb => by
    rw [scTs] at hs
    rw [cntTs] at hb
    have e : wPs (.told t :: (q.list.map .told ++ r)) = 40 * cnt t + (40 * cntTs q + wPs r) := by
      rw [wPs, wPs_append, wPs_tolds]; rfl
    exact ⟨hs.1, by rw [show (List.map Piece.told q.list).append r = q.list.map .told ++ r from rfl, e]; omega, sane_tolds h hs.2 (by omega)⟩
theorem undoP_simple (first : Nat) : ∀ (n : Nat), (∀ p ∈ (undoP first n : List (Piece N)), simple p) ∧ (undoP first n : List (Piece N)).length = 2 * n
  | 0 => ⟨fun p hp => (by cases hp), rfl⟩
  | n + 1 => by
    obtain ⟨h1, h2⟩ := undoP_simple first n
    refine ⟨fun p hp => ?_, by rw [undoP]; simp only [List.length_cons, h2]; omega⟩
    rw [undoP] at hp
    rcases List.mem_cons.mp hp with rfl | hp
    · trivial
    rcases List.mem_cons.mp hp with rfl | hp
    · trivial
    exact h1 p hp
theorem undoP_marks (first : Nat) {m : Nat} : ∀ (n : Nat), first + n < m → pmarks m (undoP first n : List (Piece N))
  | 0, h => fun p hp => by cases hp
  | n + 1, h => fun p hp => by
    rw [undoP] at hp
    rcases List.mem_cons.mp hp with rfl | hp
    · show _ < _; omega
    rcases List.mem_cons.mp hp with rfl | hp
    · trivial
    exact undoP_marks first n (by omega) p hp
/-- an arm's pieces: rows, then its seats and told, then rows and marks -/
theorem armP_parts (f : Form) (t : Told N) (seats : List Nat) (held e first : Nat) : ∃ a b : List (Piece N), armP f t seats held e first = a ++ .seats (seats ++ (tests N f held first).bound) (held + 1 + (tests N f held first).kept) :: .told t :: b ∧ (∀ p ∈ a, simple p) ∧ (∀ p ∈ b, simple p) ∧
    a.length ≤ 4 * cntF f ∧ b.length ≤ 2 * cntF f + 4 ∧ ∀ m, first + (tests N f held first).kept < m → e < m → pmarks m a ∧ pmarks m b := by
  have h0 := tests_cnt (N := N) f held first
  have h1 := tests_marks (N := N) f held first
  unfold armP
  dsimp only
  generalize tests N f held first = T at *
  have hu := undoP_simple (N := N) first T.kept
  refine ⟨T.rows.map .row, (if 0 < T.kept then [.row (.forget T.kept)] else []) ++ [.row (.go e)] ++ undoP first T.kept ++ (if T.rows = [] then [] else [.mark first, .row .drop]), by simp, ?_, ?_, by simp; omega, ?_, ?_⟩
  · intro p hp
    obtain ⟨x, _, rfl⟩ := List.mem_map.mp hp
    trivial
  · intro p hp
    rcases List.mem_append.mp hp with hp | hp
    · rcases List.mem_append.mp hp with hp | hp
      · rcases List.mem_append.mp hp with hp | hp
        · split at hp
          · rw [List.mem_singleton.mp hp]; trivial
          · cases hp
        · rw [List.mem_singleton.mp hp]; trivial
      · exact hu.1 p hp
    · split at hp
      · cases hp
      · simp at hp
        rcases hp with rfl | rfl <;> trivial
  · simp only [List.length_append, hu.2]
    have e1 : (if 0 < T.kept then [Piece.row (Row.forget T.kept)] else [] : List (Piece N)).length ≤ 1 := by split <;> simp
    have e2 : (if T.rows = [] then [] else [.mark first, .row .drop] : List (Piece N)).length ≤ 2 := by split <;> simp
    simp only [List.length_cons, List.length_nil]
    omega
  · intro m hm he
    refine ⟨fun p hp => ?_, fun p hp => ?_⟩
    · obtain ⟨x, hx, rfl⟩ := List.mem_map.mp hp
      exact rmark_mono (by omega) (h1 x hx)
    · rcases List.mem_append.mp hp with hp | hp
      · rcases List.mem_append.mp hp with hp | hp
        · rcases List.mem_append.mp hp with hp | hp
          · split at hp
            · rw [List.mem_singleton.mp hp]; trivial
            · cases hp
          · rw [List.mem_singleton.mp hp]; exact he
        · exact undoP_marks first T.kept hm p hp
      · split at hp
        · cases hp
        · simp at hp
          rcases hp with rfl | rfl
          · show _ < _; omega
          · trivial
def fcnt : Arms N → Nat
  | .nil => 0
  | .cons f _ r => cntF f + fcnt r
theorem armsP_w : ∀ (arms : Arms N) (seats : List Nat) (held e first : Nat), wPs (armsP arms seats held e first) + 2 * fcnt arms ≤ 40 * cntArms arms
  | .nil, seats, held, e, first => by rw [armsP]; simp [wPs, cntArms, fcnt]
  | .cons f t r, seats, held, e, first => by
    rw [armsP, wPs_append, cntArms, fcnt]
    obtain ⟨a, b, eq, h1, h2, h3, h4, _⟩ := armP_parts f t seats held e first
    have ih := armsP_w r seats held e (first + 1 + (tests N f held first).kept)
    have hp := cntF_pos f
    have hq := cnt_pos t
    have ew : wPs (armP f t seats held e first) = a.length + (1 + (40 * cnt t + b.length)) := by
      rw [eq, wPs_append, wPs_simple h1]
      simp only [wPs, wP, wPs_simple h2]
    omega
theorem armMarks_bound : ∀ (arms : Arms N) (root n : Nat), armMarks arms root n ≤ n + 2 * fcnt arms
  | .nil, root, n => by rw [armMarks]; omega
  | .cons f t r, root, n => by
    rw [armMarks, fcnt]
    have h0 := tests_cnt (N := N) f root n
    have hp := cntF_pos f
    have ih := armMarks_bound r root (n + 1 + (tests N f root n).kept)
    omega
theorem sane_arms {B : Nat} {R : List (Piece N)} {seats : List Nat} {held e : Nat} (hR : ∀ s, s + wPs R ≤ B → sane B R s) : ∀ (arms : Arms N) (first s : Nat), scArms arms seats.length → seats.length + (40 * cntArms arms + wPs R) ≤ B → s + wPs (armsP arms seats held e first ++ R) ≤ B → sane B (armsP arms seats held e first ++ R) s
  | .nil, first, s, _, _, hs => by
    rw [armsP] at hs ⊢
    exact hR s hs
  | .cons f t r, first, s, hsc, hB, hs => by
    rw [scArms] at hsc
    rw [cntArms] at hB
    rw [armsP] at hs ⊢
    obtain ⟨a, b, eq, h1, h2, h3, h4, _⟩ := armP_parts f t seats held e first
    have hw := armsP_w r seats held e (first + 1 + (tests N f held first).kept)
    have hb := tests_bound (N := N) f held first
    have hbl := bnd_le f
    have hp := cntF_pos f
    have hq := cnt_pos t
    rw [eq] at hs ⊢
    rw [List.append_assoc, List.append_assoc] at hs ⊢
    have hl : (seats ++ (tests N f held first).bound).length = seats.length + bndF f := by rw [List.length_append, hb]
    have ih := sane_arms (held := held) (e := e) hR r (first + 1 + (tests N f held first).kept) (seats ++ (tests N f held first).bound).length hsc.2 (by omega) (by
      rw [wPs_append]; omega)
    have hRw : wPs (armsP r seats held e (first + 1 + (tests N f held first).kept) ++ R) ≤ 40 * cntArms r + wPs R := by rw [wPs_append]; omega
    generalize armsP r seats held e (first + 1 + (tests N f held first).kept) ++ R = R2 at *
    refine sane_simple ?_ h1 hs
    rw [wPs_append] at hs
    have hbw : wPs (b ++ R2) = b.length + wPs R2 := by rw [wPs_append, wPs_simple h2]
    refine ⟨by show s + wPs (.seats _ _ :: (.told t :: b) ++ R2) ≤ B; omega, ?_⟩
    show sane B (.told t :: (b ++ R2)) _
    refine ⟨by rw [hl]; exact hsc.1, ?_, sane_simple ih h2 ?_⟩
    · rw [hl]
      show _ + (40 * cnt t + wPs (b ++ R2)) ≤ B
      omega
    · rw [hl]
      omega
theorem armsP_marks {seats : List Nat} {held e m : Nat} (he : e < m) : ∀ (arms : Arms N) (first : Nat), armMarks arms held first ≤ m → pmarks m (armsP arms seats held e first)
  | .nil, first, _ => by
    rw [armsP]
    intro p hp
    cases hp
  | .cons f t r, first, h => by
    rw [armMarks] at h
    rw [armsP]
    obtain ⟨a, b, eq, h1, h2, h3, h4, h5⟩ := armP_parts f t seats held e first
    have hl := armMarks_le r held (first + 1 + (tests N f held first).kept)
    obtain ⟨g1, g2⟩ := h5 m (by omega) he
    rw [eq]
    refine pmarks_append (pmarks_append g1 fun p hp => ?_) (armsP_marks he r _ h)
    rcases List.mem_cons.mp hp with rfl | hp
    · trivial
    rcases List.mem_cons.mp hp with rfl | hp
    · trivial
    exact g2 p hp
/-! ### one piece -/
def stepS : Piece N → St N → St N
  | .told t, S => putS t S
  | p, S => doP p S
def stepP : Piece N → St N → List (Piece N)
  | .told t, S => putP t S
  | _, _ => []
theorem step_run (p : Piece N) (r : List (Piece N)) (S : St N) : runP (stepP p S ++ r) (stepS p S) = runP (p :: r) S := by
  cases p with
  | told t => exact (run_told t r S).symm
  | row x => rfl
  | mark k => rfl
  | seats s k => rfl
structure Inv (B : Nat) (S : St N) (due : List (Piece N)) : Prop where
  sane : sane B due S.seats.length
  pm : pmarks S.places.length due
  rm : rmarks S.places.length S.rows
  rb : S.rows.length + wPs due ≤ B
  pb : S.places.length + wPs due ≤ B
theorem inv_step {B : Nat} {S : St N} {p : Piece N} {R : List (Piece N)} (I : Inv B S (p :: R)) : Inv B (stepS p S) (stepP p S ++ R) ∧ wPs (stepP p S ++ R) < wPs (p :: R) := by
  obtain ⟨h1, h2, h3, h4, h5⟩ := I
  have h2' : pmarks S.places.length R := fun q hq => h2 q (List.mem_cons_of_mem _ hq)
  cases p with
  | row x =>
    have e : wPs (.row x :: R) = 1 + wPs R := rfl
    refine ⟨⟨h1.2, h2', rmarks_append h3 fun r hr => by rw [List.mem_singleton.mp hr]; exact h2 _ List.mem_cons_self, ?_, ?_⟩, ?_⟩
    · show (S.rows ++ [x]).length + wPs R ≤ B
      simp only [List.length_append, List.length_cons, List.length_nil]; omega
    · show S.places.length + wPs R ≤ B
      omega
    · show wPs R < _
      omega
  | mark k =>
    have e : wPs (.mark (N := N) k :: R) = 1 + wPs R := rfl
    have el : (S.put k).places.length = S.places.length := by simp [St.put]
    refine ⟨⟨h1.2, ?_, ?_, ?_, ?_⟩, ?_⟩
    · show pmarks (S.put k).places.length R
      rw [el]; exact h2'
    · show rmarks (S.put k).places.length S.rows
      rw [el]; exact h3
    · show S.rows.length + wPs R ≤ B
      omega
    · show (S.put k).places.length + wPs R ≤ B
      omega
    · show wPs R < _
      omega
  | seats s k =>
    have e : wPs (.seats (N := N) s k :: R) = 1 + wPs R := rfl
    refine ⟨⟨h1.2, h2', h3, ?_, ?_⟩, ?_⟩
    · show S.rows.length + wPs R ≤ B
      omega
    · show S.places.length + wPs R ≤ B
      omega
    · show wPs R < _
      omega
  | told t =>
    have e : wPs (.told t :: R) = 40 * cnt t + wPs R := rfl
    obtain ⟨hsc, hsb, hsR⟩ := h1
    have hsl := sane_le hsR
    rw [e] at h4 h5 hsb ⊢
    cases t with
    | loc n =>
      rw [cnt] at *
      refine ⟨⟨hsR, h2', rmarks_append h3 fun r hr => by rw [List.mem_singleton.mp hr]; trivial, ?_, ?_⟩, ?_⟩
      · show (S.rows ++ [_]).length + wPs R ≤ B
        simp only [List.length_append, List.length_cons, List.length_nil]; omega
      · show S.places.length + wPs R ≤ B
        omega
      · show wPs R < _
        omega
    | letT a b =>
      rw [cnt] at *
      rw [scT] at hsc
      have el : (S.seats ++ [S.held]).length = S.seats.length + 1 := by simp
      have ew : wPs (putP (.letT a b) S ++ R) = 40 * cnt a + (1 + (1 + (40 * cnt b + (1 + (1 + wPs R))))) := rfl
      refine ⟨⟨?_, ?_, h3, ?_, ?_⟩, ?_⟩
      · show sane B (.told a :: .row .keep :: .seats (S.seats ++ [S.held]) (S.held + 1) :: .told b :: .row (.forget 1) :: .seats S.seats S.held :: R) S.seats.length
        refine ⟨hsc.1, ?_, ?_, ?_, by rw [el]; exact hsc.2, ?_, ?_, ?_, hsR⟩ <;> (try rw [el]) <;> simp only [wPs, wP] <;> omega
      · refine pmarks_append (fun q hq => ?_) h2'
        replace hq : q ∈ putP (.letT a b) S := hq
        simp only [putP] at hq
        simp at hq
        rcases hq with rfl | rfl | rfl | rfl | rfl | rfl <;> trivial
      · show S.rows.length + wPs (putP (.letT a b) S ++ R) ≤ B; rw [ew]; omega
      · show S.places.length + wPs (putP (.letT a b) S ++ R) ≤ B; rw [ew]; omega
      · rw [show stepP (.told (.letT a b)) S = putP (.letT a b) S from rfl, ew]; omega
    | ifT a b c =>
      rw [cnt] at *
      rw [scT] at hsc
      have ep : (S.marks 2).places.length = S.places.length + 2 := by simp [St.marks]
      have ew : wPs (putP (.ifT a b c) S ++ R) = 40 * cnt a + (1 + (1 + (40 * cnt b + (1 + (1 + (1 + (40 * cnt c + (1 + wPs R)))))))) := rfl
      refine ⟨⟨?_, ?_, ?_, ?_, ?_⟩, ?_⟩
      · show sane B (.told a :: .row (.isr 1 S.places.length) :: .row .drop :: .told b :: .row (.go (S.places.length + 1)) :: .mark S.places.length :: .row .drop :: .told c :: .mark (S.places.length + 1) :: R) S.seats.length
        refine ⟨hsc.1, ?_, ?_, ?_, hsc.2.1, ?_, ?_, ?_, ?_, hsc.2.2, ?_, ?_, hsR⟩ <;> simp only [wPs, wP] <;> omega
      · show pmarks (S.marks 2).places.length _
        rw [ep]
        refine pmarks_append (fun q hq => ?_) (pmarks_mono (by omega) h2')
        replace hq : q ∈ putP (.ifT a b c) S := hq
        simp only [putP] at hq
        simp at hq
        rcases hq with rfl | rfl | rfl | rfl | rfl | rfl | rfl | rfl | rfl <;> first
          | trivial
          | (show _ < _; omega)
      · show rmarks (S.marks 2).places.length _
        rw [ep]
        exact rmarks_mono (by omega) h3
      · rw [show stepP (.told (.ifT a b c)) S = putP (.ifT a b c) S from rfl, ew]; show S.rows.length + _ ≤ B; omega
      · rw [show stepP (.told (.ifT a b c)) S = putP (.ifT a b c) S from rfl, ew]; show (S.marks 2).places.length + _ ≤ B; omega
      · rw [show stepP (.told (.ifT a b c)) S = putP (.ifT a b c) S from rfl, ew]; omega
    | same k a b =>
      rw [cnt] at *
      rw [scT] at hsc
      have ew : wPs (putP (.same k a b) S ++ R) = 40 * cnt a + (40 * cnt b + (1 + wPs R)) := rfl
      refine ⟨⟨?_, ?_, h3, ?_, ?_⟩, ?_⟩
      · show sane B (.told a :: .told b :: .row .same :: R) S.seats.length
        refine ⟨hsc.1, ?_, hsc.2, ?_, ?_, hsR⟩ <;> simp only [wPs, wP] <;> omega
      · refine pmarks_append (fun q hq => ?_) h2'
        replace hq : q ∈ putP (.same k a b) S := hq
        simp only [putP] at hq
        simp at hq
        rcases hq with rfl | rfl | rfl <;> trivial
      · show S.rows.length + wPs (putP (.same k a b) S ++ R) ≤ B; rw [ew]; omega
      · show S.places.length + wPs (putP (.same k a b) S ++ R) ≤ B; rw [ew]; omega
      · rw [show stepP (.told (.same k a b)) S = putP (.same k a b) S from rfl, ew]; omega
    | call f ps =>
      rw [cnt] at *
      rw [scT] at hsc
      have ew : wPs (putP (.call f ps) S ++ R) = 40 * cntTs ps + (1 + wPs R) := by simp only [putP]; rw [wPs_append, wPs_append, wPs_tolds, Nat.add_assoc]; rfl
      refine ⟨⟨?_, ?_, h3, ?_, ?_⟩, ?_⟩
      · show sane B (putP (.call f ps) S ++ R) S.seats.length
        simp only [putP]; rw [List.append_assoc]
        refine sane_tolds (sane_row hsR (by omega)) hsc ?_
        show _ + (_ + (1 + wPs R)) ≤ B
        omega
      · refine pmarks_append (fun q hq => ?_) h2'
        replace hq : q ∈ putP (.call f ps) S := hq
        simp only [putP] at hq
        rcases List.mem_append.mp hq with hq | hq
        · obtain ⟨x, _, rfl⟩ := List.mem_map.mp hq; trivial
        · rw [List.mem_singleton.mp hq]; trivial
      · show S.rows.length + wPs (putP (.call f ps) S ++ R) ≤ B; rw [ew]; omega
      · show S.places.length + wPs (putP (.call f ps) S ++ R) ≤ B; rw [ew]; omega
      · rw [show stepP (.told (.call f ps)) S = putP (.call f ps) S from rfl, ew]; omega
    | make k m ps =>
      rw [cnt] at *
      rw [scT] at hsc
      have ew : wPs (putP (.make k m ps) S ++ R) = 40 * cntTs ps + (1 + wPs R) := by simp only [putP]; rw [wPs_append, wPs_append, wPs_tolds, Nat.add_assoc]; rfl
      refine ⟨⟨?_, ?_, h3, ?_, ?_⟩, ?_⟩
      · show sane B (putP (.make k m ps) S ++ R) S.seats.length
        simp only [putP]; rw [List.append_assoc]
        refine sane_tolds (sane_row hsR (by omega)) hsc ?_
        show _ + (_ + (1 + wPs R)) ≤ B
        omega
      · refine pmarks_append (fun q hq => ?_) h2'
        replace hq : q ∈ putP (.make k m ps) S := hq
        simp only [putP] at hq
        rcases List.mem_append.mp hq with hq | hq
        · obtain ⟨x, _, rfl⟩ := List.mem_map.mp hq; trivial
        · rw [List.mem_singleton.mp hq]; trivial
      · show S.rows.length + wPs (putP (.make k m ps) S ++ R) ≤ B; rw [ew]; omega
      · show S.places.length + wPs (putP (.make k m ps) S ++ R) ≤ B; rw [ew]; omega
      · rw [show stepP (.told (.make k m ps)) S = putP (.make k m ps) S from rfl, ew]; omega
    | case k a arms =>
      rw [cnt] at *
      rw [scT] at hsc
      have hw := armsP_w arms S.seats S.held S.places.length (S.places.length + 1)
      have hb := armMarks_bound arms S.held (S.places.length + 1)
      have hl := armMarks_le arms S.held (S.places.length + 1)
      have ep : (S.marks (armMarks arms S.held (S.places.length + 1) - S.places.length)).places.length = armMarks arms S.held (S.places.length + 1) := by simp [St.marks]; omega
      have ew : wPs (putP (.case k a arms) S ++ R) = 40 * cnt a + (1 + (wPs (armsP arms S.seats S.held S.places.length (S.places.length + 1)) + (1 + (1 + (1 + wPs R))))) := by
        simp only [putP]
        rw [List.append_assoc, List.append_assoc, wPs_append, wPs_append]
        simp only [wPs, wP, List.cons_append, List.nil_append]
        omega
      refine ⟨⟨?_, ?_, ?_, ?_, ?_⟩, ?_⟩
      · show sane B (putP (.case k a arms) S ++ R) S.seats.length
        simp only [putP]
        rw [List.append_assoc, List.append_assoc]
        have hend : ∀ s, s + wPs (.mark S.places.length :: .row (.forget 1) :: .seats S.seats S.held :: R) ≤ B → sane B (.mark S.places.length :: .row (.forget 1) :: .seats S.seats S.held :: R) s := fun s hs => by
          simp only [wPs, wP] at hs
          refine ⟨?_, ?_, ?_, hsR⟩ <;> simp only [wPs, wP] <;> omega
        have ha := sane_arms (held := S.held) (e := S.places.length) hend arms (S.places.length + 1) S.seats.length hsc.2 (by simp only [wPs, wP]; omega) (by rw [wPs_append]; simp only [wPs, wP]; omega)
        show sane B (.told a :: .row .keep :: (armsP arms S.seats S.held S.places.length (S.places.length + 1) ++ (.mark S.places.length :: .row (.forget 1) :: .seats S.seats S.held :: R))) _
        refine ⟨hsc.1, ?_, ?_, ha⟩ <;> simp only [wPs, wP, wPs_append] <;> omega
      · show pmarks (S.marks _).places.length _
        rw [ep]
        refine pmarks_append (fun q hq => ?_) (pmarks_mono (by omega) h2')
        replace hq : q ∈ putP (.case k a arms) S := hq
        simp only [putP] at hq
        rcases List.mem_append.mp hq with hq | hq
        · rcases List.mem_append.mp hq with hq | hq
          · simp at hq
            rcases hq with rfl | rfl <;> trivial
          · exact armsP_marks (by omega) arms _ (Nat.le_refl _) q hq
        · simp at hq
          rcases hq with rfl | rfl | rfl
          · show _ < _; omega
          · trivial
          · trivial
      · show rmarks (S.marks _).places.length _
        rw [ep]
        exact rmarks_mono (by omega) h3
      · rw [show stepP (.told (.case k a arms)) S = putP (.case k a arms) S from rfl, ew]; show S.rows.length + _ ≤ B; omega
      · rw [show stepP (.told (.case k a arms)) S = putP (.case k a arms) S from rfl, ew]; show (S.marks _).places.length + _ ≤ B; omega
      · rw [show stepP (.told (.case k a arms)) S = putP (.case k a arms) S from rfl, ew]; omega
end K87

set_option Elab.async false
set_option linter.all false
set_option maxRecDepth 100000
set_option maxHeartbeats 2000000
/-! Own rules: an attribute as a target among several, != of data m deep, enumerate over a tuple. -/
namespace Ru
open PySem PySem.Spec PyProof.Rows L2
section
variable {X : Cx}
/-- o.f as a target -/
def gFld (K : PySem.W.Frag) (ta : TE) (f : Str) : TG := fun v σ H Q => ta σ H fun x H2 => ∃ a C dx fs, x = .ref a ∧ H2 a = some (.ins C dx fs) ∧ Cls K C ∧ NoAttr K C f ∧ fs.length < 1000 ∧ Q σ (upd H2 a (.ins C dx (putF f v fs)))
theorem pg_fld {o : Expr} {ta : TE} {f : Str} {pos : Pos} (ha : PE X o ta) : PG X (.Attribute o f pos) (gFld X.K ta f) := by
  refine ⟨fun pins s σ H v u Q I r h => ?_⟩
  refine PySem.W.kas_attr (thn (ha.run pins s σ H _ I h) fun ov s2 ⟨x, H2, I2, rx, a, C, dx, fs, ex, ea, c, n, l, q2⟩ => ?_)
  subst ex
  obtain rfl : ov = Value.ref a := rx
  exact setattr_ok I2 ea c n l r fun s3 I3 => ⟨σ, _, I3, q2⟩
/-- != of data, m deep at most -/
def rNeM (K : PySem.W.Frag) (m : Nat) : R2 := fun x y H Q => ∃ d e, Dp K H x d ∧ Dp K H y e ∧ d.canLay0 = true ∧ e.canLay0 = true ∧ min d.depth e.depth ≤ m ∧ Q (.bl (!PyData.eqv d e)) H
theorem op_neM {m : Nat} (hu : X.A.units + m < cLine) : OpR X (compareOp .NotEq) (rNeM X.K m) := by
  intro pins s σ H x y v u Q I rx ry h
  obtain ⟨d, e, hd, he, sd, se, hm, q⟩ := h
  obtain ⟨as, r1⟩ := Dp.reads I d x v hd rx
  obtain ⟨bs, r2⟩ := Dp.reads I e y u he ry
  exact SeqAt.compareNe_reads r1 r2 sd se (by omega) ⟨.bl _, H, I, rfl, q⟩
end
/-! ### enumerate(tuple) -/
open AutoSeq1 (wpAny_loadPart')
set_option maxHeartbeats 4000000 in
theorem meets_enumerate_new1 {v : Value} {o : Obj} {H : Heap → Prop} (B : Begins v o H) :
    Meets (Builtin.«enumerate.__new__» ⟨[.type "enumerate", v], []⟩) (fun _ R s => H s.heap ∧
      R (.ok (.ret (.ref (s.heap.push o).objs.size))) { s with heap := (s.heap.push o).push { cls := .type "enumerate", data := .fields #[.none, .bool false, .ref s.heap.objs.size, rawInt 0, .none, .none] } }) :=
  .of_wp fun prog w A R s h => by
    obtain ⟨hp, g, d, tk, os⟩ := s; obtain ⟨h1, h⟩ := h
    have hsub := sub_enumerate
    have q1 : ∀ {A' : Around} {E : Value → Shared → Prop} {Q : Value → Shared → Prop}, Q (.ref hp.objs.size) ⟨hp.push o, g, d, tk, os⟩ → wpAny (model prog w) A' (pyIter v) Q E ⟨hp, g, d, tk, os⟩ :=
      fun q => B.iter prog w _ _ ⟨hp, g, d, tk, os⟩ _ h1 q
    wp_walk using q1
    refine wpAny_stack_any fun st => wpAny_pure ?_
    split
    · rename_i c _ _ _ _ _
      cases (c == Value.type "enumerate")
      · wp_walk using q1
        exact ⟨_, rfl, h⟩
      · wp_walk using q1
        exact ⟨_, rfl, h⟩
    · wp_walk using q1
      exact ⟨_, rfl, h⟩
theorem enum_begins1 {prog : Program} {w : World} {A : Around} {E : Value → Shared → Prop} {s : Shared} {v : Value} {o : Obj} {H : Heap → Prop} {Q : Value → Shared → Prop} (B : Begins v o H) (h1 : H s.heap)
    (h : ∀ h', IsEnum h' (s.heap.objs.size + 1) s.heap.objs.size 0 .none → h'.get? s.heap.objs.size = some o → h'.objs.size = s.heap.objs.size + 2 →
      (∀ b o, s.heap.get? b = some o → h'.get? b = some o) → Q (.ref (s.heap.objs.size + 1)) { s with heap := h' }) :
    wpAny (model prog w) A (call (.type "enumerate") [v]) Q E s := by
  refine callType_new F.called_enumerate (by decide) (F.typeCall_enumerate_1 _) (F.newCall_enumerate_1 _) (fun obj => F.args_object_init_2 obj _) F.entry_enumerate_new
    (meets_enumerate_new1 B) ⟨h1, ?_⟩
  have hz : (s.heap.push o).objs.size = s.heap.objs.size + 1 := Heap.size_push ..
  show _ ∧ _
  rw [hz]
  have he : IsEnum ((s.heap.push o).push { cls := .type "enumerate", data := .fields #[.none, .bool false, .ref s.heap.objs.size, rawInt 0, .none, .none] }) (s.heap.objs.size + 1) s.heap.objs.size 0 .none := by
    have := Heap.get?_push_size (s.heap.push o) (o := { cls := .type "enumerate", data := .fields #[.none, .bool false, .ref s.heap.objs.size, rawInt 0, .none, .none] }) rfl
    rw [hz] at this; exact this
  refine ⟨⟨_, he, rfl⟩, h _ he (Heap.get?_push_of_some _ (Heap.get?_push_size _ B.free)) (by rw [Heap.size_push, hz]) fun b o x => Heap.get?_push_of_some _ (Heap.get?_push_of_some _ x)⟩
/-- the tuple at a, each item in a new pair -/
def IteT (K : PySem.W.Frag) (a : Addr) : It :=
  ⟨fun i H => ∃ (xs : List V) (x : V), SqT K H a xs ∧ xs[i]? = some x, fun i H v H' => ∃ T x, v = .ref T ∧ H T = none ∧ H' = upd H T (.tup [.int (i : Nat), x]) ∧ ∀ xs, SqT K H a xs → xs[i]? = some x, fun i H => ∃ xs : List V, SqT K H a xs ∧ xs.length ≤ i⟩
theorem turn_enumT {P : Program} {w : World} {K : PySem.W.Frag} {elts : List Expr} {kk : Nat} {tpos : Pos} (a e it : Addr) :
    Turn P w K (.Tuple elts kk tpos) (IteT K a) [e, it] e (fun i h => (∃ old, IsEnum h e it ((i : Nat) : Int) old) ∧ h.IsTupleIter it a i ∧ e ≠ it) where
  mem := by simp
  obj := fun i h st b hb => by
    obtain ⟨⟨old, he⟩, ⟨o, ho, hc, hd⟩, _⟩ := st
    have e' : b = e ∨ b = it := by simpa using hb
    rcases e' with z | z
    · rw [z]; exact ⟨_, he, fun v q => nomatch q⟩
    · rw [z]; exact ⟨o, ho, fun v q => by rw [hd] at q; cases q⟩
  keep := fun i h h' st k => let ⟨⟨old, he⟩, hi, hne⟩ := st; ⟨⟨old, k e (by simp) _ he⟩, hi.at fun o q => k it (by simp) o q, hne⟩
  item := by
    intro X hP hw hK hc i pins s σ H E I hf st hg
    subst hP hw hK
    obtain ⟨⟨old, he⟩, hit, hne⟩ := st
    obtain ⟨xs, x, hq, hx⟩ := hg
    obtain ⟨its, rv, p, hz⟩ := I.tuple hq
    obtain ⟨u, hu, ru⟩ := rv.get hx
    have hel : e < s.heap.objs.size := Heap.lt_size he
    have hil : it < s.heap.objs.size := by obtain ⟨_, q, _⟩ := hit; exact Heap.lt_size q
    have p' : s.heap.IsTuple a its.toArray := p
    have nai : a ≠ it := fun z => by
      obtain ⟨o1, h1, c1, _⟩ := p'
      obtain ⟨o2, h2, c2, _⟩ := hit
      rw [z, h2] at h1
      cases h1
      rw [c1] at c2
      injection c2 with c2
      exact absurd c2 (by decide)
    have nae : e ≠ a := fun z => by
      obtain ⟨o1, h1, c1, _⟩ := p'
      rw [← z] at h1
      have he' : s.heap.get? e = some _ := he
      rw [he'] at h1
      cases h1
      have c1' : (Value.type "enumerate") = Value.type "tuple" := c1
      injection c1' with c2
      exact absurd c2 (by decide)
    have hil2 : i < its.toArray.size := by
      have := (List.getElem?_eq_some_iff.mp hu).1
      simpa using this
    refine wpAny_pyNext_enum_itemC (Draws.tuple (A := X.A.in1) (I.ok.hd hc) it a nai its.toArray) he ⟨hit, p'⟩ hil2 hne (by simp [hne, nae]) fun y h' tk hP ho hst hT hsz hk => ?_
    have ey : y = u := by
      have : its.toArray[i]? = some u := by simpa using hu
      rw [this] at hP
      exact (Option.some.inj hP).symm
    subst ey
    obtain ⟨hit', _⟩ := hst
    refine ⟨_, rfl, wpAny_letOwnedTupleGo_enum (s := { s with heap := h', toks := tk + 1 }) ho fun h'' he' sb => ?_⟩
    have hT2 : h''.get? s.heap.objs.size = some { cls := .type "tuple", data := .seq #[.int i tk, y] } := (sb.2 _ (Nat.ne_of_gt hel)).trans hT
    have new : ObjOk X.prog X.w (upd H s.heap.objs.size (.tup [.int (i : Nat), x])) h'' s.heap.objs.size (.tup [.int (i : Nat), x]) :=
      ⟨by show 2 ≤ sizeLine; decide, [.int i tk, y], .cons ⟨_, rfl⟩ (.cons ru .nil), ⟨_, hT2, rfl, _, rfl⟩⟩
    have I1 : Inv X pins σ (upd H s.heap.objs.size (.tup [.int (i : Nat), x])) { s with heap := h'', toks := tk + 1 } :=
      I.turnedNew (ch := [e, it]) (fun b ob hb q => (sb.2 b (fun z => hb (by simp [z]))).trans (hk b ob (fun z => hb (by simp [z])) (fun z => hb (by simp [z])) q)) hf (Nat.le_refl _) new
    refine ⟨.ref s.heap.objs.size, _, I1, rfl, ⟨_, x, rfl, I.hok.fresh (Nat.le_refl _), rfl, fun ys hy => by rw [I.tuple_inj hy hq]; exact hx⟩, ⟨⟨y, ?_⟩, hit'.at fun o q => (sb.2 it (Ne.symm hne)).trans q, hne⟩, fun b hb => ?_⟩
    · have e1 : ((i + 1 : Nat) : Int) = (i : Int) + 1 := by omega
      rw [e1]; exact he'
    · have hb' : b < s.heap.objs.size := by
        have e' : b = e ∨ b = it := by simpa using hb
        rcases e' with z | z
        · rw [z]; exact hel
        · rw [z]; exact hil
      rw [upd_ne (Nat.ne_of_lt hb')]
      exact (hf b hb).1
  done := by
    intro X hP hw hK hc i pins s σ H E I hf st hg
    subst hP hw hK
    obtain ⟨⟨old, he⟩, hit, hne⟩ := st
    obtain ⟨xs, hq, hx⟩ := hg
    obtain ⟨its, rv, p, hz⟩ := I.tuple hq
    obtain ⟨f0, f1, f2, f3, f4, f5⟩ := hf it (by simp)
    have hl := rv.length
    have p' : s.heap.IsTuple a its.toArray := p
    have D : Draws X.prog X.w X.A.in1 it [it, a] i (fun _ _ => False) (fun j h => h.IsTupleIter it a j ∧ h.IsTuple a its.toArray ∧ i ≤ j) := {
      live := fun _ _ st => let ⟨o, ho, _⟩ := st.1; ⟨o, ho⟩
      frame := fun _ _ _ st hk => ⟨st.1.at fun o e => hk it (by simp) o e, st.2.1.at fun o e => hk a (by simp) o e, st.2.2⟩
      item := fun j s Q E hj st hQ => by have := st.2.2; omega
      done := fun s Q E st hE => wpAny_nextOf_tuple_end (A := X.A.in1) (I.ok.hd hc) st.1 st.2.1 (by simp; omega) hE }
    exact wpAny_pyNext_enum_endD D he ⟨hit, p', Nat.le_refl _⟩ fun h' eb => ⟨rfl, I.turned (t' := s.toks) (fun b o hb q => eb b o hb q) f0 f1 f3 f4 f5⟩
  self := fun A i s Q E st h => let ⟨⟨_, he⟩, _⟩ := st; wpAny_pyIter_enum he h
def iEnumT (K : PySem.W.Frag) (ta : TA) : TI := fun σ H R => ta σ H fun vs H1 => ∃ a xs, vs = [.ref a] ∧ SqT K H1 a xs ∧ R (IteT K a) H1
theorem pi_enumT {X : Cx} {e : Expr} {ta : TA} {p pos tpos : Pos} {elts : List Expr} {kk : Nat} (hg : Gl X "enumerate") (hm : X.mg "enumerate" = none) (ha : PA X [e] ta) (hs : starEach [e] X.env = [(false, eval e X.env)] := by rfl) :
    PI X (.Tuple elts kk tpos) (.Call (.Name "enumerate" p) [e] [] pos) (iEnumT X.K ta) := by
  refine ⟨fun pins s σ H R I h => ?_⟩
  refine Call_ (ld_blt I hg hm boot_enumerate (PyProof.Rows.callWith_type1 (thn (ha.run pos pins s σ H _ I h) fun us s1 ⟨vs, H1, I1, r1, q1⟩ => ?_) hs rfl))
  obtain ⟨a, xs, ex, hq, q⟩ := q1
  subst ex
  cases r1 with
  | cons r rr =>
    cases rr
    cases r
    obtain ⟨its, rv, p', hz⟩ := I1.tuple hq
    have p2 : s1.heap.IsTuple a its.toArray := p'
    refine enum_begins1 (begins_tuple a its.toArray) p2 fun h' he hit hsz hk => wpAny_pyIter_enum he ?_
    have I2 : Inv X pins σ H1 { s1 with heap := h' } := I1.kept (t' := s1.toks) hk
    refine ⟨s1.heap.objs.size + 1, [s1.heap.objs.size + 1, s1.heap.objs.size], _, _, H1, rfl, I2, turn_enumT a (s1.heap.objs.size + 1) s1.heap.objs.size, ⟨⟨.none, he⟩, ⟨_, hit, rfl, rfl⟩, Nat.succ_ne_self _⟩, fun b hb => ?_, q⟩
    have e' : b = s1.heap.objs.size + 1 ∨ b = s1.heap.objs.size := by simpa using hb
    have hle : s1.heap.objs.size ≤ b := by
      rcases e' with z | z
      · rw [z]; exact Nat.le_add_right _ _
      · rw [z]; exact Nat.le_refl _
    exact I1.fpOk hle (I1.hok.fresh hle)
end Ru

set_option Elab.async false
set_option linter.all false
set_option maxRecDepth 100000
set_option maxHeartbeats 2000000
/-! How tolds, forms, pieces and the maker of rows stand in the heap. -/
namespace K87
open PySem PySem.Spec PyProof.Rows L2 Ru Rp Mch
inductive Tr where
  | i (n : Int) | s (z : Str) | t (xs : List Tr)
section
variable (K : PySem.W.Frag)
mutual
def TrAt (H : Hp) : V → Tr → Prop
  | v, .i n => v = .int n
  | v, .s z => v = .str z
  | v, .t xs => ∃ a vs, v = .ref a ∧ SqT K H a vs ∧ TrsAt H vs xs
def TrsAt (H : Hp) : List V → List Tr → Prop
  | vs, [] => vs = []
  | vs, c :: r => ∃ v q, vs = v :: q ∧ TrAt H v c ∧ TrsAt H q r
end
end
section
variable {K : PySem.W.Frag} {H H' : Hp}
mutual
theorem TrAt.mono (e : TEx H H') : ∀ (c : Tr) (v : V), TrAt K H v c → TrAt K H' v c
  | .i n, v, h => by unfold TrAt at h ⊢; exact h
  | .s n, v, h => by unfold TrAt at h ⊢; exact h
  | .t xs, v, h => by
    unfold TrAt at h ⊢
    obtain ⟨a, vs, rfl, h1, h2⟩ := h
    exact ⟨a, vs, rfl, e.sq h1, TrsAt.mono e xs vs h2⟩
theorem TrsAt.mono (e : TEx H H') : ∀ (cs : List Tr) (vs : List V), TrsAt K H vs cs → TrsAt K H' vs cs
  | [], vs, h => by unfold TrsAt at h ⊢; exact h
  | c :: r, vs, h => by
    unfold TrsAt at h ⊢
    obtain ⟨v, q, rfl, h1, h2⟩ := h
    exact ⟨v, q, rfl, TrAt.mono e c v h1, TrsAt.mono e r q h2⟩
end
theorem TrAt.to (e : TEx H H') {c : Tr} {v : V} (h : TrAt K H v c) : TrAt K H' v c := TrAt.mono e c v h
theorem TrsAt.to (e : TEx H H') {c : List Tr} {v : List V} (h : TrsAt K H v c) : TrsAt K H' v c := TrsAt.mono e c v h
theorem tr_i {v : V} {n : Int} : TrAt K H v (.i n) ↔ v = .int n := by unfold TrAt; exact Iff.rfl
theorem tr_s {v : V} {z : Str} : TrAt K H v (.s z) ↔ v = .str z := by unfold TrAt; exact Iff.rfl
theorem tr_t {v : V} {xs : List Tr} : TrAt K H v (.t xs) ↔ ∃ a vs, v = .ref a ∧ SqT K H a vs ∧ TrsAt K H vs xs := by unfold TrAt; exact Iff.rfl
theorem trs_nil {vs : List V} : TrsAt K H vs [] ↔ vs = [] := by unfold TrsAt; exact Iff.rfl
theorem trs_cons {vs : List V} {c : Tr} {r : List Tr} : TrsAt K H vs (c :: r) ↔ ∃ v q, vs = v :: q ∧ TrAt K H v c ∧ TrsAt K H q r := by rw [TrsAt]
theorem trs_len : ∀ {cs : List Tr} {vs : List V}, TrsAt K H vs cs → vs.length = cs.length
  | [], vs, h => by rw [trs_nil.mp h]; rfl
  | c :: r, vs, h => by
    obtain ⟨v, q, rfl, _, h2⟩ := trs_cons.mp h
    simp [trs_len h2]
theorem trs_get : ∀ {cs : List Tr} {vs : List V} {i : Nat} {v : V}, TrsAt K H vs cs → vs[i]? = some v → ∃ c, cs[i]? = some c ∧ TrAt K H v c
  | [], vs, i, v, h, e => by rw [trs_nil.mp h] at e; simp at e
  | d :: r, vs, 0, v, h, e => by
    obtain ⟨u, q, rfl, h1, h2⟩ := trs_cons.mp h
    have e' : u = v := by simpa using e
    subst e'
    exact ⟨d, rfl, h1⟩
  | d :: r, vs, i + 1, v, h, e => by
    obtain ⟨u, q, rfl, h1, h2⟩ := trs_cons.mp h
    obtain ⟨c, e1, e2⟩ := trs_get (i := i) h2 (by simpa using e)
    exact ⟨c, by simpa using e1, e2⟩
theorem trs_at : ∀ {cs : List Tr} {vs : List V} {i : Nat} {c : Tr}, TrsAt K H vs cs → cs[i]? = some c → ∃ v, vs[i]? = some v ∧ TrAt K H v c
  | [], vs, i, c, h, e => by simp at e
  | d :: r, vs, 0, c, h, e => by
    obtain ⟨u, q, rfl, h1, h2⟩ := trs_cons.mp h
    have e' : d = c := by simpa using e
    subst e'
    exact ⟨u, rfl, h1⟩
  | d :: r, vs, i + 1, c, h, e => by
    obtain ⟨u, q, rfl, h1, h2⟩ := trs_cons.mp h
    obtain ⟨v, e1, e2⟩ := trs_at (i := i) h2 (by simpa using e)
    exact ⟨v, by simpa using e1, e2⟩
theorem trs_append : ∀ {cs ds : List Tr} {vs ws : List V}, TrsAt K H vs cs → TrsAt K H ws ds → TrsAt K H (vs ++ ws) (cs ++ ds)
  | [], _, vs, ws, h, g => by rw [trs_nil.mp h]; exact g
  | c :: r, ds, vs, ws, h, g => by
    obtain ⟨v, q, rfl, h1, h2⟩ := trs_cons.mp h
    exact trs_cons.mpr ⟨v, q ++ ws, rfl, h1, trs_append h2 g⟩
theorem trs_one {v : V} {c : Tr} (h : TrAt K H v c) : TrsAt K H [v] [c] := trs_cons.mpr ⟨v, [], rfl, h, trs_nil.mpr rfl⟩
end
/-! ### tolds as trees -/
mutual
def formT : Form → Tr
  | .any => .t [.s "any"]
  | .bind => .t [.s "bind"]
  | .make m fs => .t [.s "make", .i (m : Int), .t (formsT fs)]
def formsT : Forms → List Tr
  | .nil => []
  | .cons f r => formT f :: formsT r
end
def pairT (k : Nat) : Tr := ([.t [.s "", .s "Truth"], .t [.s "Ma", .s "Hue"], .t [.s "Ma", .s "Couple"], .t [.s "Other", .s "Tree"]] : List Tr).getD k (.t [])
mutual
def toldT : Told Nm → Tr
  | .loc n => .t [.s "local", .i (n : Int)]
  | .letT a b => .t [.s "let", toldT a, toldT b]
  | .ifT a b c => .t [.s "if", toldT a, toldT b, toldT c]
  | .same k a b => .t [.s "same", pairT k, toldT a, toldT b]
  | .case k a arms => .t [.s "case", pairT k, toldT a, .t (armsT arms)]
  | .call f ps => .t [.s "call", .s f.1, .s f.2, .t (toldsT ps)]
  | .make k m ps => .t [.s "make", pairT k, .i (m : Int), .t (toldsT ps)]
def toldsT : Tolds Nm → List Tr
  | .nil => []
  | .cons t r => toldT t :: toldsT r
def armsT : Arms Nm → List Tr
  | .nil => []
  | .cons f t r => .t [formT f, toldT t] :: armsT r
end
theorem formsT_list (fs : Forms) : formsT fs = fs.list.map formT := by
  cases fs with
  | nil => rfl
  | cons f r => rw [formsT, Forms.list, List.map_cons, formsT_list r]
theorem toldsT_list (ps : Tolds Nm) : toldsT ps = ps.list.map toldT := by
  cases ps with
  | nil => rfl
  | cons f r => rw [toldsT, Tolds.list, List.map_cons, toldsT_list r]
theorem armsT_list (as : Arms Nm) : armsT as = as.list.map fun p => .t [formT p.1, toldT p.2] := by
  cases as with
  | nil => rfl
  | cons f t r => rw [armsT, Arms.list, List.map_cons, armsT_list r]
def Form.word : Form → Str
  | .any => "any"
  | .bind => "bind"
  | .make _ _ => "make"
def Told.word : Told Nm → Str
  | .loc _ => "local"
  | .letT _ _ => "let"
  | .ifT _ _ _ => "if"
  | .same _ _ _ => "same"
  | .case _ _ _ => "case"
  | .call _ _ => "call"
  | .make _ _ _ => "make"
/-! ### the maker of rows -/
structure Ad where
  p : Addr
  dx : Addr
  ar : Addr
  ap : Addr
  ad : Addr
  /-- one more address that no list of seats has -/
  x : Addr
def natVs (ns : List Nat) : List V := ns.map fun (n : Nat) => V.int (n : Int)
/-- a list that the maker does not write -/
def SeatsAt (H : Hp) (A : Ad) (l : Addr) (s : List Nat) : Prop := H l = some (.lst (natVs s)) ∧ l ≠ A.ar ∧ l ≠ A.ap ∧ l ≠ A.ad ∧ l ≠ A.x
def Piece.word : Piece Nm → Str
  | .told _ => "told"
  | .row _ => "row"
  | .mark _ => "mark"
  | .seats _ _ => "seats"
section
variable (K : PySem.W.Frag) (H : Hp) (A : Ad)
def PayAt (x : V) : Piece Nm → Prop
  | .told t => TrAt K H x (toldT t)
  | .row r => RowAt K H x r
  | .mark k => x = .int (k : Int)
  | .seats s h => ∃ b l, x = .ref b ∧ SqT K H b [.ref l, .int (h : Int)] ∧ SeatsAt H A l s
def PieceAt (v : V) (p : Piece Nm) : Prop := ∃ a x, v = .ref a ∧ SqT K H a [.str p.word, x] ∧ PayAt K H A x p
def PiecesAt : List V → List (Piece Nm) → Prop := Paired (PieceAt K H A)
/-- the fields of the maker -/
def flds (ar ap as : Addr) (held : Nat) (ad : Addr) : List (Str × V) := [("rows", .ref ar), ("places", .ref ap), ("seats", .ref as), ("held", .int (held : Int)), ("due", .ref ad)]
structure MkAt (C : Addr) (S : St Nm) (due : List (Piece Nm)) : Prop where
  ob : ∃ as, H A.p = some (.ins C A.dx (flds A.ar A.ap as S.held A.ad)) ∧ SeatsAt H A as S.seats
  rows : ∃ rv, H A.ar = some (.lst rv) ∧ RowsOf K H rv S.rows
  places : H A.ap = some (.lst (natVs S.places))
  due : ∃ dv, H A.ad = some (.lst dv.reverse) ∧ PiecesAt K H A dv due
  ne : A.ar ≠ A.ap ∧ A.ar ≠ A.ad ∧ A.ap ≠ A.ad
end
/-- all but the maker's own objects stand -/
def Kp (A : Ad) (H H' : Hp) : Prop := ∀ b o, H b = some o → b ≠ A.p → b ≠ A.ar → b ≠ A.ap → b ≠ A.ad → H' b = some o
theorem Kp.refl (A : Ad) (H : Hp) : Kp A H H := fun _ _ e _ _ _ _ => e
theorem Kp.trans {A : Ad} {H H1 H2 : Hp} (a : Kp A H H1) (b : Kp A H1 H2) : Kp A H H2 := fun x o e n1 n2 n3 n4 => b x o (a x o e n1 n2 n3 n4) n1 n2 n3 n4
theorem Kp.of_same {A : Ad} {H H' : Hp} (s : Same H H') : Kp A H H' := fun b o e _ _ _ _ => s b o e
section
variable {K : PySem.W.Frag} {H H' : Hp} {A : Ad} {C : Addr} {S : St Nm} {due : List (Piece Nm)}
theorem lst_not_tup {H : Hp} {l a : Addr} {xs zs : List V} (hl : H l = some (.lst xs)) (r : Rd H a (.tup zs)) : a ≠ l := by
  rintro rfl
  rcases r with r | ⟨o, r⟩ <;> (rw [hl] at r; cases r)
theorem ins_not_tup {H : Hp} {l a C dx : Addr} {fs : List (Str × V)} {zs : List V} (hl : H l = some (.ins C dx fs)) (r : Rd H a (.tup zs)) : a ≠ l := by
  rintro rfl
  rcases r with r | ⟨o, r⟩ <;> (rw [hl] at r; cases r)
theorem MkAt.tex (M : MkAt K H A C S due) (k : Kp A H H') : TEx H H' := fun a zs r => by
  obtain ⟨as, h1, _⟩ := M.ob
  obtain ⟨rv, h2, _⟩ := M.rows
  obtain ⟨dv, h3, _⟩ := M.due
  have n1 := ins_not_tup h1 r
  have n2 := lst_not_tup h2 r
  have n3 := lst_not_tup M.places r
  have n4 := lst_not_tup h3 r
  rcases r with r | ⟨o, r⟩
  · exact Or.inl (k _ _ r n1 n2 n3 n4)
  · exact Or.inr ⟨o, k _ _ r n1 n2 n3 n4⟩
theorem SeatsAt.kp {l : Addr} {s : List Nat} (h : SeatsAt H A l s) (M : MkAt K H A C S due) (k : Kp A H H') : SeatsAt H' A l s := by
  obtain ⟨e, n1, n2, n3, n4⟩ := h
  obtain ⟨as, h1, _⟩ := M.ob
  exact ⟨k _ _ e (ne_of e h1 (by intro z; cases z)) n1 n2 n3, n1, n2, n3, n4⟩
theorem SeatsAt.same {l : Addr} {s : List Nat} (h : SeatsAt H A l s) (k : Same H H') : SeatsAt H' A l s := ⟨k _ _ h.1, h.2⟩
theorem PayAt.keeps {x : V} {p : Piece Nm} (t : TEx H H') (hs : ∀ l s, SeatsAt H A l s → SeatsAt H' A l s) (h : PayAt K H A x p) : PayAt K H' A x p := by
  cases p with
  | told t' => exact TrAt.to t h
  | row r => exact RowAt.to t h
  | mark k => exact h
  | seats s k =>
    obtain ⟨b, l, rfl, h1, h2⟩ := h
    exact ⟨b, l, rfl, t.sq h1, hs _ _ h2⟩
theorem PieceAt.keeps {v : V} {p : Piece Nm} (t : TEx H H') (hs : ∀ l s, SeatsAt H A l s → SeatsAt H' A l s) (h : PieceAt K H A v p) : PieceAt K H' A v p := by
  obtain ⟨a, x, rfl, h1, h2⟩ := h
  exact ⟨a, x, rfl, t.sq h1, h2.keeps t hs⟩
theorem PiecesAt.keeps {vs : List V} {ps : List (Piece Nm)} (t : TEx H H') (hs : ∀ l s, SeatsAt H A l s → SeatsAt H' A l s) (h : PiecesAt K H A vs ps) : PiecesAt K H' A vs ps := L2.Paired.mapP h fun _ _ q => q.keeps t hs
theorem PiecesAt.same {vs : List V} {ps : List (Piece Nm)} (s : Same H H') (h : PiecesAt K H A vs ps) : PiecesAt K H' A vs ps := h.keeps (TEx.of_same s) fun _ _ q => q.same s
theorem MkAt.same (M : MkAt K H A C S due) (s : Same H H') : MkAt K H' A C S due := by
  obtain ⟨as, h1, h1'⟩ := M.ob
  obtain ⟨rv, h2, h2'⟩ := M.rows
  obtain ⟨dv, h3, h3'⟩ := M.due
  exact ⟨⟨as, s _ _ h1, h1'.same s⟩, ⟨rv, s _ _ h2, h2'.to (TEx.of_same s)⟩, s _ _ M.places, ⟨dv, s _ _ h3, h3'.same s⟩, M.ne⟩
def Ad.setx (A : Ad) (y : Addr) : Ad := { A with x := y }
theorem SeatsAt.setx {l y : Addr} {s : List Nat} (h : SeatsAt H A l s) (hy : l ≠ y) : SeatsAt H (A.setx y) l s := ⟨h.1, h.2.1, h.2.2.1, h.2.2.2.1, hy⟩
theorem PieceAt.setx {v : V} {p : Piece Nm} {y : Addr} (hy : ∀ q s, SeatsAt H A q s → q ≠ y) (h : PieceAt K H A v p) : PieceAt K H (A.setx y) v p := by
  obtain ⟨a, x, rfl, h1, h2⟩ := h
  refine ⟨a, x, rfl, h1, ?_⟩
  cases p with
  | told t => exact h2
  | row r => exact h2
  | mark k => exact h2
  | seats s k =>
    obtain ⟨b, l, rfl, h3, h4⟩ := h2
    exact ⟨b, l, rfl, h3, h4.setx (hy _ _ h4)⟩
theorem PiecesAt.setx {vs : List V} {ps : List (Piece Nm)} {y : Addr} (hy : ∀ q s, SeatsAt H A q s → q ≠ y) (h : PiecesAt K H A vs ps) : PiecesAt K H (A.setx y) vs ps := L2.Paired.mapP h fun _ _ q => q.setx hy
theorem MkAt.setx (M : MkAt K H A C S due) {y : Addr} (hy : ∀ q s, SeatsAt H A q s → q ≠ y) : MkAt K H (A.setx y) C S due := by
  obtain ⟨as, h1, h1'⟩ := M.ob
  obtain ⟨rv, h2, h2'⟩ := M.rows
  obtain ⟨dv, h3, h3'⟩ := M.due
  exact ⟨⟨as, h1, h1'.setx (hy _ _ h1')⟩, ⟨rv, h2, h2'⟩, M.places, ⟨dv, h3, h3'.setx hy⟩, M.ne⟩
theorem MkAt.not_p (M : MkAt K H A C S due) {q : Addr} {s : List Nat} (h : SeatsAt H A q s) : q ≠ A.p := by
  obtain ⟨as, h1, _⟩ := M.ob
  exact ne_of h.1 h1 (by intro z; cases z)
theorem seats_new {l : Addr} (hl : H l = none) (q : Addr) (s : List Nat) (h : SeatsAt H A q s) : q ≠ l := ne_of_none h.1 hl
theorem ne_rows_places : (("rows" : Str) == "places") = false := by decide +kernel
theorem nq_rows_places : ¬ ("rows" : Str) = "places" := by decide +kernel
theorem ne_rows_seats : (("rows" : Str) == "seats") = false := by decide +kernel
theorem nq_rows_seats : ¬ ("rows" : Str) = "seats" := by decide +kernel
theorem ne_rows_held : (("rows" : Str) == "held") = false := by decide +kernel
theorem nq_rows_held : ¬ ("rows" : Str) = "held" := by decide +kernel
theorem ne_rows_due : (("rows" : Str) == "due") = false := by decide +kernel
theorem nq_rows_due : ¬ ("rows" : Str) = "due" := by decide +kernel
theorem ne_places_rows : (("places" : Str) == "rows") = false := by decide +kernel
theorem nq_places_rows : ¬ ("places" : Str) = "rows" := by decide +kernel
theorem ne_places_seats : (("places" : Str) == "seats") = false := by decide +kernel
theorem nq_places_seats : ¬ ("places" : Str) = "seats" := by decide +kernel
theorem ne_places_held : (("places" : Str) == "held") = false := by decide +kernel
theorem nq_places_held : ¬ ("places" : Str) = "held" := by decide +kernel
theorem ne_places_due : (("places" : Str) == "due") = false := by decide +kernel
theorem nq_places_due : ¬ ("places" : Str) = "due" := by decide +kernel
theorem ne_seats_rows : (("seats" : Str) == "rows") = false := by decide +kernel
theorem nq_seats_rows : ¬ ("seats" : Str) = "rows" := by decide +kernel
theorem ne_seats_places : (("seats" : Str) == "places") = false := by decide +kernel
theorem nq_seats_places : ¬ ("seats" : Str) = "places" := by decide +kernel
theorem ne_seats_held : (("seats" : Str) == "held") = false := by decide +kernel
theorem nq_seats_held : ¬ ("seats" : Str) = "held" := by decide +kernel
theorem ne_seats_due : (("seats" : Str) == "due") = false := by decide +kernel
theorem nq_seats_due : ¬ ("seats" : Str) = "due" := by decide +kernel
theorem ne_held_rows : (("held" : Str) == "rows") = false := by decide +kernel
theorem nq_held_rows : ¬ ("held" : Str) = "rows" := by decide +kernel
theorem ne_held_places : (("held" : Str) == "places") = false := by decide +kernel
theorem nq_held_places : ¬ ("held" : Str) = "places" := by decide +kernel
theorem ne_held_seats : (("held" : Str) == "seats") = false := by decide +kernel
theorem nq_held_seats : ¬ ("held" : Str) = "seats" := by decide +kernel
theorem ne_held_due : (("held" : Str) == "due") = false := by decide +kernel
theorem nq_held_due : ¬ ("held" : Str) = "due" := by decide +kernel
theorem ne_due_rows : (("due" : Str) == "rows") = false := by decide +kernel
theorem nq_due_rows : ¬ ("due" : Str) = "rows" := by decide +kernel
theorem ne_due_places : (("due" : Str) == "places") = false := by decide +kernel
theorem nq_due_places : ¬ ("due" : Str) = "places" := by decide +kernel
theorem ne_due_seats : (("due" : Str) == "seats") = false := by decide +kernel
theorem nq_due_seats : ¬ ("due" : Str) = "seats" := by decide +kernel
theorem ne_due_held : (("due" : Str) == "held") = false := by decide +kernel
theorem nq_due_held : ¬ ("due" : Str) = "held" := by decide +kernel
theorem flds_rows {ar ap as ad : Addr} {h : Nat} : (flds ar ap as h ad).lookup ("rows" : Str) = some (.ref ar) := by
  simp [flds, List.lookup]
theorem flds_places {ar ap as ad : Addr} {h : Nat} : (flds ar ap as h ad).lookup ("places" : Str) = some (.ref ap) := by
  simp [flds, List.lookup, ne_places_rows]
theorem flds_seats {ar ap as ad : Addr} {h : Nat} : (flds ar ap as h ad).lookup ("seats" : Str) = some (.ref as) := by
  simp [flds, List.lookup, ne_seats_rows, ne_seats_places]
theorem flds_held {ar ap as ad : Addr} {h : Nat} : (flds ar ap as h ad).lookup ("held" : Str) = some (.int (h : Int)) := by
  simp [flds, List.lookup, ne_held_rows, ne_held_places, ne_held_seats]
theorem flds_due {ar ap as ad : Addr} {h : Nat} : (flds ar ap as h ad).lookup ("due" : Str) = some (.ref ad) := by
  simp [flds, List.lookup, ne_due_rows, ne_due_places, ne_due_seats, ne_due_held]
theorem flds_no_mark {ar ap as ad : Addr} {h : Nat} : (flds ar ap as h ad).lookup ("mark" : Str) = none := by
  simp only [flds, List.lookup, show (("mark" : Str) == "rows") = false from by decide +kernel, show (("mark" : Str) == "places") = false from by decide +kernel, show (("mark" : Str) == "seats") = false from by decide +kernel, show (("mark" : Str) == "held") = false from by decide +kernel, show (("mark" : Str) == "due") = false from by decide +kernel]
theorem flds_no_put {ar ap as ad : Addr} {h : Nat} : (flds ar ap as h ad).lookup ("put" : Str) = none := by
  simp only [flds, List.lookup, show (("put" : Str) == "rows") = false from by decide +kernel, show (("put" : Str) == "places") = false from by decide +kernel, show (("put" : Str) == "seats") = false from by decide +kernel, show (("put" : Str) == "held") = false from by decide +kernel, show (("put" : Str) == "due") = false from by decide +kernel]
theorem flds_no_queue {ar ap as ad : Addr} {h : Nat} : (flds ar ap as h ad).lookup ("queue" : Str) = none := by
  simp only [flds, List.lookup, show (("queue" : Str) == "rows") = false from by decide +kernel, show (("queue" : Str) == "places") = false from by decide +kernel, show (("queue" : Str) == "seats") = false from by decide +kernel, show (("queue" : Str) == "held") = false from by decide +kernel, show (("queue" : Str) == "due") = false from by decide +kernel]
theorem flds_no_tests {ar ap as ad : Addr} {h : Nat} : (flds ar ap as h ad).lookup ("tests" : Str) = none := by
  simp only [flds, List.lookup, show (("tests" : Str) == "rows") = false from by decide +kernel, show (("tests" : Str) == "places") = false from by decide +kernel, show (("tests" : Str) == "seats") = false from by decide +kernel, show (("tests" : Str) == "held") = false from by decide +kernel, show (("tests" : Str) == "due") = false from by decide +kernel]
theorem flds_no_put_if {ar ap as ad : Addr} {h : Nat} : (flds ar ap as h ad).lookup ("put_if" : Str) = none := by
  simp only [flds, List.lookup, show (("put_if" : Str) == "rows") = false from by decide +kernel, show (("put_if" : Str) == "places") = false from by decide +kernel, show (("put_if" : Str) == "seats") = false from by decide +kernel, show (("put_if" : Str) == "held") = false from by decide +kernel, show (("put_if" : Str) == "due") = false from by decide +kernel]
theorem flds_no_put_case {ar ap as ad : Addr} {h : Nat} : (flds ar ap as h ad).lookup ("put_case" : Str) = none := by
  simp only [flds, List.lookup, show (("put_case" : Str) == "rows") = false from by decide +kernel, show (("put_case" : Str) == "places") = false from by decide +kernel, show (("put_case" : Str) == "seats") = false from by decide +kernel, show (("put_case" : Str) == "held") = false from by decide +kernel, show (("put_case" : Str) == "due") = false from by decide +kernel]
theorem flds_no_aimed {ar ap as ad : Addr} {h : Nat} : (flds ar ap as h ad).lookup ("aimed" : Str) = none := by
  simp only [flds, List.lookup, show (("aimed" : Str) == "rows") = false from by decide +kernel, show (("aimed" : Str) == "places") = false from by decide +kernel, show (("aimed" : Str) == "seats") = false from by decide +kernel, show (("aimed" : Str) == "held") = false from by decide +kernel, show (("aimed" : Str) == "due") = false from by decide +kernel]
theorem flds_no_write {ar ap as ad : Addr} {h : Nat} : (flds ar ap as h ad).lookup ("write" : Str) = none := by
  simp only [flds, List.lookup, show (("write" : Str) == "rows") = false from by decide +kernel, show (("write" : Str) == "places") = false from by decide +kernel, show (("write" : Str) == "seats") = false from by decide +kernel, show (("write" : Str) == "held") = false from by decide +kernel, show (("write" : Str) == "due") = false from by decide +kernel]
theorem put_seats {ar ap as ad : Addr} {h : Nat} {x : Addr} : putF "seats" (.ref x) (flds ar ap as h ad) = flds ar ap x h ad := by
  simp only [flds, putF, if_true, if_neg nq_rows_seats, if_neg nq_places_seats]
theorem put_held {ar ap as ad : Addr} {h : Nat} {x : Nat} : putF "held" (.int (x : Int)) (flds ar ap as h ad) = flds ar ap as x ad := by
  simp only [flds, putF, if_true, if_neg nq_rows_held, if_neg nq_places_held, if_neg nq_seats_held]
theorem put_due {ar ap as ad : Addr} {h : Nat} {x : Addr} : putF "due" (.ref x) (flds ar ap as h ad) = flds ar ap as h x := by
  simp only [flds, putF, if_true, if_neg nq_rows_due, if_neg nq_places_due, if_neg nq_seats_due, if_neg nq_held_due]
end
end K87

set_option Elab.async false
set_option linter.all false
set_option maxRecDepth 100000
set_option maxHeartbeats 4000000
namespace K87
open PySem PySem.Spec PyProof.Rows L2
def top (i : Nat) : Stmt := PySem.Challenge.pw_asiffresh_k87_rows_of_a_core.main.body.getD i (.Pass ⟨0, 0, 0, 0⟩)
abbrev s_RowMaker___init__ : Stmt := inClass (top 1) 0
abbrev s_RowMaker_write : Stmt := inClass (top 1) 1
abbrev s_RowMaker_aimed : Stmt := inClass (top 1) 2
abbrev s_RowMaker_mark : Stmt := inClass (top 1) 3
abbrev s_RowMaker_queue : Stmt := inClass (top 1) 4
abbrev s_RowMaker_put : Stmt := inClass (top 1) 5
abbrev s_RowMaker_put_if : Stmt := inClass (top 1) 6
abbrev s_RowMaker_put_case : Stmt := inClass (top 1) 7
abbrev s_RowMaker_tests : Stmt := inClass (top 1) 8
abbrev s_rows_of : Stmt := top 3
abbrev s__law_deck : Stmt := top 5
abbrev s__law_take : Stmt := top 6
abbrev s__law_many : Stmt := top 7
abbrev s__law_kinds : Stmt := top 8
abbrev s__law_pair : Stmt := top 9
abbrev s__law_cell : Stmt := top 10
abbrev s__law_weight : Stmt := top 11
abbrev s__law_picked : Stmt := top 12
abbrev s__law_defs : Stmt := top 13
abbrev s__law_does : Stmt := top 14
abbrev s__law_forms : Stmt := top 15
abbrev s__law_narrow : Stmt := top 16
abbrev s__law_spots : Stmt := top 17
abbrev s__law_any : Stmt := top 18
abbrev s__law_bound : Stmt := top 19
abbrev s__law_made : Stmt := top 20
abbrev s__law_call : Stmt := top 21
abbrev s__law_core : Stmt := top 22
abbrev s__law_count : Stmt := top 23
abbrev s__law_taken : Stmt := top 24
abbrev s__law_worth : Stmt := top 25
abbrev s__law_plain_rows : Stmt := top 26
abbrev s__law_machine : Stmt := top 27
abbrev s__law_anew : Stmt := top 28
abbrev s_law : Stmt := top 29
/-- what the top has written -/
structure Txt (K : PySem.W.Frag) (mg : Str → Option Value) where
  C_RowMaker : Addr
  cl_RowMaker : Cls K C_RowMaker
  g_RowMaker : mg "RowMaker" = some (.ref C_RowMaker)
  n_RowMaker_rows : NoAttr K C_RowMaker "rows"
  n_RowMaker_places : NoAttr K C_RowMaker "places"
  n_RowMaker_seats : NoAttr K C_RowMaker "seats"
  n_RowMaker_held : NoAttr K C_RowMaker "held"
  n_RowMaker_due : NoAttr K C_RowMaker "due"
  f_RowMaker___init__ : Addr
  fd_RowMaker___init__ : FuncData
  F_RowMaker___init__ : Fun K "__init__" "RowMaker.__init__" s_RowMaker___init__ f_RowMaker___init__ fd_RowMaker___init__
  b_RowMaker___init__ : Binds K fd_RowMaker___init__ ["self", "many"] []
  mk_RowMaker : Mk K C_RowMaker f_RowMaker___init__
  f_RowMaker_write : Addr
  fd_RowMaker_write : FuncData
  F_RowMaker_write : Fun K "write" "RowMaker.write" s_RowMaker_write f_RowMaker_write fd_RowMaker_write
  b_RowMaker_write : Binds K fd_RowMaker_write ["self", "told"] []
  m_RowMaker_write : Meth K C_RowMaker "write" f_RowMaker_write
  f_RowMaker_aimed : Addr
  fd_RowMaker_aimed : FuncData
  F_RowMaker_aimed : Fun K "aimed" "RowMaker.aimed" s_RowMaker_aimed f_RowMaker_aimed fd_RowMaker_aimed
  b_RowMaker_aimed : Binds K fd_RowMaker_aimed ["self", "row"] []
  m_RowMaker_aimed : Meth K C_RowMaker "aimed" f_RowMaker_aimed
  f_RowMaker_mark : Addr
  fd_RowMaker_mark : FuncData
  F_RowMaker_mark : Fun K "mark" "RowMaker.mark" s_RowMaker_mark f_RowMaker_mark fd_RowMaker_mark
  b_RowMaker_mark : Binds K fd_RowMaker_mark ["self"] []
  m_RowMaker_mark : Meth K C_RowMaker "mark" f_RowMaker_mark
  f_RowMaker_queue : Addr
  fd_RowMaker_queue : FuncData
  F_RowMaker_queue : Fun K "queue" "RowMaker.queue" s_RowMaker_queue f_RowMaker_queue fd_RowMaker_queue
  b_RowMaker_queue : Binds K fd_RowMaker_queue ["self", "pieces"] []
  m_RowMaker_queue : Meth K C_RowMaker "queue" f_RowMaker_queue
  f_RowMaker_put : Addr
  fd_RowMaker_put : FuncData
  F_RowMaker_put : Fun K "put" "RowMaker.put" s_RowMaker_put f_RowMaker_put fd_RowMaker_put
  b_RowMaker_put : Binds K fd_RowMaker_put ["self", "told"] []
  m_RowMaker_put : Meth K C_RowMaker "put" f_RowMaker_put
  f_RowMaker_put_if : Addr
  fd_RowMaker_put_if : FuncData
  F_RowMaker_put_if : Fun K "put_if" "RowMaker.put_if" s_RowMaker_put_if f_RowMaker_put_if fd_RowMaker_put_if
  b_RowMaker_put_if : Binds K fd_RowMaker_put_if ["self", "told"] []
  m_RowMaker_put_if : Meth K C_RowMaker "put_if" f_RowMaker_put_if
  f_RowMaker_put_case : Addr
  fd_RowMaker_put_case : FuncData
  F_RowMaker_put_case : Fun K "put_case" "RowMaker.put_case" s_RowMaker_put_case f_RowMaker_put_case fd_RowMaker_put_case
  b_RowMaker_put_case : Binds K fd_RowMaker_put_case ["self", "told"] []
  m_RowMaker_put_case : Meth K C_RowMaker "put_case" f_RowMaker_put_case
  f_RowMaker_tests : Addr
  fd_RowMaker_tests : FuncData
  F_RowMaker_tests : Fun K "tests" "RowMaker.tests" s_RowMaker_tests f_RowMaker_tests fd_RowMaker_tests
  b_RowMaker_tests : Binds K fd_RowMaker_tests ["self", "form", "root"] []
  m_RowMaker_tests : Meth K C_RowMaker "tests" f_RowMaker_tests
  f_rows_of : Addr
  fd_rows_of : FuncData
  F_rows_of : Fun K "rows_of" "rows_of" s_rows_of f_rows_of fd_rows_of
  g_rows_of : mg "rows_of" = some (.ref f_rows_of)
  k_rows_of : PySem.W.keepIn K (.ref f_rows_of) = true
  b_rows_of : Binds K fd_rows_of ["core"] []
  f__law_deck : Addr
  fd__law_deck : FuncData
  F__law_deck : Fun K "_law_deck" "_law_deck" s__law_deck f__law_deck fd__law_deck
  g__law_deck : mg "_law_deck" = some (.ref f__law_deck)
  k__law_deck : PySem.W.keepIn K (.ref f__law_deck) = true
  b__law_deck : Binds K fd__law_deck ["script", "many"] []
  f__law_take : Addr
  fd__law_take : FuncData
  F__law_take : Fun K "_law_take" "_law_take" s__law_take f__law_take fd__law_take
  g__law_take : mg "_law_take" = some (.ref f__law_take)
  k__law_take : PySem.W.keepIn K (.ref f__law_take) = true
  b__law_take : Binds K fd__law_take ["deck", "many"] []
  f__law_many : Addr
  fd__law_many : FuncData
  F__law_many : Fun K "_law_many" "_law_many" s__law_many f__law_many fd__law_many
  g__law_many : mg "_law_many" = some (.ref f__law_many)
  k__law_many : PySem.W.keepIn K (.ref f__law_many) = true
  b__law_many : Binds K fd__law_many ["kinds", "kind"] []
  f__law_kinds : Addr
  fd__law_kinds : FuncData
  F__law_kinds : Fun K "_law_kinds" "_law_kinds" s__law_kinds f__law_kinds fd__law_kinds
  g__law_kinds : mg "_law_kinds" = some (.ref f__law_kinds)
  k__law_kinds : PySem.W.keepIn K (.ref f__law_kinds) = true
  b__law_kinds : Binds K fd__law_kinds ["deck"] []
  f__law_pair : Addr
  fd__law_pair : FuncData
  F__law_pair : Fun K "_law_pair" "_law_pair" s__law_pair f__law_pair fd__law_pair
  g__law_pair : mg "_law_pair" = some (.ref f__law_pair)
  k__law_pair : PySem.W.keepIn K (.ref f__law_pair) = true
  b__law_pair : Binds K fd__law_pair ["kind"] []
  f__law_cell : Addr
  fd__law_cell : FuncData
  F__law_cell : Fun K "_law_cell" "_law_cell" s__law_cell f__law_cell fd__law_cell
  g__law_cell : mg "_law_cell" = some (.ref f__law_cell)
  k__law_cell : PySem.W.keepIn K (.ref f__law_cell) = true
  b__law_cell : Binds K fd__law_cell ["deck", "kinds", "kind"] []
  f__law_weight : Addr
  fd__law_weight : FuncData
  F__law_weight : Fun K "_law_weight" "_law_weight" s__law_weight f__law_weight fd__law_weight
  g__law_weight : mg "_law_weight" = some (.ref f__law_weight)
  k__law_weight : PySem.W.keepIn K (.ref f__law_weight) = true
  b__law_weight : Binds K fd__law_weight ["cell"] []
  f__law_picked : Addr
  fd__law_picked : FuncData
  F__law_picked : Fun K "_law_picked" "_law_picked" s__law_picked f__law_picked fd__law_picked
  g__law_picked : mg "_law_picked" = some (.ref f__law_picked)
  k__law_picked : PySem.W.keepIn K (.ref f__law_picked) = true
  b__law_picked : Binds K fd__law_picked ["kinds", "kind", "n"] []
  f__law_defs : Addr
  fd__law_defs : FuncData
  F__law_defs : Fun K "_law_defs" "_law_defs" s__law_defs f__law_defs fd__law_defs
  g__law_defs : mg "_law_defs" = some (.ref f__law_defs)
  k__law_defs : PySem.W.keepIn K (.ref f__law_defs) = true
  b__law_defs : Binds K fd__law_defs ["deck"] []
  f__law_does : Addr
  fd__law_does : FuncData
  F__law_does : Fun K "_law_does" "_law_does" s__law_does f__law_does fd__law_does
  g__law_does : mg "_law_does" = some (.ref f__law_does)
  k__law_does : PySem.W.keepIn K (.ref f__law_does) = true
  b__law_does : Binds K fd__law_does ["kinds", "defs", "module", "name", "cells"] []
  f__law_forms : Addr
  fd__law_forms : FuncData
  F__law_forms : Fun K "_law_forms" "_law_forms" s__law_forms f__law_forms fd__law_forms
  g__law_forms : mg "_law_forms" = some (.ref f__law_forms)
  k__law_forms : PySem.W.keepIn K (.ref f__law_forms) = true
  b__law_forms : Binds K fd__law_forms ["deck", "kinds", "kind"] []
  f__law_narrow : Addr
  fd__law_narrow : FuncData
  F__law_narrow : Fun K "_law_narrow" "_law_narrow" s__law_narrow f__law_narrow fd__law_narrow
  g__law_narrow : mg "_law_narrow" = some (.ref f__law_narrow)
  k__law_narrow : PySem.W.keepIn K (.ref f__law_narrow) = true
  b__law_narrow : Binds K fd__law_narrow ["deck", "kinds", "kind", "left"] []
  f__law_spots : Addr
  fd__law_spots : FuncData
  F__law_spots : Fun K "_law_spots" "_law_spots" s__law_spots f__law_spots fd__law_spots
  g__law_spots : mg "_law_spots" = some (.ref f__law_spots)
  k__law_spots : PySem.W.keepIn K (.ref f__law_spots) = true
  b__law_spots : Binds K fd__law_spots ["kinds", "kind", "form", "own"] []
  f__law_any : Addr
  fd__law_any : FuncData
  F__law_any : Fun K "_law_any" "_law_any" s__law_any f__law_any fd__law_any
  g__law_any : mg "_law_any" = some (.ref f__law_any)
  k__law_any : PySem.W.keepIn K (.ref f__law_any) = true
  b__law_any : Binds K fd__law_any ["deck"] []
  f__law_bound : Addr
  fd__law_bound : FuncData
  F__law_bound : Fun K "_law_bound" "_law_bound" s__law_bound f__law_bound fd__law_bound
  g__law_bound : mg "_law_bound" = some (.ref f__law_bound)
  k__law_bound : PySem.W.keepIn K (.ref f__law_bound) = true
  b__law_bound : Binds K fd__law_bound ["kinds", "kind", "form"] []
  f__law_made : Addr
  fd__law_made : FuncData
  F__law_made : Fun K "_law_made" "_law_made" s__law_made f__law_made fd__law_made
  g__law_made : mg "_law_made" = some (.ref f__law_made)
  k__law_made : PySem.W.keepIn K (.ref f__law_made) = true
  b__law_made : Binds K fd__law_made ["deck", "kinds", "kind", "env", "left"] []
  f__law_call : Addr
  fd__law_call : FuncData
  F__law_call : Fun K "_law_call" "_law_call" s__law_call f__law_call fd__law_call
  g__law_call : mg "_law_call" = some (.ref f__law_call)
  k__law_call : PySem.W.keepIn K (.ref f__law_call) = true
  b__law_call : Binds K fd__law_call ["deck", "kinds", "kind", "env", "left"] []
  f__law_core : Addr
  fd__law_core : FuncData
  F__law_core : Fun K "_law_core" "_law_core" s__law_core f__law_core fd__law_core
  g__law_core : mg "_law_core" = some (.ref f__law_core)
  k__law_core : PySem.W.keepIn K (.ref f__law_core) = true
  b__law_core : Binds K fd__law_core ["deck", "kinds", "kind", "env", "left"] []
  f__law_count : Addr
  fd__law_count : FuncData
  F__law_count : Fun K "_law_count" "_law_count" s__law_count f__law_count fd__law_count
  g__law_count : mg "_law_count" = some (.ref f__law_count)
  k__law_count : PySem.W.keepIn K (.ref f__law_count) = true
  b__law_count : Binds K fd__law_count ["told"] []
  f__law_taken : Addr
  fd__law_taken : FuncData
  F__law_taken : Fun K "_law_taken" "_law_taken" s__law_taken f__law_taken fd__law_taken
  g__law_taken : mg "_law_taken" = some (.ref f__law_taken)
  k__law_taken : PySem.W.keepIn K (.ref f__law_taken) = true
  b__law_taken : Binds K fd__law_taken ["form", "cell", "found"] []
  f__law_worth : Addr
  fd__law_worth : FuncData
  F__law_worth : Fun K "_law_worth" "_law_worth" s__law_worth f__law_worth fd__law_worth
  g__law_worth : mg "_law_worth" = some (.ref f__law_worth)
  k__law_worth : PySem.W.keepIn K (.ref f__law_worth) = true
  b__law_worth : Binds K fd__law_worth ["told", "env", "kinds", "defs"] []
  f__law_plain_rows : Addr
  fd__law_plain_rows : FuncData
  F__law_plain_rows : Fun K "_law_plain_rows" "_law_plain_rows" s__law_plain_rows f__law_plain_rows fd__law_plain_rows
  g__law_plain_rows : mg "_law_plain_rows" = some (.ref f__law_plain_rows)
  k__law_plain_rows : PySem.W.keepIn K (.ref f__law_plain_rows) = true
  b__law_plain_rows : Binds K fd__law_plain_rows ["rows"] []
  f__law_machine : Addr
  fd__law_machine : FuncData
  F__law_machine : Fun K "_law_machine" "_law_machine" s__law_machine f__law_machine fd__law_machine
  g__law_machine : mg "_law_machine" = some (.ref f__law_machine)
  k__law_machine : PySem.W.keepIn K (.ref f__law_machine) = true
  b__law_machine : Binds K fd__law_machine ["rows", "cells", "kinds", "defs"] []
  f__law_anew : Addr
  fd__law_anew : FuncData
  F__law_anew : Fun K "_law_anew" "_law_anew" s__law_anew f__law_anew fd__law_anew
  g__law_anew : mg "_law_anew" = some (.ref f__law_anew)
  k__law_anew : PySem.W.keepIn K (.ref f__law_anew) = true
  b__law_anew : Binds K fd__law_anew ["told"] []
  f_law : Addr
  fd_law : FuncData
  F_law : Fun K "law" "law" s_law f_law fd_law
  g_law : mg "law" = some (.ref f_law)
  k_law : PySem.W.keepIn K (.ref f_law) = true
  b_law : Binds K fd_law ["script"] []
  z_len : mg "len" = none
  z_int : mg "int" = none
  z_tuple : mg "tuple" = none
  z_list : mg "list" = none
  z_sum : mg "sum" = none
  z_max : mg "max" = none
  z_range : mg "range" = none
  z_enumerate : mg "enumerate" = none
  z_isinstance : mg "isinstance" = none
  z_bool : mg "bool" = none
  z_str : mg "str" = none
end K87

set_option Elab.async false
set_option linter.all false
set_option maxRecDepth 100000
set_option maxHeartbeats 4000000
namespace K87
open PySem PySem.Spec PyProof.Rows L2 Ru Rp Mch
theorem same_new {H : Hp} {p : Addr} {o : HO} (h : H p = none) : Same H (upd H p o) := fun b u e => by rw [upd_ne (ne_of_none e h)]; exact e
theorem isT {x y : V} {A B : Prop} (e : x = y) (h : A) : if decide (x = y) = true then A else B := by
  rw [decide_eq_true e]; exact iteT h
theorem isF {x y : V} {A B : Prop} (e : ¬ x = y) (h : B) : if decide (x = y) = true then A else B := by
  rw [decide_eq_false e]; exact iteF h
theorem nstr {a b : Str} (h : ¬ a = b) : ¬ V.str a = V.str b := fun z => by
  injection z with z
  exact h z
theorem sl_le {n : Nat} (h : n ≤ 10000000) : n ≤ sizeLine := by rw [sizeLine_eq]; omega
theorem sl_lt {n : Nat} (h : n ≤ 10000000) : n < sizeLine := by rw [sizeLine_eq]; omega
def But1 (H H' : Hp) (l : Addr) : Prop := ∀ b o, H b = some o → b ≠ l → H' b = some o
theorem st_new {H : Hp} {p a : Addr} {x o o2 : HO} (hp : H p = some x) (ha : H a = none) : (upd (upd H a o) p o2) p = some o2 ∧ (upd (upd H a o) p o2) a = some o ∧ But1 H (upd (upd H a o) p o2) p := by
  have n := ne_of_none hp ha
  refine ⟨upd_same, by rw [upd_ne n.symm, upd_same], fun b u e nb => ?_⟩
  rw [upd_ne nb, upd_ne (ne_of_none e ha)]; exact e
theorem But1.trans {H H1 H2 : Hp} {l : Addr} (a : But1 H H1 l) (b : But1 H1 H2 l) : But1 H H2 l := fun x o e n => b x o (a x o e n) n
theorem But1.ne {H H1 : Hp} {l a c : Addr} {o : HO} (b : But1 H H1 l) (hc : H c = some o) (nc : c ≠ l) (h : H1 a = none) : c ≠ a := fun z => by
  have := b _ _ hc nc
  rw [z, h] at this
  cases this
theorem pf_le {f : Str} {v : V} : ∀ {fs : List (Str × V)} {n : Nat}, fs.length ≤ n → (putF f v fs).length ≤ n + 1
  | [], n, h => by simp [putF]
  | (g, x) :: r, n, h => by
    unfold putF
    split
    · simp only [List.length_cons] at h ⊢; omega
    · cases n with
      | zero => simp at h
      | succ n =>
        have := pf_le (f := f) (v := v) (fs := r) (n := n) (by simpa using h)
        simp only [List.length_cons]; omega
theorem rgV_range (many : Nat) : rgV 0 (many : Int) = natVs (List.range many) := by
  unfold rgV natVs
  rw [show ((many : Int) - 0).toNat = many by omega]
  apply List.map_congr_left
  intro i _
  rw [Int.zero_add]
theorem flds_made {ar ap as ad : Addr} {h : Nat} : putF "due" (.ref ad) (putF "held" (.int (h : Int)) (putF "seats" (.ref as) (putF "places" (.ref ap) (putF "rows" (.ref ar) [])))) = flds ar ap as h ad := by
  simp only [flds, putF, if_neg nq_rows_places, if_neg nq_rows_seats, if_neg nq_rows_held, if_neg nq_rows_due, if_neg nq_places_seats, if_neg nq_places_held, if_neg nq_places_due, if_neg nq_seats_held, if_neg nq_seats_due, if_neg nq_held_due]
section
variable {P : Program} {w : World} {K : PySem.W.Frag} {mg : Str → Option Value} {base : Heap}
abbrev N_RowMaker___init__ : List Str := ["self", "many"]
theorem sc_RowMaker___init__ : FnScope N_RowMaker___init__ ["self", "many"] (defScope s_RowMaker___init__) := ⟨rfl, rfl, rfl, by decide +kernel, rfl, by decide +kernel, by decide +kernel⟩
def spInit (C : Addr) (K : PySem.W.Frag) : Sp := fun vs H Q _ => ∃ (p dx : Addr) (many : Nat), vs = [.ref p, .int (many : Int)] ∧ H p = some (.ins C dx []) ∧ many ≤ 100000 ∧ ∀ (A : Ad) (H' : Hp), A.p = p → A.x = p → H A.ar = none → H A.ap = none → H A.ad = none → MkAt K H' A C (start many) [] → But1 H H' p → Q .non H'
theorem ok_init (T : Txt K mg) : FnOk P w K mg base CX0 1 T.f_RowMaker___init__ T.fd_RowMaker___init__ ["self", "many"] (spInit T.C_RowMaker K) := by
  refine T.F_RowMaker___init__.ok sc_RowMaker___init__ (fun vs H Q E h => ?_) (fun cdv A outer sh H vs Q E hr h => ?_)
  · obtain ⟨p, dx, many, rfl, _⟩ := h
    rfl
  · obtain ⟨p, dx, many, rfl, hp, hm, k⟩ := h
    refine ⟨_, (pss_cons (ps_fld (pv 0) (pe_lst pa_nil) rfl)
          (pss_cons (ps_fld (pv 0) (pe_lst pa_nil) rfl)
          (pss_cons (ps_fld (pv 0) (pe_listRg rfl (by rfl) T.z_list (prg_1 (by rfl) T.z_range (pv 1))) rfl)
          (pss_cons (ps_fld (pv 0) (pv 1) rfl)
          (pss_one (ps_fld (pv 0) (pe_lst pa_nil) rfl)))))), ?_⟩
    refine ⟨Nat.zero_le _, fun ar har => ?_⟩
    obtain ⟨e1, r1, b1⟩ := st_new (o := .lst []) (o2 := .ins T.C_RowMaker dx (putF "rows" (.ref ar) [])) hp har
    have npr := ne_of_none hp har
    refine ⟨_, rfl, p, _, dx, [], rfl, (by rw [upd_ne npr]; exact hp), T.cl_RowMaker, T.n_RowMaker_rows, (by decide), ?_⟩
    generalize upd (upd H ar (.lst [])) p (.ins T.C_RowMaker dx (putF "rows" (.ref ar) [])) = H1 at *
    refine ⟨Nat.zero_le _, fun ap hap => ?_⟩
    obtain ⟨e2, r2, b2⟩ := st_new (o := .lst []) (o2 := .ins T.C_RowMaker dx (putF "places" (.ref ap) (putF "rows" (.ref ar) []))) e1 hap
    have npp := ne_of_none e1 hap
    have nra := ne_of_none r1 hap
    refine ⟨_, rfl, p, _, dx, _, rfl, (by rw [upd_ne npp]; exact e1), T.cl_RowMaker, T.n_RowMaker_places, Nat.lt_of_le_of_lt (pf_le (Nat.le_refl 0)) (by decide), ?_⟩
    have r1' := b2 _ _ r1 npr.symm
    have b2' := b1.trans b2
    have fp : H ap = none := by
      cases e9 : H ap with
      | none => rfl
      | some u =>
        have := b1 _ _ e9 npp.symm
        rw [hap] at this
        cases this
    generalize upd (upd H1 ap (.lst [])) p (.ins T.C_RowMaker dx (putF "places" (.ref ap) (putF "rows" (.ref ar) []))) = H2 at *
    refine ⟨_, rfl, _, rfl, ⟨by omega, by omega, by omega, by omega, by omega⟩, fun as has => ?_⟩
    obtain ⟨e3, r3, b3⟩ := st_new (o := .lst (rgV 0 (many : Int))) (o2 := .ins T.C_RowMaker dx (putF "seats" (.ref as) (putF "places" (.ref ap) (putF "rows" (.ref ar) [])))) e2 has
    have nps := ne_of_none e2 has
    have nrs := ne_of_none r1' has
    have nas := ne_of_none r2 has
    refine ⟨_, rfl, p, _, dx, _, rfl, (by rw [upd_ne nps]; exact e2), T.cl_RowMaker, T.n_RowMaker_seats, Nat.lt_of_le_of_lt (pf_le (pf_le (Nat.le_refl 0))) (by decide), ?_⟩
    have r13 := b3 _ _ r1' npr.symm
    have r23 := b3 _ _ r2 npp.symm
    have b3' := b2'.trans b3
    generalize upd (upd H2 as (.lst (rgV 0 (many : Int)))) p (.ins T.C_RowMaker dx (putF "seats" (.ref as) (putF "places" (.ref ap) (putF "rows" (.ref ar) [])))) = H3 at *
    refine ⟨_, rfl, _, rfl, p, _, dx, _, rfl, e3, T.cl_RowMaker, T.n_RowMaker_held, Nat.lt_of_le_of_lt (pf_le (pf_le (pf_le (Nat.le_refl 0)))) (by decide), ?_⟩
    have e4 := upd_same (H := H3) (a := p) (o := .ins T.C_RowMaker dx (putF "held" (.int (many : Int)) (putF "seats" (.ref as) (putF "places" (.ref ap) (putF "rows" (.ref ar) [])))))
    have b4 : But1 H3 (upd H3 p (.ins T.C_RowMaker dx (putF "held" (.int (many : Int)) (putF "seats" (.ref as) (putF "places" (.ref ap) (putF "rows" (.ref ar) [])))))) p := fun b o e n => by rw [upd_ne n]; exact e
    have r14 := b4 _ _ r13 npr.symm
    have r24 := b4 _ _ r23 npp.symm
    have r34 := b4 _ _ r3 nps.symm
    have b4' := b3'.trans b4
    generalize upd H3 p (.ins T.C_RowMaker dx (putF "held" (.int (many : Int)) (putF "seats" (.ref as) (putF "places" (.ref ap) (putF "rows" (.ref ar) []))))) = H4 at *
    refine ⟨Nat.zero_le _, fun ad had => ?_⟩
    obtain ⟨e5, r5, b5⟩ := st_new (o := .lst []) (o2 := .ins T.C_RowMaker dx (putF "due" (.ref ad) (putF "held" (.int (many : Int)) (putF "seats" (.ref as) (putF "places" (.ref ap) (putF "rows" (.ref ar) [])))))) e4 had
    have npd := ne_of_none e4 had
    refine ⟨_, rfl, p, _, dx, _, rfl, (by rw [upd_ne npd]; exact e4), T.cl_RowMaker, T.n_RowMaker_due, Nat.lt_of_le_of_lt (pf_le (pf_le (pf_le (pf_le (Nat.le_refl 0))))) (by decide), ?_⟩
    have nrd := ne_of_none r14 had
    have npad := ne_of_none r24 had
    have nsd := ne_of_none r34 had
    have r15 := b5 _ _ r14 npr.symm
    have r25 := b5 _ _ r24 npp.symm
    have r35 := b5 _ _ r34 nps.symm
    have b5' := b4'.trans b5
    have fd : H ad = none := by
      cases e9 : H ad with
      | none => rfl
      | some u =>
        have := b4' _ _ e9 npd.symm
        rw [had] at this
        cases this
    rw [flds_made] at e5
    refine k ⟨p, dx, ar, ap, ad, p⟩ _ rfl rfl har fp fd ⟨⟨as, ?_, ?_, ?_, ?_, ?_, ?_⟩, ⟨[], r15, .nil⟩, r25, ⟨[], r5, .nil⟩, ⟨nra, nrd, npad⟩⟩ b5'
    · exact e5
    · show _ = some (HO.lst (natVs (List.range many)))
      rw [r35, rgV_range]
    · exact nrs.symm
    · exact nas.symm
    · exact nsd
    · exact nps.symm
end
end K87

set_option Elab.async false
set_option linter.all false
set_option maxRecDepth 100000
set_option maxHeartbeats 4000000
namespace K87
open PySem PySem.Spec PyProof.Rows L2 Ru Rp Mch
theorem atI_hd {x : V} {xs : List V} : atI (x :: xs) 0 = some x := atI_nat (xs := x :: xs) (j := 0) rfl
theorem natVs_len (ns : List Nat) : (natVs ns).length = ns.length := by simp [natVs]
theorem natVs_snoc (ns : List Nat) (n : Nat) : natVs ns ++ [V.int (n : Int)] = natVs (ns ++ [n]) := by simp [natVs]
theorem natVs_at {ns : List Nat} {i n : Nat} (h : ns[i]? = some n) : (natVs ns)[i]? = some (.int (n : Int)) := by simp [natVs, h]
theorem natVs_set (ns : List Nat) (i n : Nat) : (natVs ns).set i (.int (n : Int)) = natVs (ns.set i n) := by simp [natVs, List.map_set]
section
variable {K : PySem.W.Frag} {H H' : Hp} {A : Ad} {C : Addr} {S : St Nm} {due : List (Piece Nm)}
theorem MkAt.ne_p (M : MkAt K H A C S due) : A.p ≠ A.ar ∧ A.p ≠ A.ap ∧ A.p ≠ A.ad := by
  obtain ⟨as, h1, _⟩ := M.ob
  obtain ⟨rv, h2, _⟩ := M.rows
  obtain ⟨dv, h3, _⟩ := M.due
  exact ⟨ne_of h1 h2 (by intro z; cases z), ne_of h1 M.places (by intro z; cases z), ne_of h1 h3 (by intro z; cases z)⟩
theorem kp_ar {A : Ad} {H : Hp} {o : HO} : Kp A H (upd H A.ar o) := fun b o e n1 n2 n3 n4 => by rw [upd_ne n2]; exact e
theorem kp_ap {A : Ad} {H : Hp} {o : HO} : Kp A H (upd H A.ap o) := fun b o e n1 n2 n3 n4 => by rw [upd_ne n3]; exact e
theorem kp_ad {A : Ad} {H : Hp} {o : HO} : Kp A H (upd H A.ad o) := fun b o e n1 n2 n3 n4 => by rw [upd_ne n4]; exact e
theorem kp_p {A : Ad} {H : Hp} {o : HO} : Kp A H (upd H A.p o) := fun b o e n1 n2 n3 n4 => by rw [upd_ne n1]; exact e
theorem Kp.seats {l : Addr} {s : List Nat} (k : Kp A H H') (M : MkAt K H A C S due) (h : SeatsAt H A l s) : SeatsAt H' A l s := h.kp M k
theorem MkAt.to_places (M : MkAt K H A C S due) (ps : List Nat) : MkAt K (upd H A.ap (.lst (natVs ps))) A C { S with places := ps } due := by
  have k := kp_ap (A := A) (H := H) (o := .lst (natVs ps))
  have t := M.tex k
  obtain ⟨n1, n2, n3⟩ := M.ne_p
  obtain ⟨m1, m2, m3⟩ := M.ne
  obtain ⟨as, h1, h1'⟩ := M.ob
  obtain ⟨rv, h2, h2'⟩ := M.rows
  obtain ⟨dv, h3, h3'⟩ := M.due
  exact ⟨⟨as, by rw [upd_ne n2]; exact h1, h1'.kp M k⟩, ⟨rv, by rw [upd_ne m1]; exact h2, h2'.to t⟩, upd_same, ⟨dv, by rw [upd_ne m3.symm]; exact h3, h3'.keeps t fun _ _ q => q.kp M k⟩, M.ne⟩
theorem MkAt.to_rows (M : MkAt K H A C S due) {rv : List V} {rs : List (Row Nm)} (hr : RowsOf K H rv rs) : MkAt K (upd H A.ar (.lst rv)) A C { S with rows := rs } due := by
  have k := kp_ar (A := A) (H := H) (o := .lst rv)
  have t := M.tex k
  obtain ⟨n1, n2, n3⟩ := M.ne_p
  obtain ⟨m1, m2, m3⟩ := M.ne
  obtain ⟨as, h1, h1'⟩ := M.ob
  obtain ⟨dv, h3, h3'⟩ := M.due
  exact ⟨⟨as, by rw [upd_ne n1]; exact h1, h1'.kp M k⟩, ⟨rv, upd_same, hr.to t⟩, by rw [upd_ne m1.symm]; exact M.places, ⟨dv, by rw [upd_ne m2.symm]; exact h3, h3'.keeps t fun _ _ q => q.kp M k⟩, M.ne⟩
theorem MkAt.to_due (M : MkAt K H A C S due) {dv : List V} {ps : List (Piece Nm)} (hp : PiecesAt K H A dv ps) : MkAt K (upd H A.ad (.lst dv.reverse)) A C S ps := by
  have k := kp_ad (A := A) (H := H) (o := .lst dv.reverse)
  have t := M.tex k
  obtain ⟨n1, n2, n3⟩ := M.ne_p
  obtain ⟨m1, m2, m3⟩ := M.ne
  obtain ⟨as, h1, h1'⟩ := M.ob
  obtain ⟨rv, h2, h2'⟩ := M.rows
  exact ⟨⟨as, by rw [upd_ne n3]; exact h1, h1'.kp M k⟩, ⟨rv, by rw [upd_ne m2]; exact h2, h2'.to t⟩, by rw [upd_ne m3]; exact M.places, ⟨dv, upd_same, hp.keeps t fun _ _ q => q.kp M k⟩, M.ne⟩
/-- the maker, when but its places all stands -/
theorem MkAt.re (M : MkAt K H A C S due) (kb : But1 H H' A.ap) {ps : List Nat} (ap : H' A.ap = some (.lst (natVs ps))) : MkAt K H' A C { S with places := ps } due := by
  have k : Kp A H H' := fun b o e n1 n2 n3 n4 => kb b o e n3
  have t := M.tex k
  obtain ⟨n1, n2, n3⟩ := M.ne_p
  obtain ⟨m1, m2, m3⟩ := M.ne
  obtain ⟨as, h1, h1'⟩ := M.ob
  obtain ⟨rv, h2, h2'⟩ := M.rows
  obtain ⟨dv, h3, h3'⟩ := M.due
  exact ⟨⟨as, kb _ _ h1 n2, h1'.kp M k⟩, ⟨rv, kb _ _ h2 m1, h2'.to t⟩, ap, ⟨dv, kb _ _ h3 m3.symm, h3'.keeps t fun _ _ q => q.kp M k⟩, M.ne⟩
theorem pieces_len {vs : List V} {ps : List (Piece Nm)} (h : PiecesAt K H A vs ps) : vs.length = ps.length := Paired.length h
end
section
variable {P : Program} {w : World} {K : PySem.W.Frag} {mg : Str → Option Value} {base : Heap}
abbrev N_RowMaker_mark : List Str := ["self"]
theorem sc_RowMaker_mark : FnScope N_RowMaker_mark ["self"] (defScope s_RowMaker_mark) := ⟨rfl, rfl, rfl, by decide +kernel, rfl, by decide +kernel, by decide +kernel⟩
def spMark (C : Addr) (K : PySem.W.Frag) : Sp := fun vs H Q _ => ∃ (A : Ad) (S : St Nm) (due : List (Piece Nm)), vs = [.ref A.p] ∧ MkAt K H A C S due ∧ S.places.length ≤ 1000000 ∧ ∀ (H' : Hp), But1 H H' A.ap → H' A.ap = some (.lst (natVs (S.places ++ [0]))) → Q (.int (S.places.length : Int)) H'
theorem ok_mark (T : Txt K mg) : FnOk P w K mg base CX0 1 T.f_RowMaker_mark T.fd_RowMaker_mark ["self"] (spMark T.C_RowMaker K) := by
  refine T.F_RowMaker_mark.ok sc_RowMaker_mark (fun vs H Q E h => ?_) (fun cdv A outer sh H vs Q E hr h => ?_)
  · obtain ⟨A, S, due, rfl, _⟩ := h
    rfl
  · obtain ⟨A, S, due, rfl, M, hl, k⟩ := h
    refine ⟨_, (pss_cons (ps_expr (pe_bm PySem.F.plainAttrs_list PySem.F.slot_list_append PySem.F.type_list_append mt_append (pe_fld (pv 0) rfl) (pa_cons pe_int pa_nil)))
          (pss_one (ps_ret (pe_op op_sub (pe_callB call_len_seq (by rfl) T.z_len (by decide +kernel) (pa_cons (pe_fld (pv 0) rfl) pa_nil)) pe_int)))), ?_⟩
    obtain ⟨as, h1, h1'⟩ := M.ob
    refine ⟨_, rfl, A.p, _, A.dx, _, _, rfl, h1, T.cl_RowMaker, T.n_RowMaker_places, flds_places, .inl ⟨rfl, _, SqL.of M.places⟩, A.ap, natVs S.places, _, rfl, rfl, M.places, sl_lt (by rw [natVs_len]; omega), ?_⟩
    have M' : MkAt K (upd H A.ap (.lst (natVs S.places ++ [.int 0]))) A T.C_RowMaker (S.marks 1) due := by
      have := M.to_places (S.places ++ [0])
      rw [← natVs_snoc] at this
      exact this
    obtain ⟨as', g1, _⟩ := M'.ob
    refine ⟨_, rfl, A.p, _, A.dx, _, _, rfl, g1, T.cl_RowMaker, T.n_RowMaker_places, flds_places, A.ap, _, rfl, .inl (SqL.of upd_same), _, _, rfl, rfl, ?_⟩
    have e : (((natVs S.places ++ [V.int 0]).length : Nat) : Int) - 1 = (S.places.length : Int) := by
      rw [List.length_append, natVs_len]
      simp
    show Q (.int ((((natVs S.places ++ [V.int 0]).length : Nat) : Int) - 1)) _
    rw [e]
    exact k _ (fun b o e n => by rw [upd_ne n]; exact e) (by rw [upd_same, ← natVs_snoc]; rfl)
abbrev N_RowMaker_aimed : List Str := ["self", "row"]
theorem sc_RowMaker_aimed : FnScope N_RowMaker_aimed ["self", "row"] (defScope s_RowMaker_aimed) := ⟨rfl, rfl, rfl, by decide +kernel, rfl, by decide +kernel, by decide +kernel⟩
def spAimed (C : Addr) (K : PySem.W.Frag) : Sp := fun vs H Q _ => ∃ (A : Ad) (S : St Nm) (due : List (Piece Nm)) (v : V) (r : Row Nm), vs = [.ref A.p, v] ∧ MkAt K H A C S due ∧ RowAt K H v r ∧ rmark S.places.length r ∧ ∀ (u : V) (H' : Hp), RowAt K H' u (aim S.places r) → Same H H' → Q u H'
theorem ok_aimed (T : Txt K mg) : FnOk P w K mg base CX0 1 T.f_RowMaker_aimed T.fd_RowMaker_aimed ["self", "row"] (spAimed T.C_RowMaker K) := by
  refine T.F_RowMaker_aimed.ok sc_RowMaker_aimed (fun vs H Q E h => ?_) (fun cdv A outer sh H vs Q E hr h => ?_)
  · obtain ⟨A, S, due, v, r, rfl, _⟩ := h
    rfl
  · obtain ⟨A, S, due, v, r, rfl, M, ⟨a, rfl, hrow⟩, hm, k⟩ := h
    refine ⟨_, (pss_cons (ps_if (pt_cmpR op_eq (pe_ix ix_tup (pv 1) pe_int (fun _ _ => rfl)) pe_str (nomark _))
            (pss_one (ps_ret (pe_tup (pa_cons pe_str (pa_cons (pe_ix ix_tup (pv 1) pe_int (fun _ _ => rfl)) (pa_cons (pe_ix ix_list (pe_fld (pv 0) rfl) (pe_ix ix_tup (pv 1) pe_int (fun _ _ => rfl)) (fun _ _ => rfl)) pa_nil))))))
            pss_nil)
          (pss_cons (ps_if (pt_cmpR op_eq (pe_ix ix_tup (pv 1) pe_int (fun _ _ => rfl)) pe_str (nomark _))
            (pss_one (ps_ret (pe_tup (pa_cons pe_str (pa_cons (pe_ix ix_list (pe_fld (pv 0) rfl) (pe_ix ix_tup (pv 1) pe_int (fun _ _ => rfl)) (fun _ _ => rfl)) pa_nil)))))
            pss_nil)
          (pss_one (ps_ret (pv 1))))), ?_⟩
    obtain ⟨as, h1, h1'⟩ := M.ob
    have three : (∃ (wd : Str) (rest : List V), rowV r = .str wd :: rest ∧ ¬ wd = "is" ∧ ¬ wd = "go" ∧ aim S.places r = r) ∨ (∃ m kk, r = .isr m kk) ∨ ∃ kk, r = .go kk := by
      cases r with
      | isr m kk => exact .inr (.inl ⟨m, kk, rfl⟩)
      | go kk => exact .inr (.inr ⟨kk, rfl⟩)
      | loc n => exact .inl ⟨_, _, rfl, by decide +kernel, by decide +kernel, rfl⟩
      | drop => exact .inl ⟨_, _, rfl, by decide +kernel, by decide +kernel, rfl⟩
      | keep => exact .inl ⟨_, _, rfl, by decide +kernel, by decide +kernel, rfl⟩
      | forget n => exact .inl ⟨_, _, rfl, by decide +kernel, by decide +kernel, rfl⟩
      | part n => exact .inl ⟨_, _, rfl, by decide +kernel, by decide +kernel, rfl⟩
      | make m n => exact .inl ⟨_, _, rfl, by decide +kernel, by decide +kernel, rfl⟩
      | same => exact .inl ⟨_, _, rfl, by decide +kernel, by decide +kernel, rfl⟩
      | call f n => exact .inl ⟨_, _, rfl, by decide +kernel, by decide +kernel, rfl⟩
      | back => exact .inl ⟨_, _, rfl, by decide +kernel, by decide +kernel, rfl⟩
    have getP : ∀ {kk : Nat}, kk < S.places.length → atI (natVs S.places) (kk : Int) = some (.int (S.places.getD kk 0 : Nat)) := fun {kk} hk => atI_nat (natVs_at (by rw [List.getD_eq_getElem?_getD, List.getElem?_eq_getElem hk]; rfl))
    rcases three with ⟨wd, rest, er, n1, n2, ea⟩ | ⟨m, kk, rfl⟩ | ⟨kk, rfl⟩
    · rw [er] at hrow
      refine ⟨_, rfl, a, _, _, _, rfl, rfl, hrow, atI_hd, rfl, _, rfl, isF (nstr n1) ?_⟩
      refine ⟨_, rfl, a, _, _, _, rfl, rfl, hrow, atI_hd, rfl, _, rfl, isF (nstr n2) ?_⟩
      refine ⟨_, rfl, k _ H ⟨a, rfl, ?_⟩ (Same.refl H)⟩
      rw [ea, er]
      exact hrow
    · have hrow' : SqT K H a [.str "is", .int m, .int (kk : Int)] := hrow
      refine ⟨_, rfl, a, _, _, _, rfl, rfl, hrow', rfl, rfl, _, rfl, isT rfl ?_⟩
      refine ⟨_, rfl, a, _, _, _, rfl, rfl, hrow', rfl, _, rfl, A.p, _, A.dx, _, _, rfl, h1, T.cl_RowMaker, T.n_RowMaker_places, flds_places, _, rfl, a, _, _, _, rfl, rfl, hrow', rfl, A.ap, _, _, _, rfl, rfl, SqL.of M.places, getP hm, sl_le (by show 3 ≤ 10000000; decide), fun q hq => ?_⟩
      exact k _ _ ⟨q, rfl, SqT.of upd_same⟩ (same_new hq)
    · have hrow' : SqT K H a [.str "go", .int (kk : Int)] := hrow
      refine ⟨_, rfl, a, _, _, _, rfl, rfl, hrow', rfl, rfl, _, rfl, isF (nstr (by decide +kernel)) ?_⟩
      refine ⟨_, rfl, a, _, _, _, rfl, rfl, hrow', rfl, rfl, _, rfl, isT rfl ?_⟩
      refine ⟨_, rfl, A.p, _, A.dx, _, _, rfl, h1, T.cl_RowMaker, T.n_RowMaker_places, flds_places, _, rfl, a, _, _, _, rfl, rfl, hrow', rfl, A.ap, _, _, _, rfl, rfl, SqL.of M.places, getP hm, sl_le (by show 2 ≤ 10000000; decide), fun q hq => ?_⟩
      exact k _ _ ⟨q, rfl, SqT.of upd_same⟩ (same_new hq)
abbrev N_RowMaker_queue : List Str := ["self", "pieces"]
theorem sc_RowMaker_queue : FnScope N_RowMaker_queue ["self", "pieces"] (defScope s_RowMaker_queue) := ⟨rfl, rfl, rfl, by decide +kernel, rfl, by decide +kernel, by decide +kernel⟩
def spQueue (C : Addr) (K : PySem.W.Frag) : Sp := fun vs H Q _ => ∃ (A : Ad) (S : St Nm) (due ps : List (Piece Nm)) (l : Addr) (wv : List V), vs = [.ref A.p, .ref l] ∧ MkAt K H A C S due ∧ H l = some (.lst wv) ∧ PiecesAt K H A wv ps ∧ ps.length + due.length ≤ 1000000 ∧ ∀ (H' : Hp), MkAt K H' A C S (ps ++ due) → Kp A H H' → Q .non H'
theorem ok_queue (T : Txt K mg) : FnOk P w K mg base CX0 1 T.f_RowMaker_queue T.fd_RowMaker_queue ["self", "pieces"] (spQueue T.C_RowMaker K) := by
  refine T.F_RowMaker_queue.ok sc_RowMaker_queue (fun vs H Q E h => ?_) (fun cdv A outer sh H vs Q E hr h => ?_)
  · obtain ⟨A, S, due, ps, l, wv, rfl, _⟩ := h
    rfl
  · obtain ⟨A, S, due, ps, l, wv, rfl, M, hl, hps, hlen, k⟩ := h
    refine ⟨_, (pss_one (ps_expr (pe_bm PySem.F.plainAttrs_list PySem.F.slot_list_extend PySem.F.type_list_extend mt_extend (pe_fld (pv 0) rfl) (pa_cons (pe_revL (pv 1)) pa_nil)))), ?_⟩
    obtain ⟨as, h1, h1'⟩ := M.ob
    obtain ⟨dv, h3, h3'⟩ := M.due
    have l1 := pieces_len hps
    have l3 := pieces_len h3'
    refine ⟨_, rfl, A.p, _, A.dx, _, _, rfl, h1, T.cl_RowMaker, T.n_RowMaker_due, flds_due, .inl ⟨rfl, _, SqL.of h3⟩, _, rfl, l, wv, rfl, SqL.of hl, fun q hq => ?_⟩
    have s1 := same_new (o := .lst wv.reverse) hq
    refine ⟨A.ad, q, _, _, rfl, rfl, s1 _ _ h3, upd_same, sl_le (by simp; omega), ?_⟩
    have M2 := M.same s1
    have e : dv.reverse ++ wv.reverse = (wv ++ dv).reverse := by simp
    rw [e]
    exact k _ (M2.to_due (paired_append (hps.same s1) (h3'.same s1))) ((Kp.of_same s1).trans kp_ad)
end
end K87

set_option Elab.async false
set_option linter.all false
set_option maxRecDepth 100000
set_option maxHeartbeats 4000000
namespace K87
open PySem PySem.Spec PyProof.Rows L2 Ru Rp Mch
/-! ### tests: what waits -/
abbrev Item := Form × Nat × Option Nat
def atV : Option Nat → V
  | none => .non
  | some n => .int (n : Int)
def foldT (root first : Nat) : List Item → Ts Nm → Ts Nm
  | [], T => T
  | (f, s, a) :: r, T => foldT root first r (testF root first f s a T)
def kids (seat : Nat) : List Form → Nat → List Item
  | [], _ => []
  | f :: r, n => (f, seat, some n) :: kids seat r (n + 1)
theorem foldT_append (root first : Nat) (a b : List Item) (T : Ts Nm) : foldT root first (a ++ b) T = foldT root first b (foldT root first a T) := by
  induction a generalizing T with
  | nil => rfl
  | cons x r ih =>
    obtain ⟨f, s, t⟩ := x
    exact ih _
theorem kids_fold (root first seat : Nat) : ∀ (fs : Forms) (n : Nat) (T : Ts Nm), foldT root first (kids seat fs.list n) T = testFs root first fs seat n T
  | .nil, n, T => by rw [testFs]; rfl
  | .cons f r, n, T => by
    rw [testFs]
    exact kids_fold root first seat r (n + 1) _
def wI : List Item → Nat
  | [] => 0
  | (f, _, _) :: r => cntF f + wI r
theorem wI_append (a b : List Item) : wI (a ++ b) = wI a + wI b := by
  induction a with
  | nil => simp [wI]
  | cons x r ih =>
    obtain ⟨f, s, t⟩ := x
    simp only [List.cons_append, wI, ih]; omega
theorem wI_kids (seat : Nat) : ∀ (fs : Forms) (n : Nat), wI (kids seat fs.list n) = cntFs fs
  | .nil, n => by rw [cntFs]; rfl
  | .cons f r, n => by
    rw [cntFs, Forms.list, kids, wI, wI_kids seat r]
theorem len_wI : ∀ W : List Item, W.length ≤ wI W
  | [] => Nat.le_refl _
  | (f, s, a) :: r => by
    have := cntF_pos f
    have := len_wI r
    simp only [List.length_cons, wI]; omega
def ItemAt (K : PySem.W.Frag) (H : Hp) (v : V) (x : Item) : Prop := ∃ a p, v = .ref a ∧ SqT K H a [p, .int (x.2.1 : Int), atV x.2.2] ∧ TrAt K H p (formT x.1)
def ItemsAt (K : PySem.W.Frag) (H : Hp) : List V → List Item → Prop := Paired (ItemAt K H)
section
variable {K : PySem.W.Frag} {H H' H0 : Hp} {A : Ad} {C : Addr} {S : St Nm} {due : List (Piece Nm)} {root first : Nat} {lr lb lf ld : Addr} {T : Ts Nm} {W : List Item}
theorem ItemAt.to {v : V} {x : Item} (t : TEx H H') (h : ItemAt K H v x) : ItemAt K H' v x := by
  obtain ⟨a, p, rfl, h1, h2⟩ := h
  exact ⟨a, p, rfl, t.sq h1, h2.to t⟩
theorem ItemsAt.to {vs : List V} {xs : List Item} (t : TEx H H') (h : ItemsAt K H vs xs) : ItemsAt K H' vs xs := L2.Paired.mapP h fun _ _ q => q.to t
structure TsAt (K : PySem.W.Frag) (H0 : Hp) (A : Ad) (S : St Nm) (first : Nat) (lr lb lf ld : Addr) (H : Hp) (T : Ts Nm) (W : List Item) : Prop where
  rows : ∃ rv, H lr = some (.lst rv) ∧ RowsOf K H rv T.rows
  bound : H lb = some (.lst (natVs T.bound))
  fails : H lf = some (.lst (natVs (List.range' first (T.kept + 1))))
  wait : ∃ dv, H ld = some (.lst dv.reverse) ∧ ItemsAt K H dv W
  ap : H A.ap = some (.lst (natVs (S.marks (1 + T.kept)).places))
  kb : But1 H0 H A.ap
  fresh : H0 lr = none ∧ H0 lb = none ∧ H0 lf = none ∧ H0 ld = none
  ne : lr ≠ lb ∧ lr ≠ lf ∧ lr ≠ ld ∧ lb ≠ lf ∧ lb ≠ ld ∧ lf ≠ ld
theorem but1_new {l a : Addr} {o : HO} (h : But1 H0 H a) (hl : H0 l = none) : But1 H0 (upd H l o) a := fun b u e n => by rw [upd_ne (ne_of_none e hl)]; exact h b u e n
theorem But1.same {l : Addr} (h : But1 H0 H l) (s : Same H H') : But1 H0 H' l := fun b u e n => s _ _ (h b u e n)
theorem TsAt.same (Z : TsAt K H0 A S first lr lb lf ld H T W) (s : Same H H') : TsAt K H0 A S first lr lb lf ld H' T W := by
  obtain ⟨rv, h1, h1'⟩ := Z.rows
  obtain ⟨dv, h2, h2'⟩ := Z.wait
  exact ⟨⟨rv, s _ _ h1, h1'.to (TEx.of_same s)⟩, s _ _ Z.bound, s _ _ Z.fails, ⟨dv, s _ _ h2, h2'.to (TEx.of_same s)⟩, s _ _ Z.ap, Z.kb.same s, Z.fresh, Z.ne⟩
theorem TsAt.nap (M : MkAt K H0 A C S due) (Z : TsAt K H0 A S first lr lb lf ld H T W) : lr ≠ A.ap ∧ lb ≠ A.ap ∧ lf ≠ A.ap ∧ ld ≠ A.ap := by
  obtain ⟨f1, f2, f3, f4⟩ := Z.fresh
  exact ⟨(ne_of_none M.places f1).symm, (ne_of_none M.places f2).symm, (ne_of_none M.places f3).symm, (ne_of_none M.places f4).symm⟩
theorem TsAt.mk' (M : MkAt K H0 A C S due) (Z : TsAt K H0 A S first lr lb lf ld H T W) : MkAt K H A C (S.marks (1 + T.kept)) due := M.re Z.kb Z.ap
def RB (K : PySem.W.Frag) (H0 : Hp) (σ : L2.St) (te : TE) (r : Row Nm) : Prop := ∀ H, Same H0 H → ∀ Q : VK, (∀ v H', Same H H' → RowAt K H' v r → Q v H') → te σ H Q
theorem rowV_len (r : Row Nm) : (rowV r).length ≤ 10000000 := by cases r <;> (simp [rowV] <;> decide)
theorem rb_tup {σ : L2.St} {ta : TA} {r : Row Nm} (h : ∀ H, Same H0 H → ∀ (Q : List V → Hp → Prop), Q (rowV r) H → ta σ H Q) : RB K H0 σ (tTup ta) r := fun H s Q q => h H s _ ⟨sl_le (rowV_len r), fun p hp => q _ _ (same_new hp) ⟨p, rfl, SqT.of upd_same⟩⟩
/-- rows.append((..)) -/
theorem ts_row (M : MkAt K H0 A C S due) {σ : L2.St} {i : Nat} {D : L2.Ends} {te : TE} {r : Row Nm} (hσ : σ[i]? = some (some (.ref lr))) (Z : TsAt K H0 A S first lr lb lf ld H T W) (h : RB K H σ te r) (hl : T.rows.length ≤ 1000000)
    (k : ∀ H', TEx H H' → TsAt K H0 A S first lr lb lf ld H' ⟨T.rows ++ [r], T.bound, T.kept⟩ W → D.nx σ H') : tDrop (tBM K "list" rAppend (tVar i) (tCons te tNil)) D σ H := by
  obtain ⟨rv, h1, h1'⟩ := Z.rows
  have lr' : rv.length = T.rows.length := Paired.length h1'
  refine ⟨_, hσ, .inl ⟨rfl, _, SqL.of h1⟩, h H (Same.refl _) _ fun v H9 s9 hr => ?_⟩
  have Z9 := Z.same s9
  have h9 := s9 _ _ h1
  refine ⟨lr, rv, v, rfl, rfl, h9, sl_lt (by omega), ?_⟩
  have t : TEx H9 (upd H9 lr (.lst (rv ++ [v]))) := TEx.upd_lst h9
  obtain ⟨n1, n2, n3, n4, n5, n6⟩ := Z.ne
  obtain ⟨a1, a2, a3, a4⟩ := Z.nap M
  obtain ⟨dv, h2, h2'⟩ := Z9.wait
  refine k _ ((TEx.of_same s9).trans t) ⟨⟨_, upd_same, paired_append ((h1'.to (TEx.of_same s9)).to t) (.cons (hr.to t) .nil)⟩, by rw [upd_ne n1.symm]; exact Z9.bound, by rw [upd_ne n2.symm]; exact Z9.fails, ⟨dv, by rw [upd_ne n3.symm]; exact h2, h2'.to t⟩, by rw [upd_ne a1.symm]; exact Z9.ap, but1_new Z9.kb Z.fresh.1, Z.fresh, Z.ne⟩
/-- bound.append(seat) -/
theorem ts_bound (M : MkAt K H0 A C S due) {σ : L2.St} {i : Nat} {D : L2.Ends} {te : TE} {n : Nat} (hσ : σ[i]? = some (some (.ref lb))) (Z : TsAt K H0 A S first lr lb lf ld H T W) (h : ∀ Q : VK, Q (.int (n : Int)) H → te σ H Q) (hl : T.bound.length ≤ 1000000)
    (k : ∀ H', TEx H H' → TsAt K H0 A S first lr lb lf ld H' ⟨T.rows, T.bound ++ [n], T.kept⟩ W → D.nx σ H') : tDrop (tBM K "list" rAppend (tVar i) (tCons te tNil)) D σ H := by
  refine ⟨_, hσ, .inl ⟨rfl, _, SqL.of Z.bound⟩, h _ ?_⟩
  refine ⟨lb, _, _, rfl, rfl, Z.bound, sl_lt (by rw [natVs_len]; omega), ?_⟩
  have t : TEx H (upd H lb (.lst (natVs T.bound ++ [.int (n : Int)]))) := TEx.upd_lst Z.bound
  obtain ⟨n1, n2, n3, n4, n5, n6⟩ := Z.ne
  obtain ⟨a1, a2, a3, a4⟩ := Z.nap M
  obtain ⟨rv, h1, h1'⟩ := Z.rows
  obtain ⟨dv, h2, h2'⟩ := Z.wait
  refine k _ t ⟨⟨_, by rw [upd_ne n1]; exact h1, h1'.to t⟩, by rw [upd_same, natVs_snoc], by rw [upd_ne n4.symm]; exact Z.fails, ⟨dv, by rw [upd_ne n5.symm]; exact h2, h2'.to t⟩, by rw [upd_ne a2.symm]; exact Z.ap, but1_new Z.kb Z.fresh.2.1, Z.fresh, Z.ne⟩
theorem isNT {x y : V} {A B : Prop} (e : ¬ x = y) (h : A) : if (!decide (x = y)) = true then A else B := by
  rw [decide_eq_false e]; exact iteT h
/-- a waiting list that is written -/
theorem ts_wait (M : MkAt K H0 A C S due) (Z : TsAt K H0 A S first lr lb lf ld H T W) {W' : List Item} {dv : List V} (h : ItemsAt K H dv W') : TEx H (upd H ld (.lst dv.reverse)) ∧ TsAt K H0 A S first lr lb lf ld (upd H ld (.lst dv.reverse)) T W' := by
  obtain ⟨n1, n2, n3, n4, n5, n6⟩ := Z.ne
  obtain ⟨a1, a2, a3, a4⟩ := Z.nap M
  obtain ⟨rv, h1, h1'⟩ := Z.rows
  obtain ⟨dv0, h2, h2'⟩ := Z.wait
  have t : TEx H (upd H ld (.lst dv.reverse)) := TEx.upd_lst h2
  exact ⟨t, ⟨_, by rw [upd_ne n3]; exact h1, h1'.to t⟩, by rw [upd_ne n5]; exact Z.bound, by rw [upd_ne n6]; exact Z.fails, ⟨dv, upd_same, h.to t⟩, by rw [upd_ne a4.symm]; exact Z.ap, but1_new Z.kb Z.fresh.2.2.2, Z.fresh, Z.ne⟩
/-- [.. for n, x in enumerate(t)] -/
theorem lc_enumT {K : PySem.W.Frag} {a : Addr} {xs : List V} {g : TG} {tt : TT} {te : TE} {vs : List Nat} {σ : L2.St} {H1 : Hp} {D : Addr} {Qd : Hp → Prop} (Pv : Nat → Hp → Prop) (h0 : Pv 0 (upd H1 D (.lst []))) (hl : ∀ i H, i ≤ xs.length → Pv i H → SqT K H a xs)
    (hs : ∀ (i : Nat) x T H, xs[i]? = some x → H T = none → Pv i H → g (.ref T) (wipe σ vs) (upd H T (.tup [.int (i : Int), x])) fun σ2 H2 => wipe σ2 vs = wipe σ vs ∧ tt σ2 H2 fun b H3 =>
      if b = true then te σ2 H3 fun y H4 => ∃ acc, H4 D = some (.lst acc) ∧ acc.length < sizeLine ∧ Pv (i + 1) (upd H4 D (.lst (acc ++ [y]))) else Pv (i + 1) H3) (hd : ∀ H, Pv xs.length H → Qd H) :
    ∃ W : Nat → Nat → Hp → Prop, (∃ m, W 0 m (upd H1 D (.lst []))) ∧ ∀ i m H, W i m H →
      ((IteT K a).stop i H ∧ Qd H) ∨ ((IteT K a).go i H ∧ ∃ Nx : Hp → Prop, (∀ H', Nx H' → ∃ m', m' < m ∧ W (i + 1) m' H') ∧ ∀ x H', (IteT K a).yld i H x H' → g x (wipe σ vs) H' fun σ2 H2 => wipe σ2 vs = wipe σ vs ∧ tt σ2 H2 fun b H3 =>
        if b = true then te σ2 H3 fun y H4 => ∃ acc, H4 D = some (.lst acc) ∧ acc.length < sizeLine ∧ Nx (upd H4 D (.lst (acc ++ [y]))) else Nx H3) := by
  refine ⟨fun i m H => m = xs.length - i ∧ i ≤ xs.length ∧ Pv i H, ⟨xs.length, by simp, Nat.zero_le _, h0⟩, ?_⟩
  rintro i m H ⟨rfl, hi, p⟩
  have q := hl i H hi p
  by_cases hlt : i < xs.length
  · refine .inr ⟨⟨xs, xs[i], q, by simp [hlt]⟩, Pv (i + 1), fun H' p' => ⟨xs.length - (i + 1), by omega, rfl, hlt, p'⟩, fun x H' y => ?_⟩
    obtain ⟨T, z, rfl, e1, rfl, e2⟩ := y
    exact hs i z T H (e2 xs q) e1 p
  · have e : i = xs.length := by omega
    subst e
    exact .inl ⟨⟨xs, q, Nat.le_refl _⟩, hd H p⟩
theorem kids_snoc (seat : Nat) : ∀ (fs : List Form) (n : Nat) (f : Form), kids seat (fs ++ [f]) n = kids seat fs n ++ [(f, seat, some (n + fs.length))]
  | [], n, f => rfl
  | g :: r, n, f => by
    show _ :: kids seat (r ++ [f]) (n + 1) = _ :: (kids seat r (n + 1) ++ _)
    rw [kids_snoc seat r (n + 1) f]
    simp only [List.length_cons]
    rw [show n + 1 + r.length = n + (r.length + 1) by omega]
theorem trs_forms {fs : Forms} {vs : List V} (h : TrsAt K H vs (formsT fs)) : vs.length = fs.list.length := by rw [trs_len h, formsT_list, List.length_map]
/-- due.extend([(inner, seat, number) for number, inner in enumerate(part[2])][::-1]) -/
theorem ts_kids (M : MkAt K H0 A C S due) {D : L2.Ends} {a0 a1 a2 a3 a4 a5 a9 : Option V} {pa pb : Addr} {vs : List V} {m seat : Nat} {fs : Forms}
    (Z : TsAt K H0 A S first lr lb lf ld H T W) (hp : SqT K H pa [.str "make", .int (m : Int), .ref pb]) (hb : SqT K H pb vs) (hf : TrsAt K H vs (formsT fs)) (hw : W.length ≤ 1000000) (hfl : fs.list.length ≤ 1000000)
    (k : ∀ H', TEx H H' → TsAt K H0 A S first lr lb lf ld H' T (kids seat fs.list 0 ++ W) → D.nx [a0, a1, a2, a3, a4, a5, some (.ref ld), some (.ref pa), some (.int (seat : Int)), a9, none, none] H') :
    tDrop (tBM K "list" rExtend (tVar 6) (tCons (tRevL K (tLc (iEnumT K (tCons (tOp (rIxT K) (tVar 7) (tC (.int 2))) tNil)) (gTup K 2 (gCons (gName 10) (gCons (gName 11) gNil))) tYes (tTup (tCons (tVar 11) (tCons (tVar 8) (tCons (tVar 10) tNil)))) [10, 11])) tNil)) D
      [a0, a1, a2, a3, a4, a5, some (.ref ld), some (.ref pa), some (.int (seat : Int)), a9, none, none] H := by
  obtain ⟨dv, h2, h2'⟩ := Z.wait
  have lv := trs_forms hf
  refine ⟨_, rfl, .inl ⟨rfl, _, SqL.of h2⟩, _, rfl, pa, _, _, _, rfl, rfl, hp, rfl, pb, vs, rfl, hb, fun q hq => lc_enumT (K := K) (a := pb) (xs := vs) (fun i H' => ∃ ws, Same H H' ∧ H' q = some (.lst ws) ∧ ItemsAt K H' ws (kids seat (fs.list.take i) 0)) ⟨[], same_new hq, upd_same, .nil⟩ (fun i H' _ ⟨ws, sm, _⟩ => (TEx.of_same sm).sq hb) ?_ ?_⟩
  · rintro i x Tt H1 hx hT ⟨ws, sm, eq, hws⟩
    have lw : ws.length = (kids seat (fs.list.take i) 0).length := Paired.length hws
    have lk : (kids seat (fs.list.take i) 0).length ≤ wI (kids seat (fs.list.take i) 0) := len_wI _
    have hi : i < fs.list.length := by
      have := (List.getElem?_eq_some_iff.mp hx).1
      omega
    have lk2 : ∀ (l : List Form) (n : Nat), (kids seat l n).length = l.length := by
      intro l
      induction l with
      | nil => intro n; rfl
      | cons g r ih => intro n; simp only [kids, List.length_cons, ih]
    rw [lk2, List.length_take] at lw
    have s1 := same_new (o := .tup [.int (i : Int), x]) hT
    have eT := upd_same (H := H1) (a := Tt) (o := .tup [.int (i : Int), x])
    refine ⟨Tt, _, rfl, SqT.of eT, rfl, _, _, rfl, _, _, rfl, rfl, rfl, ?_⟩
    refine ⟨_, rfl, _, rfl, _, rfl, sl_le (by show 3 ≤ 10000000; decide), fun p hp' => ?_⟩
    have s2 := same_new (o := .tup [x, .int (seat : Int), .int (i : Int)]) hp'
    have s12 := s1.trans s2
    have eq2 := s12 _ _ eq
    have t := TEx.upd_lst (ys := ws ++ [.ref p]) eq2
    obtain ⟨c, ec, hc⟩ := trs_get hf hx
    rw [formsT_list, List.getElem?_map] at ec
    obtain ⟨f, ef, rfl⟩ : ∃ f, fs.list[i]? = some f ∧ formT f = c := by
      cases e : fs.list[i]? with
      | none => rw [e] at ec; cases ec
      | some f => rw [e] at ec; exact ⟨f, rfl, Option.some.inj ec⟩
    have et : fs.list.take (i + 1) = fs.list.take i ++ [f] := by rw [List.take_succ, ef]; rfl
    refine ⟨ws, eq2, sl_lt (by omega), ws ++ [.ref p], fun b o e => ?_, upd_same, ?_⟩
    · rw [upd_ne (ne_of_none e hq)]
      exact s12 _ _ (sm _ _ e)
    · rw [et, kids_snoc]
      refine paired_append ((hws.to (TEx.of_same s12)).to t) (.cons ⟨p, x, rfl, t.sq (SqT.of ?_), ((hc.to (TEx.of_same sm)).to (TEx.of_same s12)).to t⟩ .nil)
      rw [upd_same, Nat.zero_add, List.length_take, Nat.min_eq_left (by omega)]
      rfl
  · rintro H1 ⟨ws, sm, eq, hws⟩
    rw [lv, List.take_length] at hws
    have lk2 : ∀ (l : List Form) (n : Nat), (kids seat l n).length = l.length := by
      intro l
      induction l with
      | nil => intro n; rfl
      | cons g r ih => intro n; simp only [kids, List.length_cons, ih]
    have lw : ws.length = (kids seat fs.list 0).length := Paired.length hws
    rw [lk2] at lw
    have ldv : dv.length = W.length := Paired.length h2'
    refine ⟨q, ws, rfl, SqL.of eq, fun r hr => ?_⟩
    have s3 := same_new (o := .lst ws.reverse) hr
    refine ⟨ld, r, _, _, rfl, rfl, s3 _ _ (sm _ _ h2), upd_same, sl_le (by simp; omega), ?_⟩
    have Z3 := Z.same (sm.trans s3)
    have e : dv.reverse ++ ws.reverse = (ws ++ dv).reverse := by simp
    rw [e]
    have := ts_wait M Z3 (paired_append (hws.to (TEx.of_same s3)) (h2'.to (TEx.of_same (sm.trans s3))))
    exact k _ ((TEx.of_same (sm.trans s3)).trans this.1) this.2
end
end K87

set_option Elab.async false
set_option linter.all false
set_option maxRecDepth 100000
set_option maxHeartbeats 4000000
namespace K87
open PySem PySem.Spec PyProof.Rows L2 Ru Rp Mch
section
variable {P : Program} {w : World} {K : PySem.W.Frag} {mg : Str → Option Value} {base : Heap}
/-- the loop of tests -/
def TsInv (K : PySem.W.Frag) (H : Hp) (A : Ad) (S : St Nm) (f : Form) (root : Nat) (v : V) (lr lb lf ld : Addr) (m : Nat) (σ : L2.St) (H' : Hp) : Prop := ∃ (x7 x8 x9 : Option V) (Tt : Ts Nm) (W : List Item), σ = [some (.ref A.p), some v, some (.int (root : Int)), some (.ref lr), some (.ref lb), some (.ref lf), some (.ref ld), x7, x8, x9, none, none] ∧ TsAt K H A S S.places.length lr lb lf ld H' Tt W ∧
      foldT root S.places.length W Tt = tests Nm f root S.places.length ∧ Tt.rows.length + 4 * wI W ≤ 50000 ∧ Tt.bound.length + wI W ≤ 50000 ∧ Tt.kept + wI W ≤ 50000 ∧ m = wI W
theorem ts_mark {H H0 : Hp} {A : Ad} {C : Addr} {S : St Nm} {due : List (Piece Nm)} {first : Nat} {lr lb lf ld : Addr} {T : Ts Nm} {W : List Item} (M : MkAt K H0 A C S due) {σ : L2.St} {i j : Nat} {D : L2.Ends} (hσ : σ[i]? = some (some (.ref lf))) (hj : σ[j]? = some (some (.ref A.p))) (hf : first = S.places.length)
    (Z : TsAt K H0 A S first lr lb lf ld H T W) (hl : T.kept ≤ 100000) (hl2 : S.places.length ≤ 100000)
    (k : ∀ H', TEx H H' → TsAt K H0 A S first lr lb lf ld H' ⟨T.rows, T.bound, T.kept + 1⟩ W → D.nx σ H') : tDrop (tBM K "list" rAppend (tVar i) (tCons (tMeth C "mark" (spMark C K) [] E0 (tVar j) tNil) tNil)) D σ H := by
  have M' := Z.mk' M
  obtain ⟨as, h1, h1'⟩ := M'.ob
  have el : (S.marks (1 + T.kept)).places.length = S.places.length + (1 + T.kept) := by simp [St.marks]
  refine ⟨_, hσ, .inl ⟨rfl, _, SqL.of Z.fails⟩, _, hj, A.p, A.dx, _, rfl, h1, flds_no_mark, A, S.marks (1 + T.kept), due, rfl, M', by rw [el]; omega, fun H' b ap => ?_⟩
  obtain ⟨n1, n2, n3, n4, n5, n6⟩ := Z.ne
  obtain ⟨a1, a2, a3, a4⟩ := Z.nap M
  have hf' := b _ _ Z.fails a3
  refine ⟨lf, _, _, rfl, rfl, hf', sl_lt (by rw [natVs_len, List.length_range']; omega), ?_⟩
  have t1 : TEx H H' := fun a zs r => by
    have n := lst_not_tup M'.places r
    rcases r with r | ⟨o, r⟩
    · exact Or.inl (b _ _ r n)
    · exact Or.inr ⟨o, b _ _ r n⟩
  have t : TEx H' (upd H' lf (.lst (natVs (List.range' first (T.kept + 1)) ++ [.int (((S.marks (1 + T.kept)).places.length : Nat) : Int)]))) := TEx.upd_lst hf'
  obtain ⟨rv, g1, g1'⟩ := Z.rows
  obtain ⟨dv, g2, g2'⟩ := Z.wait
  refine k _ (t1.trans t) ⟨⟨_, by rw [upd_ne n2]; exact b _ _ g1 a1, (g1'.to t1).to t⟩, by rw [upd_ne n4]; exact b _ _ Z.bound a2, ?_, ⟨dv, by rw [upd_ne n6.symm]; exact b _ _ g2 a4, (g2'.to t1).to t⟩, ?_, but1_new (Z.kb.trans b) Z.fresh.2.2.1, Z.fresh, Z.ne⟩
  · rw [upd_same, natVs_snoc, el, hf]
    show some (HO.lst (natVs _)) = some (HO.lst (natVs (List.range' S.places.length (T.kept + 1 + 1))))
    rw [List.range'_1_concat (n := T.kept + 1), show 1 + T.kept = T.kept + 1 by omega]
  · rw [upd_ne a3.symm, ap]
    simp only [St.marks, List.append_assoc]
    rw [show 1 + (T.kept + 1) = (1 + T.kept) + 1 by omega, List.replicate_succ']
theorem make_none (root first : Nat) (m : Nat) (fs : Forms) (seat : Nat) (T : Ts Nm) : testF root first (.make m fs) seat none T = testFs root first fs seat 0 ⟨T.rows ++ [.loc seat, .isr (m : Int) (first + T.kept), .drop], T.bound, T.kept⟩ := by
  cases fs with
  | nil => rw [testF, testFs]; rfl
  | cons f r => rw [testF]
theorem fails_last (first k : Nat) : atI (natVs (List.range' first (k + 1))) (-1) = some (.int ((first + k : Nat) : Int)) := by
  rw [List.range'_1_concat, ← natVs_snoc]
  exact atI_last _ _
abbrev N_RowMaker_tests : List Str := ["self", "form", "root", "rows", "bound", "fails", "due", "part", "seat", "at", "number", "inner"]
theorem sc_RowMaker_tests : FnScope N_RowMaker_tests ["self", "form", "root"] (defScope s_RowMaker_tests) := ⟨rfl, rfl, rfl, by decide +kernel, rfl, by decide +kernel, by decide +kernel⟩
def spTests (C : Addr) (K : PySem.W.Frag) : Sp := fun vs H Q _ => ∃ (A : Ad) (S : St Nm) (due : List (Piece Nm)) (v : V) (f : Form) (root : Nat), vs = [.ref A.p, v, .int (root : Int)] ∧ MkAt K H A C S due ∧ TrAt K H v (formT f) ∧ cntF f ≤ 10000 ∧ S.places.length ≤ 50000 ∧
  ∀ (t lr lb lf : Addr) (rv : List V) (H' : Hp), But1 H H' A.ap → H' A.ap = some (.lst (natVs (S.marks (1 + (tests Nm f root S.places.length).kept)).places)) → SqT K H' t [.ref lr, .ref lb, .ref lf] → H lr = none → H lb = none → H lf = none →
    H' lr = some (.lst rv) → RowsOf K H' rv (tests Nm f root S.places.length).rows → H' lb = some (.lst (natVs (tests Nm f root S.places.length).bound)) → H' lf = some (.lst (natVs (List.range' S.places.length ((tests Nm f root S.places.length).kept + 1)))) → Q (.ref t) H'
theorem ok_tests (T : Txt K mg) : FnOk P w K mg base CX0 2 T.f_RowMaker_tests T.fd_RowMaker_tests ["self", "form", "root"] (spTests T.C_RowMaker K) := by
  refine T.F_RowMaker_tests.ok sc_RowMaker_tests (fun vs H Q E h => ?_) (fun cdv A outer sh H vs Q E hr h => ?_)
  · obtain ⟨A, S, due, v, f, root, rfl, _⟩ := h
    rfl
  · obtain ⟨A, S, due, v, f, root, rfl, M, hv, hf, hpl, k⟩ := h
    have nd := sc_RowMaker_tests.nd
    have G_RowMaker_mark : FnOk P w K mg base CX0 1 T.f_RowMaker_mark T.fd_RowMaker_mark ["self"] (spMark T.C_RowMaker K) := ok_mark T
    have hr_RowMaker_mark : Room 1 _ := hr
    refine ⟨_, (pss_cons (ps_asg (pe_tup (pa_cons (pe_lst pa_nil) (pa_cons (pe_lst pa_nil) (pa_cons (pe_lst (pa_cons (pe_meth0 (pv 0) T.cl_RowMaker T.m_RowMaker_mark G_RowMaker_mark hr_RowMaker_mark T.b_RowMaker_mark .nil pass0) pa_nil)) (pa_cons (pe_lst (pa_cons (pe_tup (pa_cons (pv 1) (pa_cons (pv 2) (pa_cons pe_non pa_nil)))) pa_nil)) pa_nil))))) (pg_tup (by rfl) (pgs_cons (pg_name (i := 3) nd rfl (Or.inl rfl)) (pgs_cons (pg_name (i := 4) nd rfl (Or.inl rfl)) (pgs_cons (pg_name (i := 5) nd rfl (Or.inl rfl)) (pgs_cons (pg_name (i := 6) nd rfl (Or.inl rfl)) pgs_nil))))))
          (pss_cons (ps_while PassesOwn.never (pt_truth (pv 6) (by intro _; rfl))
            (pss_cons (ps_asg (pe_bm0 PySem.F.plainAttrs_list PySem.F.slot_list_pop PySem.F.type_list_pop mt_pop (pv 6)) (pg_tup (by rfl) (pgs_cons (pg_name (i := 7) nd rfl (Or.inl rfl)) (pgs_cons (pg_name (i := 8) nd rfl (Or.inr rfl)) (pgs_cons (pg_name (i := 9) nd rfl (Or.inl rfl)) pgs_nil)))))
            (pss_one (ps_if (PW.pt (pw_and (pt_cmpR op_eq (pe_ix ix_tup (pv 7) pe_int (fun _ _ => rfl)) pe_str (nomark _)) (pw_and1 (pt_cmpR op_isN (pv 9) pe_non (nomark _)))))
              (pss_one (ps_expr (pe_bm PySem.F.plainAttrs_list PySem.F.slot_list_append PySem.F.type_list_append mt_append (pv 4) (pa_cons (pv 8) pa_nil))))
              (pss_one (ps_if (pt_cmpR op_ne (pe_ix ix_tup (pv 7) pe_int (fun _ _ => rfl)) pe_str (nomark _))
                (pss_cons (ps_expr (pe_bm PySem.F.plainAttrs_list PySem.F.slot_list_append PySem.F.type_list_append mt_append (pv 3) (pa_cons (pe_tup (pa_cons pe_str (pa_cons (pv 8) pa_nil))) pa_nil)))
                (pss_cons (ps_if (pt_cmpR op_notN (pv 9) pe_non (nomark _))
                  (pss_one (ps_expr (pe_bm PySem.F.plainAttrs_list PySem.F.slot_list_append PySem.F.type_list_append mt_append (pv 3) (pa_cons (pe_tup (pa_cons pe_str (pa_cons (pv 9) pa_nil))) pa_nil))))
                  pss_nil)
                (pss_cons (ps_if (pt_cmpR op_eq (pe_ix ix_tup (pv 7) pe_int (fun _ _ => rfl)) pe_str (nomark _))
                  (pss_one (ps_expr (pe_bm PySem.F.plainAttrs_list PySem.F.slot_list_append PySem.F.type_list_append mt_append (pv 3) (pa_cons (pe_tup (pa_cons pe_str (pa_cons (pe_ix ix_tup (pv 7) pe_int (fun _ _ => rfl)) (pa_cons (pe_ix ix_list (pv 5) (pe_un un_neg pe_int) (fun _ _ => rfl)) pa_nil)))) pa_nil))))
                  pss_nil)
                (pss_cons (ps_if (PW.pt (pw_or (pt_cmpR op_isN (pv 9) pe_non (nomark _)) (pw_or1 (PW.pt (pw_and (pt_cmpR op_eq (pe_ix ix_tup (pv 7) pe_int (fun _ _ => rfl)) pe_str (nomark _)) (pw_and1 (pt_not (pt_truth (pe_ix ix_tup (pv 7) pe_int (fun _ _ => rfl)) (by intro _; rfl)))))))))
                  (pss_one (ps_expr (pe_bm PySem.F.plainAttrs_list PySem.F.slot_list_append PySem.F.type_list_append mt_append (pv 3) (pa_cons (pe_tup (pa_cons pe_str pa_nil)) pa_nil))))
                  (pss_cons (ps_expr (pe_bm PySem.F.plainAttrs_list PySem.F.slot_list_append PySem.F.type_list_append mt_append (pv 3) (pa_cons (pe_tup (pa_cons pe_str pa_nil)) pa_nil)))
                  (pss_cons (ps_set (i := 8) nd rfl (Or.inr rfl) (pe_op op_add (pv 2) (pe_callB call_len_seq (by rfl) T.z_len (by decide +kernel) (pa_cons (pv 5) pa_nil))))
                  (pss_one (ps_expr (pe_bm PySem.F.plainAttrs_list PySem.F.slot_list_append PySem.F.type_list_append mt_append (pv 5) (pa_cons (pe_meth0 (pv 0) T.cl_RowMaker T.m_RowMaker_mark G_RowMaker_mark hr_RowMaker_mark T.b_RowMaker_mark .nil pass0) pa_nil)))))))
                (pss_one (ps_if (pt_cmpR op_eq (pe_ix ix_tup (pv 7) pe_int (fun _ _ => rfl)) pe_str (nomark _))
                  (pss_one (ps_expr (pe_bm PySem.F.plainAttrs_list PySem.F.slot_list_append PySem.F.type_list_append mt_append (pv 4) (pa_cons (pv 8) pa_nil))))
                  (pss_one (ps_expr (pe_bm PySem.F.plainAttrs_list PySem.F.slot_list_extend PySem.F.type_list_extend mt_extend (pv 6) (pa_cons (pe_revL (pe_lc (own := [("number", 10), ("inner", 11)]) (g := gTup K 2 (gCons (gName 10) (gCons (gName 11) gNil))) (tt := tYes) rfl nd (Ru.pi_enumT (by rfl) T.z_enumerate (pa_cons (pe_ix ix_tup (pv 7) pe_int (fun _ _ => rfl)) pa_nil)) (blkOk_by (own := [("number", 10), ("inner", 11)]) (N := N_RowMaker_tests) (sc := defScope s_RowMaker_tests) (by decide +kernel)) (fun _ _ _ _ _ => pg_tup rfl (pgs_cons (pg_name (i := 10) nd rfl (Or.inl rfl)) (pgs_cons (pg_name (i := 11) nd rfl (Or.inl rfl)) pgs_nil))) (fun _ _ _ _ _ => pts_nil) (fun _ _ _ _ _ => (pe_tup (pa_cons (pv 11) (pa_cons (pv 8) (pa_cons (pv 10) pa_nil))))))) pa_nil))))))))))
                pss_nil))))))
          (pss_one (ps_ret (pe_tup (pa_cons (pv 3) (pa_cons (pv 4) (pa_cons (pv 5) pa_nil)))))))), ?_⟩
    obtain ⟨as, h1, h1'⟩ := M.ob
    obtain ⟨m1, m2, m3⟩ := M.ne_p
    -- rows, bound, fails, due = ..
    refine ⟨Nat.zero_le _, fun lr hlr => ⟨Nat.zero_le _, fun lb hlb => ?_⟩⟩
    have s1 := same_new (o := .lst []) hlr
    have s2 := same_new (o := .lst []) hlb
    have er := s2 _ _ (upd_same (H := H) (a := lr) (o := .lst []))
    have eb := upd_same (H := upd H lr (.lst [])) (a := lb) (o := .lst [])
    have nrb : lr ≠ lb := ne_of_none (upd_same (H := H) (a := lr) (o := .lst [])) hlb
    have hlb0 : H lb = none := s1.free hlb
    have s12 := s1.trans s2
    generalize upd (upd H lr (.lst [])) lb (.lst []) = H2 at *
    have M2 := M.same s12
    refine ⟨_, rfl, A.p, A.dx, _, rfl, s12 _ _ h1, flds_no_mark, A, S, due, rfl, M2, by omega, fun H3 b3 ap3 => ⟨sl_le (by show 1 ≤ 10000000; decide), fun lf hlf => ?_⟩⟩
    have kb3 : But1 H H3 A.ap := fun b o e n => b3 _ _ (s12 _ _ e) n
    have nra : lr ≠ A.ap := (ne_of_none M.places hlr).symm
    have nba : lb ≠ A.ap := (ne_of_none M.places hlb0).symm
    have er3 := b3 _ _ er nra
    have eb3 := b3 _ _ eb nba
    have nrf := ne_of_none er3 hlf
    have nbf := ne_of_none eb3 hlf
    have naf := ne_of_none ap3 hlf
    have hlf0 : H lf = none := by
      cases e : H lf with
      | none => rfl
      | some o =>
        have := kb3 _ _ e naf.symm
        rw [hlf] at this
        cases this
    have s4 := same_new (o := .lst [.int (S.places.length : Int)]) hlf
    have ef4 := upd_same (H := H3) (a := lf) (o := .lst [.int (S.places.length : Int)])
    have er4 := s4 _ _ er3
    have eb4 := s4 _ _ eb3
    have ap4 := s4 _ _ ap3
    have kb4 : But1 H (upd H3 lf (.lst [.int (S.places.length : Int)])) A.ap := kb3.same s4
    generalize upd H3 lf (.lst [.int (S.places.length : Int)]) = H4 at *
    refine ⟨_, rfl, _, rfl, sl_le (by show 3 ≤ 10000000; decide), fun tp htp => ⟨sl_le (by show 1 ≤ 10000000; decide), fun ld hld => ⟨sl_le (by show 4 ≤ 10000000; decide), fun tt htt => ?_⟩⟩⟩
    have s5 := same_new (o := .tup [v, .int (root : Int), .non]) htp
    have etp := upd_same (H := H4) (a := tp) (o := .tup [v, .int (root : Int), .non])
    have s6 := same_new (o := .lst [.ref tp]) hld
    have eld := upd_same (H := upd H4 tp (.tup [v, .int (root : Int), .non])) (a := ld) (o := .lst [.ref tp])
    have s7 := same_new (o := .tup [.ref lr, .ref lb, .ref lf, .ref ld]) htt
    have ett := upd_same (H := upd (upd H4 tp (.tup [v, .int (root : Int), .non])) ld (.lst [.ref tp])) (a := tt) (o := .tup [.ref lr, .ref lb, .ref lf, .ref ld])
    have nrd := ne_of_none (s5 _ _ er4) hld
    have nbd := ne_of_none (s5 _ _ eb4) hld
    have nfd := ne_of_none (s5 _ _ ef4) hld
    have nad := ne_of_none (s5 _ _ ap4) hld
    have hld0 : H ld = none := by
      cases e : H ld with
      | none => rfl
      | some o =>
        have := s5 _ _ (kb4 _ _ e nad.symm)
        rw [hld] at this
        cases this
    have etp7 := s7 _ _ (s6 _ _ etp)
    have eld7 := s7 _ _ eld
    have s57 := (s5.trans s6).trans s7
    generalize upd (upd (upd H4 tp (.tup [v, .int (root : Int), .non])) ld (.lst [.ref tp])) tt (.tup [.ref lr, .ref lb, .ref lf, .ref ld]) = H7 at *
    have kb7 := kb4.same s57
    have tx7 : TEx H H7 := fun a zs r => by
      have n := lst_not_tup M.places r
      rcases r with r | ⟨o, r⟩
      · exact Or.inl (kb7 _ _ r n)
      · exact Or.inr ⟨o, kb7 _ _ r n⟩
    have Z0 : TsAt K H A S S.places.length lr lb lf ld H7 ⟨[], [], 0⟩ [(f, root, none)] :=
      ⟨⟨[], s57 _ _ er4, .nil⟩, s57 _ _ eb4, s57 _ _ ef4, ⟨[.ref tp], eld7, .cons ⟨tp, v, rfl, SqT.of etp7, hv.to tx7⟩ .nil⟩, s57 _ _ ap4, kb7, ⟨hlr, hlb0, hlf0, hld0⟩, ⟨nrb, nrf, nrd, nbf, nbd, nfd⟩⟩
    clear s12 M2 er3 eb3 ap3 b3 kb3 er4 eb4 ap4 ef4 kb4 s57 etp7 eld7 eld etp s5 s6 s7 s4
    refine ⟨tt, _, rfl, SqT.of ett, rfl, _, _, rfl, _, _, rfl, _, _, rfl, _, _, rfl, rfl, ?_⟩
    -- while due
    refine ⟨TsInv K H A S f root v lr lb lf ld, ⟨_, none, none, none, _, _, rfl, Z0, rfl, by simp [wI]; omega, by simp [wI]; omega, by simp [wI]; omega, rfl⟩, ?_⟩
    rintro m σ H' ⟨x7, x8, x9, Tt, W, rfl, Z, hfold, hb1, hb2, hb3, rfl⟩
    obtain ⟨dv, hdv, hit⟩ := Z.wait
    refine ⟨_, rfl, _, .inl ⟨_, SqL.of hdv, rfl⟩, ?_⟩
    cases hit with
    | nil =>
      refine iteF ?_
      have hT : Tt = tests Nm f root S.places.length := hfold
      refine ⟨_, rfl, _, rfl, _, rfl, sl_le (by show 3 ≤ 10000000; decide), fun t ht => ?_⟩
      have s8 := same_new (o := .tup [.ref lr, .ref lb, .ref lf]) ht
      have Z8 := Z.same s8
      obtain ⟨rv, e1, e2⟩ := Z8.rows
      have q1 := Z8.bound
      have q2 := Z8.fails
      have q3 := Z8.ap
      rw [hT] at e2 q1 q2 q3
      exact k t lr lb lf rv _ Z8.kb q3 (SqT.of upd_same) hlr hlb0 hlf0 e1 e2 q1 q2
    | @cons d x dr R hd hit =>
      obtain ⟨g, seat, at_⟩ := x
      refine (?_ : (if (!((d :: dr).reverse).isEmpty) = true then _ else _))
      rw [show (!((d :: dr).reverse).isEmpty) = true by simp]
      refine iteT ⟨fun σ' H'' => ∃ m', m' < wI ((g, seat, at_) :: R) ∧ TsInv K H A S f root v lr lb lf ld m' σ' H'', fun _ _ q => q, ?_⟩
      have hrev : (d :: dr).reverse = dr.reverse ++ [d] := by simp
      rw [hrev] at hdv
      have hZ1 := ts_wait M Z hit
      obtain ⟨t1, Z1⟩ := hZ1
      refine ⟨_, rfl, .inl ⟨rfl, _, SqL.of hdv⟩, ld, _, d, rfl, rfl, hdv, by simp, ?_⟩
      rw [List.dropLast_concat]
      obtain ⟨a, p, rfl, hsq, htr⟩ := hd
      have hsq1 := t1.sq hsq
      have htr1 := htr.to t1
      clear hsq htr hdv
      generalize upd H' ld (.lst dr.reverse) = H1 at *
      refine ⟨a, _, rfl, hsq1, rfl, _, _, rfl, _, _, rfl, _, _, rfl, rfl, ?_⟩
      rw [foldT] at hfold
      rw [wI] at hb1 hb2 hb3
      have hcp := cntF_pos g
      cases g with
      | any =>
        obtain ⟨pa, vs, rfl, hpa, hvs⟩ := tr_t.mp htr1
        obtain ⟨v0, q0, rfl, h0, hq0⟩ := trs_cons.mp hvs
        obtain rfl := tr_s.mp h0
        refine ⟨_, rfl, pa, _, _, _, rfl, rfl, hpa, atI_hd, rfl, _, rfl, isF (nstr (by decide +kernel)) (iteF ?_)⟩
        refine ⟨_, rfl, pa, _, _, _, rfl, rfl, hpa, atI_hd, rfl, _, rfl, iteNS rfl ?_⟩
        rw [testF] at hfold
        exact ⟨_, by rw [wI]; omega, _, _, _, Tt, R, rfl, Z1, hfold, by omega, by omega, by omega, rfl⟩
      | bind =>
        obtain ⟨pa, vs, rfl, hpa, hvs⟩ := tr_t.mp htr1
        obtain ⟨v0, q0, rfl, h0, hq0⟩ := trs_cons.mp hvs
        obtain rfl := tr_s.mp h0
        cases at_ with
        | none =>
          rw [testF] at hfold
          refine ⟨_, rfl, pa, _, _, _, rfl, rfl, hpa, atI_hd, rfl, _, rfl, isT rfl ⟨_, rfl, rfl, _, rfl, isT rfl ?_⟩⟩
          refine ts_bound M (i := 4) (n := seat) rfl Z1 (fun Q q => ⟨_, rfl, q⟩) (by omega) fun H2 t2 Z2 => ?_
          exact ⟨_, by rw [wI]; omega, _, _, _, _, R, rfl, Z2, hfold, by dsimp only; omega, by simp; omega, by dsimp only; omega, rfl⟩
        | some n =>
          rw [testF] at hfold
          refine ⟨_, rfl, pa, _, _, _, rfl, rfl, hpa, atI_hd, rfl, _, rfl, isT rfl ⟨_, rfl, rfl, _, rfl, isF (by intro z; cases z) ?_⟩⟩
          refine ⟨_, rfl, pa, _, _, _, rfl, rfl, hpa, atI_hd, rfl, _, rfl, isNT (nstr (by decide +kernel)) ?_⟩
          refine ts_row M (i := 3) (r := .loc seat) rfl Z1 (rb_tup fun H s Q q => ⟨_, rfl, q⟩) (by omega) fun H2 t2 Z2 => ?_
          refine ⟨_, rfl, rfl, _, rfl, isNT (by intro z; cases z) ?_⟩
          refine ts_row M (i := 3) (r := .part n) rfl Z2 (rb_tup fun H s Q q => ⟨_, rfl, q⟩) (by simp; omega) fun H3 t3 Z3 => ?_
          have hpa3 := t3.sq (t2.sq hpa)
          refine ⟨_, rfl, pa, _, _, _, rfl, rfl, hpa3, atI_hd, rfl, _, rfl, isF (nstr (by decide +kernel)) ?_⟩
          refine ⟨_, rfl, rfl, _, rfl, isF (by intro z; cases z) ?_⟩
          refine ⟨_, rfl, pa, _, _, _, rfl, rfl, hpa3, atI_hd, rfl, _, rfl, isF (nstr (by decide +kernel)) (iteF ?_)⟩
          refine ts_row M (i := 3) (r := .keep) rfl Z3 (rb_tup fun H s Q q => q) (by simp; omega) fun H4 t4 Z4 => ?_
          refine ⟨_, rfl, _, rfl, lf, _, rfl, .inl (SqL.of Z4.fails), _, _, rfl, rfl, ?_⟩
          rw [natVs_len, List.length_range']
          refine ts_mark M (i := 5) (j := 0) rfl rfl rfl Z4 (by dsimp only; omega) (by omega) fun H5 t5 Z5 => ?_
          have hpa5 := t5.sq (t4.sq hpa3)
          refine ⟨_, rfl, pa, _, _, _, rfl, rfl, hpa5, atI_hd, rfl, _, rfl, isT rfl ?_⟩
          refine ts_bound M (i := 4) (n := root + Tt.kept + 1) rfl Z5 (fun Q q => ⟨_, rfl, ?_⟩) (by dsimp only; omega) fun H6 t6 Z6 => ?_
          · show Q (.int ((root : Int) + ((Tt.kept + 1 : Nat) : Int))) _
            rw [show (root : Int) + ((Tt.kept + 1 : Nat) : Int) = ((root + Tt.kept + 1 : Nat) : Int) by omega]
            exact q
          · rw [cntF] at hb1 hb2 hb3
            have e : (Tt.rows ++ [Row.loc seat]) ++ [.part n] ++ [.keep] = Tt.rows ++ [Row.loc seat, .part n, .keep] := by simp
            dsimp only at Z6
            rw [e] at Z6
            exact ⟨_, by rw [wI, cntF]; omega, _, _, _, _, R, rfl, Z6, hfold, by simp; omega, by simp; omega, by dsimp only; omega, rfl⟩
      | make m fs =>
        obtain ⟨pa, vs, rfl, hpa, hvs⟩ := tr_t.mp htr1
        obtain ⟨v0, q0, rfl, h0, hq0⟩ := trs_cons.mp hvs
        obtain ⟨v1, q1, rfl, h1, hq1⟩ := trs_cons.mp hq0
        obtain ⟨v2, q2, rfl, h2, hq2⟩ := trs_cons.mp hq1
        obtain rfl := tr_s.mp h0
        obtain rfl := tr_i.mp h1
        obtain rfl := trs_nil.mp hq2
        obtain ⟨pb, ws, rfl, hpb, hws⟩ := tr_t.mp h2
        have hfl : fs.list.length ≤ 50000 := by
          have e1 := wI_kids 0 fs 0
          have e2 := len_wI (kids 0 fs.list 0)
          have lk2 : ∀ (l : List Form) (n : Nat), (kids 0 l n).length = l.length := by
            intro l
            induction l with
            | nil => intro n; rfl
            | cons g r ih => intro n; simp only [kids, List.length_cons, ih]
          rw [lk2] at e2
          rw [cntF] at hb2
          omega
        have hRl : R.length ≤ 50000 := by
          have := len_wI R
          omega
        rw [cntF] at hb1 hb2 hb3
        refine ⟨_, rfl, pa, _, _, _, rfl, rfl, hpa, atI_hd, rfl, _, rfl, isF (nstr (by decide +kernel)) (iteF ?_)⟩
        refine ⟨_, rfl, pa, _, _, _, rfl, rfl, hpa, atI_hd, rfl, _, rfl, isNT (nstr (by decide +kernel)) ?_⟩
        refine ts_row M (i := 3) (r := .loc seat) rfl Z1 (rb_tup fun H s Q q => ⟨_, rfl, q⟩) (by omega) fun H2 t2 Z2 => ?_
        cases at_ with
        | none =>
          rw [make_none] at hfold
          refine ⟨_, rfl, rfl, _, rfl, iteNS rfl ?_⟩
          have hpa2 := t2.sq hpa
          refine ⟨_, rfl, pa, _, _, _, rfl, rfl, hpa2, atI_hd, rfl, _, rfl, isT rfl ?_⟩
          refine ts_row M (i := 3) (r := .isr (m : Int) (S.places.length + Tt.kept)) rfl Z2 (rb_tup fun H s Q q => ⟨_, rfl, pa, _, _, _, rfl, rfl, (TEx.of_same s).sq hpa2, rfl, _, rfl, _, rfl, lf, _, _, _, rfl, rfl, SqL.of (s _ _ Z2.fails), fails_last _ _, q⟩) (by simp; omega) fun H3 t3 Z3 => ?_
          refine ⟨_, rfl, rfl, _, rfl, isT rfl (iteT ?_)⟩
          refine ts_row M (i := 3) (r := .drop) rfl Z3 (rb_tup fun H s Q q => q) (by simp; omega) fun H4 t4 Z4 => ?_
          have t24 := (t2.trans t3).trans t4
          refine ⟨_, rfl, pa, _, _, _, rfl, rfl, t24.sq hpa, atI_hd, rfl, _, rfl, isF (nstr (by decide +kernel)) ?_⟩
          refine ts_kids M Z4 (t24.sq hpa) (t24.sq hpb) (hws.to t24) (by omega) (by omega) fun H5 t5 Z5 => ?_
          have e : (Tt.rows ++ [Row.loc seat]) ++ [.isr (m : Int) (S.places.length + Tt.kept)] ++ [.drop] = Tt.rows ++ [Row.loc seat, .isr (m : Int) (S.places.length + Tt.kept), .drop] := by simp
          dsimp only at Z5
          rw [e] at Z5
          rw [← kids_fold, ← foldT_append] at hfold
          have ew : wI (kids seat fs.list 0 ++ R) = cntFs fs + wI R := by rw [wI_append, wI_kids]
          exact ⟨_, by rw [ew, wI, cntF]; omega, _, _, _, _, _, rfl, Z5, hfold, by rw [ew]; simp; omega, by rw [ew]; dsimp only; omega, by rw [ew]; dsimp only; omega, rfl⟩
        | some n =>
          refine ⟨_, rfl, rfl, _, rfl, isNT (by intro z; cases z) ?_⟩
          refine ts_row M (i := 3) (r := .part n) rfl Z2 (rb_tup fun H s Q q => ⟨_, rfl, q⟩) (by simp; omega) fun H2b t2b Z2b => ?_
          have hpa2 := (t2.trans t2b).sq hpa
          have hpb2 := (t2.trans t2b).sq hpb
          refine ⟨_, rfl, pa, _, _, _, rfl, rfl, hpa2, atI_hd, rfl, _, rfl, isT rfl ?_⟩
          refine ts_row M (i := 3) (r := .isr (m : Int) (S.places.length + Tt.kept)) rfl Z2b (rb_tup fun H s Q q => ⟨_, rfl, pa, _, _, _, rfl, rfl, (TEx.of_same s).sq hpa2, rfl, _, rfl, _, rfl, lf, _, _, _, rfl, rfl, SqL.of (s _ _ Z2b.fails), fails_last _ _, q⟩) (by simp; omega) fun H3 t3 Z3 => ?_
          have hpa3 := t3.sq hpa2
          have hpb3 := t3.sq hpb2
          refine ⟨_, rfl, rfl, _, rfl, isF (by intro z; cases z) ?_⟩
          refine ⟨_, rfl, pa, _, _, _, rfl, rfl, hpa3, atI_hd, rfl, _, rfl, isT rfl ?_⟩
          refine ⟨_, rfl, pa, _, _, _, rfl, rfl, hpa3, rfl, _, .inr (.inl ⟨_, hpb3, rfl⟩), ?_⟩
          cases fs with
          | nil =>
            obtain rfl := trs_nil.mp hws
            rw [testF] at hfold
            refine iteT ?_
            refine ts_row M (i := 3) (r := .drop) rfl Z3 (rb_tup fun H s Q q => q) (by simp; omega) fun H4 t4 Z4 => ?_
            have t24 := ((t2.trans t2b).trans t3).trans t4
            refine ⟨_, rfl, pa, _, _, _, rfl, rfl, t24.sq hpa, atI_hd, rfl, _, rfl, isF (nstr (by decide +kernel)) ?_⟩
            refine ts_kids (fs := .nil) M Z4 (t24.sq hpa) (t24.sq hpb) (hws.to t24) (by omega) (by omega) fun H5 t5 Z5 => ?_
            have e : ((Tt.rows ++ [Row.loc seat]) ++ [.part n]) ++ [.isr (m : Int) (S.places.length + Tt.kept)] ++ [.drop] = Tt.rows ++ ([Row.loc seat] ++ partRow Nm (some n) ++ [.isr (m : Int) (S.places.length + Tt.kept), .drop]) := by simp [partRow]
            dsimp only at Z5
            rw [e] at Z5
            exact ⟨_, by rw [wI, cntF]; show wI R < _; omega, _, _, _, _, R, rfl, Z5, hfold, by simp [partRow]; omega, by dsimp only; omega, by dsimp only; omega, rfl⟩
          | cons f0 r0 =>
            have hne : ws.isEmpty = false := by
              have := trs_len hws
              rw [formsT] at this
              cases ws with
              | nil => simp at this
              | cons _ _ => rfl
            rw [testF] at hfold
            rw [hne]
            refine iteF ?_
            refine ts_row M (i := 3) (r := .keep) rfl Z3 (rb_tup fun H s Q q => q) (by simp; omega) fun H4 t4 Z4 => ?_
            refine ⟨_, rfl, _, rfl, lf, _, rfl, .inl (SqL.of Z4.fails), _, _, rfl, rfl, ?_⟩
            rw [natVs_len, List.length_range']
            refine ts_mark M (i := 5) (j := 0) rfl rfl rfl Z4 (by dsimp only; omega) (by omega) fun H5 t5 Z5 => ?_
            have t25 := (((t2.trans t2b).trans t3).trans t4).trans t5
            refine ⟨_, rfl, pa, _, _, _, rfl, rfl, t25.sq hpa, atI_hd, rfl, _, rfl, isF (nstr (by decide +kernel)) ?_⟩
            have eseat : (root : Int) + ((Tt.kept + 1 : Nat) : Int) = ((root + Tt.kept + 1 : Nat) : Int) := by omega
            dsimp only
            rw [eseat]
            refine ts_kids (seat := root + Tt.kept + 1) (fs := .cons f0 r0) M Z5 (t25.sq hpa) (t25.sq hpb) (hws.to t25) (by omega) (by omega) fun H6 t6 Z6 => ?_
            have e : ((Tt.rows ++ [Row.loc seat]) ++ [.part n]) ++ [.isr (m : Int) (S.places.length + Tt.kept)] ++ [.keep] = Tt.rows ++ [Row.loc seat, .part n, .isr (m : Int) (S.places.length + Tt.kept), .keep] := by simp
            dsimp only at Z6
            rw [e] at Z6
            rw [← kids_fold, ← foldT_append] at hfold
            have ew : wI (kids (root + Tt.kept + 1) (Forms.cons f0 r0).list 0 ++ R) = cntFs (.cons f0 r0) + wI R := by rw [wI_append, wI_kids]
            exact ⟨_, by rw [ew, wI, cntF]; omega, _, _, _, _, _, rfl, Z6, hfold, by rw [ew]; simp; omega, by rw [ew]; dsimp only; omega, by rw [ew]; dsimp only; omega, rfl⟩
end
end K87

set_option Elab.async false
set_option linter.all false
set_option maxRecDepth 100000
set_option maxHeartbeats 4000000
namespace K87
open PySem PySem.Spec PyProof.Rows L2 Ru Rp Mch
/-! ### displays of pieces -/
section
variable (K : PySem.W.Frag) (H0 : Hp) (σ : L2.St) (A : Ad)
def PB (te : TE) (p : Piece Nm) : Prop := ∀ H, Same H0 H → ∀ Q : VK, (∀ v H', Same H H' → PieceAt K H' A v p → Q v H') → te σ H Q
def PBs (ta : TA) (ps : List (Piece Nm)) : Prop := ∀ H, Same H0 H → ∀ Q : List V → Hp → Prop, (∀ vs H', Same H H' → PiecesAt K H' A vs ps → Q vs H') → ta σ H Q
/-- a list of pieces, made anew -/
def LPB (te : TE) (ps : List (Piece Nm)) : Prop := ∀ H, Same H0 H → ∀ Q : VK, (∀ l wv H', Same H H' → H' l = some (.lst wv) → PiecesAt K H' A wv ps → Q (.ref l) H') → te σ H Q
/-- a list of seats -/
def SB (te : TE) (s : List Nat) : Prop := ∀ H, Same H0 H → ∀ Q : VK, (∀ l H', Same H H' → SeatsAt H' A l s → Q (.ref l) H') → te σ H Q
end
section
variable {K : PySem.W.Frag} {H0 H H' : Hp} {σ : L2.St} {A : Ad} {C : Addr} {S : St Nm} {due ps js : List (Piece Nm)} {te ti tl : TE} {ta : TA} {p : Piece Nm}
theorem PieceAt.same {v : V} (h : PieceAt K H A v p) (s : Same H H') : PieceAt K H' A v p := h.keeps (TEx.of_same s) fun _ _ q => q.same s
theorem pbs_nil : PBs K H0 σ A tNil [] := fun H _ Q q => q [] H (Same.refl H) .nil
theorem pbs_cons (h1 : PB K H0 σ A te p) (h2 : PBs K H0 σ A ta ps) : PBs K H0 σ A (tCons te ta) (p :: ps) := fun H s Q q =>
  h1 H s _ fun v H1 s1 hr => h2 H1 (s.trans s1) _ fun vs H2 s2 hrs => q _ H2 (s1.trans s2) (.cons (hr.same s2) hrs)
theorem pb_var {i : Nat} {v : V} (hi : σ[i]? = some (some v)) (h : PieceAt K H0 A v p) : PB K H0 σ A (tVar i) p := fun H s Q q => ⟨_, hi, q v H (Same.refl H) (h.same s)⟩
theorem pb_told {t : Told Nm} {x : V} (h : ∀ H, Same H0 H → ∀ Q : VK, Q x H → te σ H Q) (hx : TrAt K H0 x (toldT t)) : PB K H0 σ A (tTup (tCons (tC (.str "told")) (tCons te tNil))) (.told t) := fun H s Q q =>
  h H s _ ⟨sl_le (by show 2 ≤ 10000000; decide), fun a ha => q _ _ (same_new ha) ⟨a, x, rfl, SqT.of upd_same, (hx.to (TEx.of_same s)).to (TEx.upd_new ha)⟩⟩
theorem pb_row {r : Row Nm} (h : RB K H0 σ te r) : PB K H0 σ A (tTup (tCons (tC (.str "row")) (tCons te tNil))) (.row r) := fun H s Q q =>
  h H s _ fun v H1 s1 hr => ⟨sl_le (by show 2 ≤ 10000000; decide), fun a ha => q _ _ (s1.trans (same_new ha)) ⟨a, v, rfl, SqT.of upd_same, RowAt.to (TEx.upd_new ha) hr⟩⟩
theorem pb_mark {k : Nat} (h : ∀ H, Same H0 H → ∀ Q : VK, Q (.int (k : Int)) H → te σ H Q) : PB K H0 σ A (tTup (tCons (tC (.str "mark")) (tCons te tNil))) (.mark k) := fun H s Q q =>
  h H s _ ⟨sl_le (by show 2 ≤ 10000000; decide), fun a ha => q _ _ (same_new ha) ⟨a, _, rfl, SqT.of upd_same, rfl⟩⟩
theorem pb_seats {s : List Nat} {k : Nat} (h : SB H0 σ A tl s) (hk : ∀ H, Same H0 H → ∀ Q : VK, Q (.int (k : Int)) H → ti σ H Q) : PB K H0 σ A (tTup (tCons (tC (.str "seats")) (tCons (tTup (tCons tl (tCons ti tNil))) tNil))) (.seats s k) := fun H s0 Q q =>
  h H s0 _ fun l H1 s1 hl => hk H1 (s0.trans s1) _ ⟨sl_le (by show 2 ≤ 10000000; decide), fun b hb => ⟨sl_le (by show 2 ≤ 10000000; decide), fun a ha => q _ _ ((s1.trans (same_new hb)).trans (same_new ha))
    ⟨a, .ref b, rfl, SqT.of upd_same, b, l, rfl, SqT.of (same_new ha _ _ upd_same), (hl.same (same_new hb)).same (same_new ha)⟩⟩⟩
theorem lpb_lst (h : PBs K H0 σ A ta ps) (hl : ps.length ≤ 1000000) : LPB K H0 σ A (tLst ta) ps := fun H s Q q =>
  h H s _ fun vs H1 s1 hp => ⟨sl_le (by rw [pieces_len hp]; omega), fun l hn => q l vs _ (s1.trans (same_new hn)) upd_same (hp.same (same_new hn))⟩
/-- a local list of pieces -/
structure PsAt (K : PySem.W.Frag) (H0 : Hp) (A : Ad) (C : Addr) (S : St Nm) (due : List (Piece Nm)) (l : Addr) (H : Hp) (ps : List (Piece Nm)) : Prop where
  lst : ∃ wv, H l = some (.lst wv) ∧ PiecesAt K H (A.setx l) wv ps
  mk' : MkAt K H (A.setx l) C S due
  kp : Kp A H0 H
  new : H0 l = none
  na : l ≠ A.ar ∧ l ≠ A.ap ∧ l ≠ A.ad
theorem PsAt.same {l : Addr} (Z : PsAt K H0 A C S due l H ps) (s : Same H H') : PsAt K H0 A C S due l H' ps := by
  obtain ⟨wv, h1, h2⟩ := Z.lst
  exact ⟨⟨wv, s _ _ h1, h2.same s⟩, Z.mk'.same s, Z.kp.trans (Kp.of_same s), Z.new, Z.na⟩
theorem ps_new (M : MkAt K H A C S due) (kp : Kp A H0 H) (M0 : MkAt K H0 A C S0 due0) (h : PBs K H σ A ta ps) (hl : ps.length ≤ 1000000) {Q : VK} (k : ∀ l H', H l = none → Same H H' → PsAt K H0 A C S due l H' ps → Q (.ref l) H') : tLst ta σ H Q :=
  h H (Same.refl _) _ fun vs H1 s1 hp => ⟨sl_le (by rw [pieces_len hp]; omega), fun l hn => by
    have M1 := M.same s1
    have hx := seats_new (A := A) hn
    have s2 := same_new (o := .lst vs) hn
    refine k l _ (s1.free hn) (s1.trans s2) ⟨⟨vs, upd_same, (hp.setx hx).same s2⟩, (M1.setx hx).same s2, (kp.trans (Kp.of_same s1)).trans (Kp.of_same s2), ?_, ?_, ?_, ?_⟩
    · cases e : H0 l with
      | none => rfl
      | some o =>
        exfalso
        obtain ⟨as, g1, _⟩ := M1.ob
        obtain ⟨rv, g2, _⟩ := M1.rows
        obtain ⟨dv, g3, _⟩ := M1.due
        have := s1 _ _ (kp _ _ e (ne_of_none g1 hn).symm (ne_of_none g2 hn).symm (ne_of_none M1.places hn).symm (ne_of_none g3 hn).symm)
        rw [hn] at this
        cases this
    · obtain ⟨rv, g2, _⟩ := M1.rows
      exact (ne_of_none g2 hn).symm
    · exact (ne_of_none M1.places hn).symm
    · obtain ⟨dv, g3, _⟩ := M1.due
      exact (ne_of_none g3 hn).symm⟩
theorem MkAt.lst (M : MkAt K H A C S due) {l : Addr} {xs ys : List V} (hl : H l = some (.lst xs)) (n : l ≠ A.ar ∧ l ≠ A.ap ∧ l ≠ A.ad) (hs : ∀ q s, SeatsAt H A q s → q ≠ l) : MkAt K (upd H l (.lst ys)) A C S due := by
  have t : TEx H (upd H l (.lst ys)) := TEx.upd_lst hl
  obtain ⟨as, h1, h1'⟩ := M.ob
  obtain ⟨rv, h2, h2'⟩ := M.rows
  obtain ⟨dv, h3, h3'⟩ := M.due
  have np : A.p ≠ l := ne_of h1 hl (by intro z; cases z)
  have ks : ∀ q s, SeatsAt H A q s → SeatsAt (upd H l (.lst ys)) A q s := fun q s h => ⟨by rw [upd_ne (hs q s h)]; exact h.1, h.2⟩
  exact ⟨⟨as, by rw [upd_ne np]; exact h1, ks _ _ h1'⟩, ⟨rv, by rw [upd_ne n.1.symm]; exact h2, h2'.to t⟩, by rw [upd_ne n.2.1.symm]; exact M.places, ⟨dv, by rw [upd_ne n.2.2.symm]; exact h3, h3'.keeps t ks⟩, M.ne⟩
theorem ps_upd {l : Addr} (Z : PsAt K H0 A C S due l H ps) {wv : List V} {qs : List (Piece Nm)} (h : PiecesAt K H (A.setx l) wv qs) : TEx H (upd H l (.lst wv)) ∧ PsAt K H0 A C S due l (upd H l (.lst wv)) qs := by
  obtain ⟨wv0, h1, h2⟩ := Z.lst
  have t : TEx H (upd H l (.lst wv)) := TEx.upd_lst h1
  have hs : ∀ q s, SeatsAt H (A.setx l) q s → q ≠ l := fun q s h => h.2.2.2.2
  have ks : ∀ q s, SeatsAt H (A.setx l) q s → SeatsAt (upd H l (.lst wv)) (A.setx l) q s := fun q s h => ⟨by rw [upd_ne (hs q s h)]; exact h.1, h.2⟩
  refine ⟨t, ⟨wv, upd_same, h.keeps t ks⟩, Z.mk'.lst h1 Z.na hs, fun b o e n1 n2 n3 n4 => ?_, Z.new, Z.na⟩
  rw [upd_ne (ne_of_none e Z.new)]
  exact Z.kp b o e n1 n2 n3 n4
/-- pieces.extend(..) -/
theorem ps_ext {l : Addr} {i : Nat} {D : L2.Ends} (hσ : σ[i]? = some (some (.ref l))) (Z : PsAt K H0 A C S due l H ps) (h : LPB K H σ (A.setx l) te js) (h1 : ps.length ≤ 1000000) (h2 : js.length ≤ 1000000) (k : ∀ H', But1 H H' l → TEx H H' → PsAt K H0 A C S due l H' (ps ++ js) → D.nx σ H') :
    tDrop (tBM K "list" rExtend (tVar i) (tCons te tNil)) D σ H := by
  obtain ⟨wv0, g1, g2⟩ := Z.lst
  have l0 := pieces_len g2
  refine ⟨_, hσ, .inl ⟨rfl, _, SqL.of g1⟩, h H (Same.refl _) _ fun q wv H1 s1 e1 hw => ?_⟩
  have l1 := pieces_len hw
  refine ⟨l, q, _, _, rfl, rfl, s1 _ _ g1, e1, sl_le (by omega), ?_⟩
  have u := ps_upd (Z.same s1) (paired_append (g2.same s1) hw)
  exact k _ (fun b o e n => by rw [upd_ne n]; exact s1 _ _ e) ((TEx.of_same s1).trans u.1) u.2
/-- pieces.append(..) -/
theorem ps_app {l : Addr} {i : Nat} {D : L2.Ends} (hσ : σ[i]? = some (some (.ref l))) (Z : PsAt K H0 A C S due l H ps) (h : PB K H σ (A.setx l) te p) (h1 : ps.length ≤ 1000000) (k : ∀ H', But1 H H' l → TEx H H' → PsAt K H0 A C S due l H' (ps ++ [p]) → D.nx σ H') :
    tDrop (tBM K "list" rAppend (tVar i) (tCons te tNil)) D σ H := by
  obtain ⟨wv0, g1, g2⟩ := Z.lst
  have l0 := pieces_len g2
  refine ⟨_, hσ, .inl ⟨rfl, _, SqL.of g1⟩, h H (Same.refl _) _ fun v H1 s1 hw => ?_⟩
  refine ⟨l, _, v, rfl, rfl, s1 _ _ g1, sl_lt (by omega), ?_⟩
  have u := ps_upd (Z.same s1) (paired_append (g2.same s1) (.cons hw .nil))
  exact k _ (fun b o e n => by rw [upd_ne n]; exact s1 _ _ e) ((TEx.of_same s1).trans u.1) u.2
theorem setx_setx (A : Ad) (x y : Addr) : (A.setx x).setx y = A.setx y := rfl
theorem setx_id {A : Ad} (h : A.x = A.p) : A.setx A.p = A := by
  cases A
  simp only [Ad.setx] at *
  subst h
  rfl
/-- self.queue(pieces + [..]) -/
theorem ps_queue {l : Addr} {i j : Nat} {D : L2.Ends} (hσ : σ[i]? = some (some (.ref l))) (hj : σ[j]? = some (some (.ref A.p))) (hx : A.x = A.p) (Z : PsAt K H0 A C S due l H ps) (h : LPB K H σ (A.setx l) te js) (hl : ps.length + js.length + due.length ≤ 1000000)
    (k : ∀ H', MkAt K H' A C S (ps ++ js ++ due) → Kp A H0 H' → D.nx σ H') : tDrop (tMeth C "queue" (spQueue C K) [] E0 (tVar j) (tCons (tOp rCat (tVar i) te) tNil)) D σ H := by
  obtain ⟨wv0, g1, g2⟩ := Z.lst
  have l0 := pieces_len g2
  obtain ⟨as, g3, _⟩ := Z.mk'.ob
  refine ⟨_, hj, A.p, A.dx, _, rfl, g3, flds_no_queue, _, hσ, h H (Same.refl _) _ fun q wv H1 s1 e1 hw => ?_⟩
  have l1 := pieces_len hw
  refine ⟨l, q, _, _, rfl, rfl, s1 _ _ g1, e1, sl_le (by omega), fun r hr => ?_⟩
  have s2 := same_new (o := .lst (wv0 ++ wv)) hr
  have s12 := s1.trans s2
  have Z2 := Z.same s12
  have M2 := Z2.mk'
  have hnp : ∀ q s, SeatsAt (upd H1 r (.lst (wv0 ++ wv))) (A.setx l) q s → q ≠ A.p := fun q s hq => M2.not_p hq
  have M3 := M2.setx hnp
  rw [setx_setx, setx_id hx] at M3
  have P3 := PiecesAt.setx hnp (paired_append (g2.same s12) (hw.same s2))
  rw [setx_setx, setx_id hx] at P3
  refine ⟨A, S, due, ps ++ js, r, wv0 ++ wv, rfl, M3, upd_same, P3, by rw [List.length_append]; omega, fun H' M' kp' => k H' M' (Z2.kp.trans kp')⟩
theorem sb_var {i : Nat} {q : Addr} {s : List Nat} (hi : σ[i]? = some (some (.ref q))) (h : SeatsAt H0 A q s) : SB H0 σ A (tVar i) s := fun H s0 Q k => ⟨_, hi, k q H (Same.refl H) (h.same s0)⟩
theorem sb_cat {i j : Nat} {q1 q2 : Addr} {s1 s2 : List Nat} {wv : List V} (hi : σ[i]? = some (some (.ref q1))) (hj : σ[j]? = some (some (.ref q2))) (h1 : H0 q1 = some (.lst (natVs s1))) (h2 : H0 q2 = some (.lst (natVs s2))) (M : MkAt K H0 A C S due) (hl : H0 A.x = some (.lst wv))
    (hz : s1.length + s2.length ≤ 1000000) : SB H0 σ A (tOp rCat (tVar i) (tVar j)) (s1 ++ s2) := fun H s0 Q k =>
  ⟨_, hi, _, hj, q1, q2, _, _, rfl, rfl, s0 _ _ h1, s0 _ _ h2, sl_le (by rw [natVs_len, natVs_len]; omega), fun r hr => by
    obtain ⟨rv, g2, _⟩ := M.rows
    obtain ⟨dv, g3, _⟩ := M.due
    refine k r _ (same_new hr) ⟨?_, (ne_of_none (s0 _ _ g2) hr).symm, (ne_of_none (s0 _ _ M.places) hr).symm, (ne_of_none (s0 _ _ g3) hr).symm, (ne_of_none (s0 _ _ hl) hr).symm⟩
    rw [upd_same]
    simp [natVs]⟩
/-- [('row', row) for row in tests] -/
theorem lpb_rows {i n : Nat} {lr : Addr} {rv : List V} {rs : List (Row Nm)} (hi : σ[i]? = some (some (.ref lr))) (h1 : H0 lr = some (.lst rv)) (h2 : RowsOf K H0 rv rs) (hl : rs.length ≤ 1000000)
    (hn : ∀ x : V, ((wipe σ [n]).set n (some x))[n]? = some (some x)) (hw : ∀ x : V, wipe ((wipe σ [n]).set n (some x)) [n] = wipe σ [n]) :
    LPB K H0 σ A (tLc (iList K (tVar i)) (gName n) tYes (tTup (tCons (tC (.str "row")) (tCons (tVar n) tNil))) [n]) (rs.map .row) := fun H s Q q => by
  have l0 : rv.length = rs.length := Paired.length h2
  refine ⟨_, hi, lr, rfl, ⟨rv, SqL.of (s _ _ h1)⟩, fun D hD => lc_list (K := K) (a := lr) (xs := rv) (fun j H' => ∃ ws, Same H H' ∧ H' D = some (.lst ws) ∧ PiecesAt K H' A ws ((rs.take j).map .row)) ⟨[], same_new hD, upd_same, .nil⟩ (fun j H' _ ⟨ws, sm, _⟩ => SqL.of (sm _ _ (s _ _ h1))) ?_ ?_⟩
  · rintro j x H1 hx ⟨ws, sm, eD, hws⟩
    have lw := pieces_len hws
    rw [List.length_map, List.length_take] at lw
    obtain ⟨r, er, hr⟩ : ∃ r, rs[j]? = some r ∧ RowAt K H0 x r := by
      have hj : j < rs.length := by
        have := (List.getElem?_eq_some_iff.mp hx).1
        omega
      obtain ⟨y, e1, e2⟩ := paired_get h2 (List.getElem?_eq_getElem hj)
      rw [hx] at e1
      cases e1
      exact ⟨_, List.getElem?_eq_getElem hj, e2⟩
    refine ⟨hw x, ?_⟩
    refine ⟨x, hn x, sl_le (by show 2 ≤ 10000000; decide), fun p hp => ?_⟩
    have s2 := same_new (o := .tup [.str "row", x]) hp
    have eD2 := s2 _ _ eD
    have t := TEx.upd_lst (ys := ws ++ [.ref p]) eD2
    have hk : ∀ q' s', SeatsAt H1 A q' s' → True := fun _ _ _ => trivial
    have et : (rs.take (j + 1)).map Piece.row = (rs.take j).map Piece.row ++ [.row r] := by rw [List.take_succ, er]; simp
    refine ⟨ws, eD2, sl_lt (by omega), ws ++ [.ref p], fun b o e => ?_, upd_same, ?_⟩
    · rw [upd_ne (ne_of_none e hD)]
      exact s2 _ _ (sm _ _ e)
    · rw [et]
      have simp1 : ∀ {u : V} {pc : Piece Nm}, (∃ r', pc = .row r') → PieceAt K H1 A u pc → PieceAt K (upd (upd H1 p (.tup [.str "row", x])) D (.lst (ws ++ [.ref p]))) A u pc := by
        rintro u _ ⟨r', rfl⟩ ⟨a, y, rfl, g1, g2⟩
        exact ⟨a, y, rfl, t.sq ((TEx.of_same s2).sq g1), RowAt.to t (RowAt.to (TEx.of_same s2) g2)⟩
      have simp2 : ∀ {us : List V} {pcs : List (Row Nm)}, PiecesAt K H1 A us (pcs.map .row) → PiecesAt K (upd (upd H1 p (.tup [.str "row", x])) D (.lst (ws ++ [.ref p]))) A us (pcs.map .row) := by
        intro us pcs
        induction pcs generalizing us with
        | nil => intro h; cases h; exact .nil
        | cons r' pr ih =>
          intro h
          cases h with
          | cons f g => exact .cons (simp1 ⟨_, rfl⟩ f) (ih g)
      refine paired_append (simp2 hws) (.cons ⟨p, x, rfl, t.sq (SqT.of upd_same), ?_⟩ .nil)
      exact RowAt.to t (RowAt.to (TEx.of_same ((s.trans sm).trans s2)) hr)
  · rintro H1 ⟨ws, sm, eD, hws⟩
    rw [l0, List.take_length] at hws
    exact q D ws H1 sm eD hws
/-- [('told', part) for part in parts] -/
theorem lpb_tolds {i n : Nat} {lr : Addr} {rv : List V} {ts : Tolds Nm} (hi : σ[i]? = some (some (.ref lr))) (h1 : SqT K H0 lr rv) (h2 : TrsAt K H0 rv (toldsT ts)) (hl : ts.list.length ≤ 1000000)
    (hn : ∀ x : V, ((wipe σ [n]).set n (some x))[n]? = some (some x)) (hw : ∀ x : V, wipe ((wipe σ [n]).set n (some x)) [n] = wipe σ [n]) :
    LPB K H0 σ A (tLc (iTup K (tVar i)) (gName n) tYes (tTup (tCons (tC (.str "told")) (tCons (tVar n) tNil))) [n]) (ts.list.map .told) := fun H s Q q => by
  have l0 : rv.length = ts.list.length := by rw [trs_len h2, toldsT_list, List.length_map]
  have h1' := (TEx.of_same s).sq h1
  refine ⟨_, hi, lr, rfl, ⟨rv, h1'⟩, fun D hD => lc_tup (K := K) (a := lr) (xs := rv) (fun j H' => ∃ ws, Same H H' ∧ H' D = some (.lst ws) ∧ PiecesAt K H' A ws ((ts.list.take j).map .told)) ⟨[], same_new hD, upd_same, .nil⟩ (fun j H' _ ⟨ws, sm, _⟩ => (TEx.of_same sm).sq h1') ?_ ?_⟩
  · rintro j x H1 hx ⟨ws, sm, eD, hws⟩
    have lw := pieces_len hws
    rw [List.length_map, List.length_take] at lw
    have hj : j < ts.list.length := by
      have := (List.getElem?_eq_some_iff.mp hx).1
      omega
    obtain ⟨c, ec, hc⟩ := trs_get h2 hx
    rw [toldsT_list, List.getElem?_map] at ec
    obtain ⟨t0, et0, rfl⟩ : ∃ t0, ts.list[j]? = some t0 ∧ toldT t0 = c := by
      cases e : ts.list[j]? with
      | none => rw [e] at ec; cases ec
      | some f => rw [e] at ec; exact ⟨f, rfl, Option.some.inj ec⟩
    refine ⟨hw x, ?_⟩
    refine ⟨x, hn x, sl_le (by show 2 ≤ 10000000; decide), fun p hp => ?_⟩
    have s2 := same_new (o := .tup [.str "told", x]) hp
    have eD2 := s2 _ _ eD
    have t := TEx.upd_lst (ys := ws ++ [.ref p]) eD2
    have et : (ts.list.take (j + 1)).map Piece.told = (ts.list.take j).map Piece.told ++ [.told t0] := by rw [List.take_succ, et0]; simp
    refine ⟨ws, eD2, sl_lt (by omega), ws ++ [.ref p], fun b o e => ?_, upd_same, ?_⟩
    · rw [upd_ne (ne_of_none e hD)]
      exact s2 _ _ (sm _ _ e)
    · rw [et]
      have simp1 : ∀ {u : V} {pc : Piece Nm}, (∃ r', pc = .told r') → PieceAt K H1 A u pc → PieceAt K (upd (upd H1 p (.tup [.str "told", x])) D (.lst (ws ++ [.ref p]))) A u pc := by
        rintro u _ ⟨r', rfl⟩ ⟨a, y, rfl, g1, g2⟩
        exact ⟨a, y, rfl, t.sq ((TEx.of_same s2).sq g1), TrAt.to t (TrAt.to (TEx.of_same s2) g2)⟩
      have simp2 : ∀ {us : List V} {pcs : List (Told Nm)}, PiecesAt K H1 A us (pcs.map .told) → PiecesAt K (upd (upd H1 p (.tup [.str "told", x])) D (.lst (ws ++ [.ref p]))) A us (pcs.map .told) := by
        intro us pcs
        induction pcs generalizing us with
        | nil => intro h; cases h; exact .nil
        | cons r' pr ih =>
          intro h
          cases h with
          | cons f g => exact .cons (simp1 ⟨_, rfl⟩ f) (ih g)
      refine paired_append (simp2 hws) (.cons ⟨p, x, rfl, t.sq (SqT.of upd_same), ?_⟩ .nil)
      exact TrAt.to t (TrAt.to (TEx.of_same ((s.trans sm).trans s2)) hc)
  · rintro H1 ⟨ws, sm, eD, hws⟩
    rw [l0, List.take_length] at hws
    exact q D ws H1 sm eD hws
theorem lpb_cat {t1 t2 : TE} (h1 : LPB K H0 σ A t1 ps) (h2 : LPB K H0 σ A t2 js) (hl : ps.length + js.length ≤ 1000000) : LPB K H0 σ A (tOp rCat t1 t2) (ps ++ js) := fun H s Q q =>
  h1 H s _ fun l1 w1 H1 s1 e1 g1 => h2 H1 (s.trans s1) _ fun l2 w2 H2 s2 e2 g2 => by
    have z1 := pieces_len g1
    have z2 := pieces_len g2
    refine ⟨l1, l2, w1, w2, rfl, rfl, s2 _ _ e1, e2, sl_le (by omega), fun r hr => ?_⟩
    have s3 := same_new (o := .lst (w1 ++ w2)) hr
    exact q r _ _ ((s1.trans s2).trans s3) upd_same (PiecesAt.same s3 (paired_append (PiecesAt.same s2 g1) g2))
/-- self.queue(..) -/
theorem q_queue {j : Nat} {D : L2.Ends} (hj : σ[j]? = some (some (.ref A.p))) (M : MkAt K H A C S due) (h : LPB K H σ A te js) (hl : js.length + due.length ≤ 1000000)
    (k : ∀ H', MkAt K H' A C S (js ++ due) → Kp A H H' → D.nx σ H') : tDrop (tMeth C "queue" (spQueue C K) [] E0 (tVar j) (tCons te tNil)) D σ H := by
  obtain ⟨as, g3, _⟩ := M.ob
  refine ⟨_, hj, A.p, A.dx, _, rfl, g3, flds_no_queue, h H (Same.refl _) _ fun q wv H1 s1 e1 hw => ?_⟩
  refine ⟨A, S, due, js, q, wv, rfl, M.same s1, e1, hw, hl, fun H' M' kp' => k H' M' ((Kp.of_same s1).trans kp')⟩
/-- marks are made -/
theorem ps_marks {l : Addr} (Z : PsAt K H0 A C S due l H ps) (M0 : MkAt K H0 A C S0 due0) (b : But1 H H' A.ap) {n : Nat} (ap : H' A.ap = some (.lst (natVs (S.marks n).places))) : TEx H H' ∧ PsAt K H0 A C (S.marks n) due l H' ps := by
  obtain ⟨wv, h1, h2⟩ := Z.lst
  have kp : Kp (A.setx l) H H' := fun b' o e n1 n2 n3 n4 => b _ _ e n3
  have t := Z.mk'.tex kp
  exact ⟨t, ⟨wv, b _ _ h1 Z.na.2.1, h2.keeps t fun _ _ q => q.kp Z.mk' kp⟩, Z.mk'.re b ap, Z.kp.trans kp, Z.new, Z.na⟩
end
end K87

set_option Elab.async false
set_option linter.all false
set_option maxRecDepth 100000
set_option maxHeartbeats 4000000
namespace K87
open PySem PySem.Spec PyProof.Rows L2 Ru Rp Mch
section
variable {P : Program} {w : World} {K : PySem.W.Frag} {mg : Str → Option Value} {base : Heap}
/-- put's promise -/
def spPut (C : Addr) (K : PySem.W.Frag) (ok : Told Nm → Prop) : Sp := fun vs H Q _ => ∃ (A : Ad) (S : St Nm) (due : List (Piece Nm)) (v : V) (t : Told Nm), vs = [.ref A.p, v] ∧ A.x = A.p ∧ MkAt K H A C S due ∧ TrAt K H v (toldT t) ∧ ok t ∧ scT t S.seats.length ∧ cnt t ≤ 1000 ∧
  S.rows.length ≤ 50000 ∧ S.places.length ≤ 40000 ∧ S.seats.length ≤ 50000 ∧ due.length ≤ 50000 ∧ ∀ (H' : Hp), MkAt K H' A C (putS t S) (putP t S ++ due) → Kp A H H' → Q .non H'
def isIf : Told Nm → Prop
  | .ifT _ _ _ => True
  | _ => False
def isCase : Told Nm → Prop
  | .case _ _ _ => True
  | _ => False
abbrev N_RowMaker_put_if : List Str := ["self", "told", "other", "end", "pieces"]
theorem sc_RowMaker_put_if : FnScope N_RowMaker_put_if ["self", "told"] (defScope s_RowMaker_put_if) := ⟨rfl, rfl, rfl, by decide +kernel, rfl, by decide +kernel, by decide +kernel⟩
theorem ok_put_if (T : Txt K mg) : FnOk P w K mg base CX0 2 T.f_RowMaker_put_if T.fd_RowMaker_put_if ["self", "told"] (spPut T.C_RowMaker K isIf) := by
  refine T.F_RowMaker_put_if.ok sc_RowMaker_put_if (fun vs H Q E h => ?_) (fun cdv A outer sh H vs Q E hr h => ?_)
  · obtain ⟨A, S, due, v, t, rfl, _⟩ := h
    rfl
  · obtain ⟨A, S, due, v, t, rfl, hx, M, hv, hok, hsc, hcn, hb1, hb2, hb3, hb4, k⟩ := h
    have nd := sc_RowMaker_put_if.nd
    have G_RowMaker_mark : FnOk P w K mg base CX0 1 T.f_RowMaker_mark T.fd_RowMaker_mark ["self"] (spMark T.C_RowMaker K) := ok_mark T
    have hr_RowMaker_mark : Room 1 _ := hr
    have G_RowMaker_queue : FnOk P w K mg base CX0 1 T.f_RowMaker_queue T.fd_RowMaker_queue ["self", "pieces"] (spQueue T.C_RowMaker K) := ok_queue T
    have hr_RowMaker_queue : Room 1 _ := hr
    refine ⟨_, (pss_cons (ps_par (i := 2) (j := 3) (by rfl) nd rfl rfl (by decide) rfl rfl (pa_cons (pe_meth0 (pv 0) T.cl_RowMaker T.m_RowMaker_mark G_RowMaker_mark hr_RowMaker_mark T.b_RowMaker_mark .nil pass0) (pa_cons (pe_meth0 (pv 0) T.cl_RowMaker T.m_RowMaker_mark G_RowMaker_mark hr_RowMaker_mark T.b_RowMaker_mark .nil pass0) pa_nil)) (by rfl))
          (pss_cons (ps_set (i := 4) nd rfl (Or.inl rfl) (pe_lst (pa_cons (pe_tup (pa_cons pe_str (pa_cons (pe_ix ix_tup (pv 1) pe_int (fun _ _ => rfl)) pa_nil))) (pa_cons (pe_tup (pa_cons pe_str (pa_cons (pe_tup (pa_cons pe_str (pa_cons pe_int (pa_cons (pv 2) pa_nil)))) pa_nil))) (pa_cons (pe_tup (pa_cons pe_str (pa_cons (pe_tup (pa_cons pe_str pa_nil)) pa_nil))) (pa_cons (pe_tup (pa_cons pe_str (pa_cons (pe_ix ix_tup (pv 1) pe_int (fun _ _ => rfl)) pa_nil))) pa_nil))))))
          (pss_cons (ps_expr (pe_bm PySem.F.plainAttrs_list PySem.F.slot_list_extend PySem.F.type_list_extend mt_extend (pv 4) (pa_cons (pe_lst (pa_cons (pe_tup (pa_cons pe_str (pa_cons (pe_tup (pa_cons pe_str (pa_cons (pv 3) pa_nil))) pa_nil))) (pa_cons (pe_tup (pa_cons pe_str (pa_cons (pv 2) pa_nil))) (pa_cons (pe_tup (pa_cons pe_str (pa_cons (pe_tup (pa_cons pe_str pa_nil)) pa_nil))) (pa_cons (pe_tup (pa_cons pe_str (pa_cons (pe_ix ix_tup (pv 1) pe_int (fun _ _ => rfl)) pa_nil))) pa_nil))))) pa_nil)))
          (pss_one (ps_expr (pe_meth (pv 0) T.cl_RowMaker T.m_RowMaker_queue G_RowMaker_queue hr_RowMaker_queue T.b_RowMaker_queue .nil pass0 (pa_cons (pe_op op_cat (pv 4) (pe_lst (pa_cons (pe_tup (pa_cons pe_str (pa_cons (pv 3) pa_nil))) pa_nil))) pa_nil))))))), ?_⟩
    cases t with
    | ifT a b c =>
      obtain ⟨pv, vs, rfl, hp, hvs⟩ := tr_t.mp hv
      obtain ⟨v0, q0, rfl, h0, hq0⟩ := trs_cons.mp hvs
      obtain ⟨va, q1, rfl, ha, hq1⟩ := trs_cons.mp hq0
      obtain ⟨vb, q2, rfl, hb, hq2⟩ := trs_cons.mp hq1
      obtain ⟨vc, q3, rfl, hc, hq3⟩ := trs_cons.mp hq2
      obtain rfl := trs_nil.mp hq3
      obtain rfl := tr_s.mp h0
      obtain ⟨as, h1, h1'⟩ := M.ob
      refine ⟨_, rfl, A.p, A.dx, _, rfl, h1, flds_no_mark, A, S, due, rfl, M, by omega, fun H1 b1 ap1 => ?_⟩
      have M1 := M.re b1 ap1
      obtain ⟨as1, h2, h2'⟩ := M1.ob
      refine ⟨_, rfl, A.p, A.dx, _, rfl, h2, flds_no_mark, A, _, due, rfl, M1, by simp; omega, fun H2 b2 ap2 => ⟨_, _, rfl, ?_⟩⟩
      have M2 : MkAt K H2 A T.C_RowMaker (S.marks 2) due := by
        have := M1.re b2 ap2
        rw [List.append_assoc] at this
        exact this
      have kp2 : Kp A H H2 := fun b o e n1 n2 n3 n4 => b2 _ _ (b1 _ _ e n3) n3
      have t2 := M.tex kp2
      have hp2 := t2.sq hp
      have ha2 := ha.to t2
      have hb2' := hb.to t2
      have hc2 := hc.to t2
      have el : (S.places ++ [0]).length = S.places.length + 1 := by simp
      rw [el]
      try dsimp only [gName, tSeq, tAsg]
      refine ps_new (ps := [.told a, .row (.isr 1 S.places.length), .row .drop, .told b]) M2 kp2 M (pbs_cons (pb_told (x := va) (fun H s Q q => ⟨_, rfl, pv, _, _, _, rfl, rfl, (TEx.of_same s).sq hp2, rfl, q⟩) ha2)
        (pbs_cons (pb_row (rb_tup fun H s Q q => ⟨_, rfl, q⟩)) (pbs_cons (pb_row (rb_tup fun H s Q q => q)) (pbs_cons (pb_told (x := vb) (fun H s Q q => ⟨_, rfl, pv, _, _, _, rfl, rfl, (TEx.of_same s).sq hp2, rfl, q⟩) hb2') pbs_nil)))) (by simp) fun l H3 hl3 s3 Z3 => ?_
      have hp3 := (TEx.of_same s3).sq hp2
      have hc3 := hc2.to (TEx.of_same s3)
      try dsimp only [gName, tSeq, tAsg]
      refine ps_ext (i := 4) (js := [.row (.go (S.places.length + 1)), .mark S.places.length, .row .drop, .told c]) rfl Z3 (lpb_lst (pbs_cons (pb_row (rb_tup fun H s Q q => ⟨_, rfl, q⟩)) (pbs_cons (pb_mark fun H s Q q => ⟨_, rfl, q⟩) (pbs_cons (pb_row (rb_tup fun H s Q q => q))
        (pbs_cons (pb_told (x := vc) (fun H s Q q => ⟨_, rfl, pv, _, _, _, rfl, rfl, (TEx.of_same s).sq hp3, rfl, q⟩) hc3) pbs_nil)))) (by simp)) (by simp) (by simp) fun H4 b4 t4 Z4 => ?_
      try dsimp only [gName, tSeq, tAsg]
      refine ps_queue (i := 4) (j := 0) (js := [.mark (S.places.length + 1)]) rfl rfl hx Z4 (lpb_lst (pbs_cons (pb_mark fun H s Q q => ⟨_, rfl, q⟩) pbs_nil) (by simp)) (by simp; omega) fun H5 M5 kp5 => ?_
      exact k H5 M5 kp5
    | loc n => exact hok.elim
    | letT a b => exact hok.elim
    | same k a b => exact hok.elim
    | call f ps => exact hok.elim
    | make k m ps => exact hok.elim
    | case k a arms => exact hok.elim
end
end K87

set_option Elab.async false
set_option linter.all false
set_option maxRecDepth 100000
set_option maxHeartbeats 8000000
namespace K87
open PySem PySem.Spec PyProof.Rows L2 Ru Rp Mch
section
variable {P : Program} {w : World} {K : PySem.W.Frag} {mg : Str → Option Value} {base : Heap}
theorem marks_marks (S : St Nm) (a b : Nat) : (S.marks a).marks b = S.marks (a + b) := by
  simp only [St.marks, List.append_assoc, List.replicate_append_replicate]
theorem marks_len (S : St Nm) (a : Nat) : (S.marks a).places.length = S.places.length + a := by simp [St.marks]
def undoTop (first kept : Nat) : Nat → List (Piece Nm)
  | 0 => []
  | j + 1 => undoTop first kept j ++ [.mark (first + (kept - j)), .row (.forget 1)]
theorem undoTop_all (first kept : Nat) : ∀ j, j ≤ kept → undoTop first kept j ++ undoP first (kept - j) = undoP first kept
  | 0, _ => rfl
  | j + 1, h => by
    rw [← undoTop_all first kept j (by omega), undoTop, List.append_assoc]
    congr 1
    rw [show kept - j = (kept - (j + 1)) + 1 by omega, undoP]
    rfl
theorem undoTop_len (first kept : Nat) : ∀ j, (undoTop first kept j).length = 2 * j
  | 0 => rfl
  | j + 1 => by rw [undoTop, List.length_append, undoTop_len first kept j]; simp; omega
theorem fcnt_le : ∀ arms : Arms Nm, fcnt arms ≤ cntArms arms
  | .nil => by rw [fcnt, cntArms]; omega
  | .cons f t r => by
    rw [fcnt, cntArms]
    have := fcnt_le r
    omega
theorem fails_at {first k j : Nat} (h : j ≤ k) : (natVs (List.range' first (k + 1)))[j]? = some (.int ((first + j : Nat) : Int)) := by
  refine natVs_at ?_
  rw [List.getElem?_range' (by omega)]
  simp
structure CaseAt (K : PySem.W.Frag) (H : Hp) (A : Ad) (C : Addr) (S : St Nm) (due : List (Piece Nm)) (a : Told Nm) (arms : Arms Nm) (l : Addr) (i : Nat) (H' : Hp) (R : Arms Nm) (first : Nat) (pp : List (Piece Nm)) : Prop where
  drop : arms.list.drop i = R.list
  pieces : armsP arms S.seats S.held S.places.length (S.places.length + 1) = pp ++ armsP R S.seats S.held S.places.length first
  marks : armMarks arms S.held (S.places.length + 1) = armMarks R S.held first
  lo : S.places.length + 1 ≤ first
  cn : cntArms R ≤ 1000
  sc : scArms R S.seats.length
  len : pp.length ≤ 100000
  ps : PsAt K H A C (S.marks (first - S.places.length)) due l H' ([.told a, .row .keep] ++ pp)
abbrev N_RowMaker_put_case : List Str := ["self", "told", "seats", "held", "end", "pieces", "form", "answer", "tests", "bound", "fails", "kept", "row", "at"]
theorem sc_RowMaker_put_case : FnScope N_RowMaker_put_case ["self", "told"] (defScope s_RowMaker_put_case) := ⟨rfl, rfl, rfl, by decide +kernel, rfl, by decide +kernel, by decide +kernel⟩
theorem ok_put_case (T : Txt K mg) : FnOk P w K mg base CX0 3 T.f_RowMaker_put_case T.fd_RowMaker_put_case ["self", "told"] (spPut T.C_RowMaker K isCase) := by
  refine T.F_RowMaker_put_case.ok sc_RowMaker_put_case (fun vs H Q E h => ?_) (fun cdv A outer sh H vs Q E hr h => ?_)
  · obtain ⟨A, S, due, v, t, rfl, _⟩ := h
    rfl
  · obtain ⟨A, S, due, v, t, rfl, hx, M, hv, hok, hsc, hcn, hb1, hb2, hb3, hb4, k⟩ := h
    have nd := sc_RowMaker_put_case.nd
    have G_RowMaker_mark : FnOk P w K mg base CX0 1 T.f_RowMaker_mark T.fd_RowMaker_mark ["self"] (spMark T.C_RowMaker K) := ok_mark T
    have hr_RowMaker_mark : Room 1 _ := hr.mono (by decide)
    have G_RowMaker_queue : FnOk P w K mg base CX0 1 T.f_RowMaker_queue T.fd_RowMaker_queue ["self", "pieces"] (spQueue T.C_RowMaker K) := ok_queue T
    have hr_RowMaker_queue : Room 1 _ := hr.mono (by decide)
    have G_RowMaker_tests : FnOk P w K mg base CX0 2 T.f_RowMaker_tests T.fd_RowMaker_tests ["self", "form", "root"] (spTests T.C_RowMaker K) := ok_tests T
    have hr_RowMaker_tests : Room 2 _ := hr
    refine ⟨_, (pss_cons (ps_par3 (i := 2) (j := 3) (l := 4) (by rfl) nd rfl rfl rfl (by decide) (by decide) (by decide) rfl rfl rfl (pa_cons (pe_fld (pv 0) rfl) (pa_cons (pe_fld (pv 0) rfl) (pa_cons (pe_meth0 (pv 0) T.cl_RowMaker T.m_RowMaker_mark G_RowMaker_mark hr_RowMaker_mark T.b_RowMaker_mark .nil pass0) pa_nil))) (by rfl))
          (pss_cons (ps_set (i := 5) nd rfl (Or.inl rfl) (pe_lst (pa_cons (pe_tup (pa_cons pe_str (pa_cons (pe_ix ix_tup (pv 1) pe_int (fun _ _ => rfl)) pa_nil))) (pa_cons (pe_tup (pa_cons pe_str (pa_cons (pe_tup (pa_cons pe_str pa_nil)) pa_nil))) pa_nil))))
          (pss_cons (ps_for PassesOwn.never rfl (pi_tup (pe_ix ix_tup (pv 1) pe_int (fun _ _ => rfl))) (pg_tup (by rfl) (pgs_cons (pg_name (i := 6) nd rfl (Or.inl rfl)) (pgs_cons (pg_name (i := 7) nd rfl (Or.inl rfl)) pgs_nil)))
            (pss_cons (ps_asg (pe_meth (pv 0) T.cl_RowMaker T.m_RowMaker_tests G_RowMaker_tests hr_RowMaker_tests T.b_RowMaker_tests .nil pass0 (pa_cons (pv 6) (pa_cons (pv 3) pa_nil))) (pg_tup (by rfl) (pgs_cons (pg_name (i := 8) nd rfl (Or.inl rfl)) (pgs_cons (pg_name (i := 9) nd rfl (Or.inl rfl)) (pgs_cons (pg_name (i := 10) nd rfl (Or.inl rfl)) pgs_nil)))))
            (pss_cons (ps_set (i := 11) nd rfl (Or.inl rfl) (pe_op op_sub (pe_callB call_len_seq (by rfl) T.z_len (by decide +kernel) (pa_cons (pv 10) pa_nil)) pe_int))
            (pss_cons (ps_expr (pe_bm PySem.F.plainAttrs_list PySem.F.slot_list_extend PySem.F.type_list_extend mt_extend (pv 5) (pa_cons (pe_lc (own := [("row", 12)]) (g := gName 12) (tt := tYes) rfl nd (pi_list (pv 8)) (blkOk_by (own := [("row", 12)]) (N := N_RowMaker_put_case) (sc := defScope s_RowMaker_put_case) (by decide +kernel)) (fun _ _ _ _ _ => pg_name (i := 12) nd rfl (Or.inl rfl)) (fun _ _ _ _ _ => pts_nil) (fun _ _ _ _ _ => (pe_tup (pa_cons pe_str (pa_cons (pv 12) pa_nil))))) pa_nil)))
            (pss_cons (ps_expr (pe_bm PySem.F.plainAttrs_list PySem.F.slot_list_extend PySem.F.type_list_extend mt_extend (pv 5) (pa_cons (pe_lst (pa_cons (pe_tup (pa_cons pe_str (pa_cons (pe_tup (pa_cons (pe_op op_cat (pv 2) (pv 9)) (pa_cons (pe_op op_add (pe_op op_add (pv 3) pe_int) (pv 11)) pa_nil))) pa_nil))) (pa_cons (pe_tup (pa_cons pe_str (pa_cons (pv 7) pa_nil))) pa_nil))) pa_nil)))
            (Evl.pss_cut (ps_if (pt_cmpR op_gt (pv 11) pe_int (nomark _))
              (pss_one (ps_expr (pe_bm PySem.F.plainAttrs_list PySem.F.slot_list_append PySem.F.type_list_append mt_append (pv 5) (pa_cons (pe_tup (pa_cons pe_str (pa_cons (pe_tup (pa_cons pe_str (pa_cons (pv 11) pa_nil))) pa_nil))) pa_nil))))
              pss_nil)
            (pss_cons (ps_expr (pe_bm PySem.F.plainAttrs_list PySem.F.slot_list_append PySem.F.type_list_append mt_append (pv 5) (pa_cons (pe_tup (pa_cons pe_str (pa_cons (pe_tup (pa_cons pe_str (pa_cons (pv 4) pa_nil))) pa_nil))) pa_nil)))
            (pss_cons (ps_for PassesOwn.never rfl (pi_range3 rfl T.z_range (pa_cons (pv 11) (pa_cons pe_int (pa_cons (pe_un un_neg pe_int) pa_nil)))) (pg_name (i := 13) nd rfl (Or.inl rfl))
              (pss_one (ps_expr (pe_bm PySem.F.plainAttrs_list PySem.F.slot_list_extend PySem.F.type_list_extend mt_extend (pv 5) (pa_cons (pe_lst (pa_cons (pe_tup (pa_cons pe_str (pa_cons (pe_ix ix_list (pv 10) (pv 13) (fun _ _ => rfl)) pa_nil))) (pa_cons (pe_tup (pa_cons pe_str (pa_cons (pe_tup (pa_cons pe_str (pa_cons pe_int pa_nil))) pa_nil))) pa_nil))) pa_nil)))))
            (pss_one (ps_if (pt_truth (pv 8) (by intro _; rfl))
              (pss_one (ps_expr (pe_bm PySem.F.plainAttrs_list PySem.F.slot_list_extend PySem.F.type_list_extend mt_extend (pv 5) (pa_cons (pe_lst (pa_cons (pe_tup (pa_cons pe_str (pa_cons (pe_ix ix_list (pv 10) pe_int (fun _ _ => rfl)) pa_nil))) (pa_cons (pe_tup (pa_cons pe_str (pa_cons (pe_tup (pa_cons pe_str pa_nil)) pa_nil))) pa_nil))) pa_nil))))
              pss_nil))))))))))
          (pss_one (ps_expr (pe_meth (pv 0) T.cl_RowMaker T.m_RowMaker_queue G_RowMaker_queue hr_RowMaker_queue T.b_RowMaker_queue .nil pass0 (pa_cons (pe_op op_cat (pv 5) (pe_lst (pa_cons (pe_tup (pa_cons pe_str (pa_cons (pv 4) pa_nil))) (pa_cons (pe_tup (pa_cons pe_str (pa_cons (pe_tup (pa_cons pe_str (pa_cons pe_int pa_nil))) pa_nil))) (pa_cons (pe_tup (pa_cons pe_str (pa_cons (pe_tup (pa_cons (pv 2) (pa_cons (pv 3) pa_nil))) pa_nil))) pa_nil))))) pa_nil))))))), ?_⟩
    cases t with
    | case kk a arms =>
      obtain ⟨tv, vs, rfl, hp, hvs⟩ := tr_t.mp hv
      obtain ⟨v0, q0, rfl, h0, hq0⟩ := trs_cons.mp hvs
      obtain ⟨vk, q1, rfl, hvk, hq1⟩ := trs_cons.mp hq0
      obtain ⟨va, q2, rfl, ha, hq2⟩ := trs_cons.mp hq1
      obtain ⟨vb, q3, rfl, hb, hq3⟩ := trs_cons.mp hq2
      obtain rfl := trs_nil.mp hq3
      obtain rfl := tr_s.mp h0
      obtain ⟨pb, ws, rfl, hpb, hws⟩ := tr_t.mp hb
      obtain ⟨as, h1, h1'⟩ := M.ob
      refine ⟨_, rfl, A.p, _, A.dx, _, _, rfl, h1, T.cl_RowMaker, T.n_RowMaker_seats, flds_seats, _, rfl, A.p, _, A.dx, _, _, rfl, h1, T.cl_RowMaker, T.n_RowMaker_held, flds_held, _, rfl, A.p, A.dx, _, rfl, h1, flds_no_mark, A, S, due, rfl, M, by omega, fun H1 b1 ap1 => ⟨_, _, _, rfl, ?_⟩⟩
      have M1 : MkAt K H1 A T.C_RowMaker (S.marks 1) due := M.re b1 ap1
      have kp1 : Kp A H H1 := fun b o e n1 n2 n3 n4 => b1 _ _ e n3
      have t1 := M.tex kp1
      have hp1 := t1.sq hp
      have ha1 := ha.to t1
      have hpb1 := t1.sq hpb
      have hws1 := hws.to t1
      have has1 := h1'.kp M kp1
      try dsimp only [gName, tSeq, tAsg]
      refine ps_new (ps := [.told a, .row .keep]) M1 kp1 M (pbs_cons (pb_told (x := va) (fun H s Q q => ⟨_, rfl, tv, _, _, _, rfl, rfl, (TEx.of_same s).sq hp1, rfl, q⟩) ha1) (pbs_cons (pb_row (rb_tup fun H s Q q => q)) pbs_nil)) (by simp) fun l H2 hl2 s2 Z2 => ?_
      have hp2 := (TEx.of_same s2).sq hp1
      have hpb2 := (TEx.of_same s2).sq hpb1
      have hws2 := hws1.to (TEx.of_same s2)
      have has2 := has1.same s2
      try dsimp only [gName, tSeq, tAsg]
      rw [cnt] at hcn
      rw [scT] at hsc
      have hfc := fcnt_le arms
      have hmb := armMarks_bound arms S.held (S.places.length + 1)
      have hpw := armsP_w arms S.seats S.held S.places.length (S.places.length + 1)
      have hpl := len_wPs (armsP arms S.seats S.held S.places.length (S.places.length + 1))
      refine ⟨_, rfl, tv, _, _, _, rfl, rfl, hp2, rfl, pb, rfl, ⟨_, hpb2⟩, for_tup (K := K) (a := pb) (xs := ws) (fun i σ H' => ∃ (x6 x7 x8 x9 x10 x11 x13 : Option V) (R : Arms Nm) (first : Nat) (pp : List (Piece Nm)),
        σ = [some (.ref A.p), some (.ref tv), some (.ref as), some (.int (S.held : Int)), some (.int (S.places.length : Int)), some (.ref l), x6, x7, x8, x9, x10, x11, none, x13] ∧ CaseAt K H A T.C_RowMaker S due a arms l i H' R first pp)
        ⟨none, none, none, none, none, none, none, arms, S.places.length + 1, [], rfl, rfl, rfl, rfl, Nat.le_refl _, by omega, hsc.2, by simp, by rw [show S.places.length + 1 - S.places.length = 1 by omega]; exact Z2⟩
        (fun i σ H' _ ⟨_, _, _, _, _, _, _, _, _, _, _, Z⟩ => (M.tex Z.ps.kp).sq hpb) ?_ ?_⟩
      · rintro i x σ H' hxi ⟨x6, x7, x8, x9, x10, x11, x13, R, first, pp, rfl, Y⟩
        have Z := Y.ps
        have t' := M.tex Z.kp
        obtain ⟨c, ec, hc⟩ := trs_get (hws.to t') hxi
        rw [armsT_list, List.getElem?_map] at ec
        have hdrop := Y.drop
        have hP := Y.pieces
        have hM := Y.marks
        have hlo := Y.lo
        have hcnR := Y.cn
        have hlen := Y.len
        cases R with
        | nil =>
          exfalso
          have e0 : arms.list[i]? = none := by
            have := congrArg (fun q => q[0]?) hdrop
            simpa [Arms.list] using this
          rw [e0] at ec
          cases ec
        | cons f t R' =>
          have e0 : arms.list[i]? = some (f, t) := by
            have := congrArg (fun q => q[0]?) hdrop
            simpa [Arms.list] using this
          rw [e0] at ec
          obtain rfl := Option.some.inj ec
          obtain ⟨xa, xs, rfl, hxsq, hxs⟩ := tr_t.mp hc
          obtain ⟨vf, r1, rfl, hvf, hr1⟩ := trs_cons.mp hxs
          obtain ⟨vt, r2, rfl, hvt, hr2⟩ := trs_cons.mp hr1
          obtain rfl := trs_nil.mp hr2
          rw [armMarks] at hM
          rw [cntArms] at hcnR
          rw [armsP] at hP
          have hle := armMarks_le R' S.held (first + 1 + (tests Nm f S.held first).kept)
          have el : (S.marks (first - S.places.length)).places.length = first := by rw [marks_len]; omega
          obtain ⟨as', g1, _⟩ := Z.mk'.ob
          refine ⟨xa, _, rfl, hxsq, rfl, _, _, rfl, _, _, rfl, rfl, ?_⟩
          refine ⟨_, rfl, A.p, A.dx, _, rfl, g1, flds_no_tests, _, rfl, _, rfl, A.setx l, S.marks (first - S.places.length), due, vf, f, S.held, rfl, Z.mk', hvf, by omega, by omega, fun tt lr lb lf rv H3 b3 ap3 htt hlr hlb hlf elr hrv elb elf => ?_⟩
          refine ⟨tt, _, rfl, htt, rfl, _, _, rfl, _, _, rfl, _, _, rfl, rfl, ?_⟩
          rw [el] at ap3 hrv elb elf
          obtain ⟨wv, hlw, _⟩ := Z.lst
          have nlr : lr ≠ l := (ne_of_none hlw hlr).symm
          have nlb : lb ≠ l := (ne_of_none hlw hlb).symm
          have nlf : lf ≠ l := (ne_of_none hlw hlf).symm
          have hcnt := tests_cnt (N := Nm) f S.held first
          have hbnd := tests_bound (N := Nm) f S.held first
          have hbl := bnd_le f
          have hm := ps_marks (n := 1 + (tests Nm f S.held first).kept) Z M b3 ap3
          rw [marks_marks] at hm
          obtain ⟨t3, Z3⟩ := hm
          have hvt3 := hvt.to t3
          have hap : armP f t S.seats S.held S.places.length first = (tests Nm f S.held first).rows.map .row ++ [.seats (S.seats ++ (tests Nm f S.held first).bound) (S.held + 1 + (tests Nm f S.held first).kept), .told t] ++ (if 0 < (tests Nm f S.held first).kept then [.row (.forget (tests Nm f S.held first).kept)] else []) ++ [.row (.go S.places.length)] ++ undoP first (tests Nm f S.held first).kept ++ (if (tests Nm f S.held first).rows = [] then [] else [.mark first, .row .drop]) := rfl
          rw [show first - S.places.length + (1 + (tests Nm f S.held first).kept) = first + 1 + (tests Nm f S.held first).kept - S.places.length by omega] at Z3
          rw [hap] at hP
          generalize tests Nm f S.held first = Tt at *
          have has3 := h1'.kp M Z3.kp
          have ek : (((natVs (List.range' first (Tt.kept + 1))).length : Nat) : Int) - 1 = (Tt.kept : Int) := by rw [natVs_len, List.length_range']; omega
          refine ⟨_, rfl, lf, _, rfl, .inl (SqL.of elf), _, _, rfl, rfl, ?_⟩
          try dsimp only [gName, tSeq, tAsg]
          rw [ek]
          have lp0 : ([Piece.told a, .row .keep] ++ pp).length ≤ 200000 := by simp; omega
          refine ps_ext (i := 5) (js := Tt.rows.map .row) rfl Z3 (lpb_rows (i := 8) (n := 12) rfl elr hrv (by omega) (fun x => rfl) (fun x => rfl)) (by omega) (by simp; omega) fun H4 b4 t4 Z4 => ?_
          have elr4 := b4 _ _ elr nlr
          have elb4 := b4 _ _ elb nlb
          have elf4 := b4 _ _ elf nlf
          have hrv4 := RowsOf.to t4 hrv
          have hvt4 := hvt3.to t4
          have has4 := h1'.kp M Z4.kp
          obtain ⟨wv4, hlw4, _⟩ := Z4.lst
          try dsimp only [gName, tSeq, tAsg]
          refine ps_ext (i := 5) (js := [.seats (S.seats ++ Tt.bound) (S.held + 1 + Tt.kept), .told t]) rfl Z4 (lpb_lst (pbs_cons (pb_seats (sb_cat (i := 2) (j := 9) rfl rfl has4.1 elb4 Z4.mk' hlw4 (by omega)) (fun H s Q q => ⟨_, rfl, _, _, rfl, rfl, _, rfl, _, _, rfl, rfl, ?_⟩)) (pbs_cons (pb_told (x := vt) (fun H s Q q => ⟨_, rfl, q⟩) hvt4) pbs_nil)) (by simp)) (by simp; omega) (by simp) fun H5 b5 t5 Z5 => ?_
          · show Q (.int ((S.held : Int) + 1 + (Tt.kept : Int))) H
            rw [show (S.held : Int) + 1 + (Tt.kept : Int) = ((S.held + 1 + Tt.kept : Nat) : Int) by omega]
            exact q
          have elr5 := b5 _ _ elr4 nlr
          have elf5 := b5 _ _ elf4 nlf
          -- if kept > 0
          try dsimp only [gName, tSeq, tAsg]
          refine ⟨fun σ' H'' => σ' = [some (.ref A.p), some (.ref tv), some (.ref as), some (.int (S.held : Int)), some (.int (S.places.length : Int)), some (.ref l), some vf, some vt, some (.ref lr), some (.ref lb), some (.ref lf), some (.int (Tt.kept : Int)), none, x13] ∧
            PsAt K H A T.C_RowMaker (S.marks (first + 1 + Tt.kept - S.places.length)) due l H'' ([Piece.told a, .row .keep] ++ pp ++ Tt.rows.map .row ++ [.seats (S.seats ++ Tt.bound) (S.held + 1 + Tt.kept), .told t] ++ (if 0 < Tt.kept then [.row (.forget Tt.kept)] else [])) ∧ H'' lr = some (.lst rv) ∧ H'' lf = some (.lst (natVs (List.range' first (Tt.kept + 1)))), ?_, ?_⟩
          · refine ⟨_, rfl, _, _, rfl, rfl, _, rfl, ite2 (fun z => ?_) (fun z => ?_)⟩
            · have z2 : (0 : Int) < (Tt.kept : Int) := of_decide_eq_true z
              have z3 : 0 < Tt.kept := by omega
              rw [if_pos z3]
              refine ps_app (i := 5) (p := .row (.forget Tt.kept)) rfl Z5 (pb_row (rb_tup fun H s Q q => ⟨_, rfl, q⟩)) (by simp; omega) fun H6 b6 t6 Z6 => ?_
              exact ⟨rfl, Z6, b6 _ _ elr5 nlr, b6 _ _ elf5 nlf⟩
            · have z2 : ¬ (0 : Int) < (Tt.kept : Int) := fun q => z (decide_eq_true q)
              rw [if_neg (by omega), List.append_nil]
              exact ⟨rfl, Z5, elr5, elf5⟩
          rintro σ' H6 ⟨rfl, Z6, elr6, elf6⟩
          have lopt : (if 0 < Tt.kept then [.row (.forget Tt.kept)] else [] : List (Piece Nm)).length ≤ 1 := by split <;> simp
          generalize hop : (if 0 < Tt.kept then [.row (.forget Tt.kept)] else [] : List (Piece Nm)) = op at *
          try dsimp only [gName, tSeq, tAsg]
          refine ps_app (i := 5) (p := .row (.go S.places.length)) rfl Z6 (pb_row (rb_tup fun H s Q q => ⟨_, rfl, q⟩)) (by simp; omega) fun H7 b7 t7 Z7 => ?_
          have elr7 := b7 _ _ elr6 nlr
          have elf7 := b7 _ _ elf6 nlf
          -- for at in range(kept, 0, -1)
          try dsimp only [gName, tSeq, tAsg]
          refine ⟨_, rfl, _, rfl, _, _, _, _, rfl, RgC.neg (by omega) (by omega) (by decide) (by decide), for_rangeC (lo := (Tt.kept : Int)) (c := -1) (n := _) (fun j σ H'' => ∃ x13 : Option V, σ = [some (.ref A.p), some (.ref tv), some (.ref as), some (.int (S.held : Int)), some (.int (S.places.length : Int)), some (.ref l), some vf, some vt, some (.ref lr), some (.ref lb), some (.ref lf), some (.int (Tt.kept : Int)), none, x13] ∧
            PsAt K H A T.C_RowMaker (S.marks (first + 1 + Tt.kept - S.places.length)) due l H'' (([Piece.told a, .row .keep] ++ pp ++ Tt.rows.map .row ++ [.seats (S.seats ++ Tt.bound) (S.held + 1 + Tt.kept), .told t] ++ op ++ [.row (.go S.places.length)]) ++ undoTop first Tt.kept j) ∧ H'' lr = some (.lst rv) ∧ H'' lf = some (.lst (natVs (List.range' first (Tt.kept + 1)))))
            ⟨x13, rfl, by rw [undoTop, List.append_nil]; exact Z7, elr7, elf7⟩ ?_ ?_⟩
          · rintro j σ H8 hj ⟨y13, rfl, Z8, elr8, elf8⟩
            have hj2 : j < Tt.kept := by
              have : ((Tt.kept : Int) - 0).toNat = Tt.kept := by omega
              have h9 : j < ((Tt.kept : Int) - 0).toNat := hj
              omega
            have eat : (Tt.kept : Int) + (j : Nat) * (-1) = ((Tt.kept - j : Nat) : Int) := by omega
            have lu := undoTop_len first Tt.kept j
            try dsimp only [gName, tSeq, tAsg]
            rw [eat]
            refine ps_ext (i := 5) (js := [.mark (first + (Tt.kept - j)), .row (.forget 1)]) rfl Z8 (lpb_lst (pbs_cons (pb_mark fun H s Q q => ⟨_, rfl, _, rfl, lf, _, _, _, rfl, rfl, SqL.of (s _ _ elf8), atI_nat (fails_at (by omega)), q⟩) (pbs_cons (pb_row (rb_tup fun H s Q q => q)) pbs_nil)) (by simp)) (by simp; omega) (by simp) fun H9 b9 t9 Z9 => ?_
            rw [List.append_assoc] at Z9
            exact ⟨_, rfl, by rw [undoTop]; exact Z9, b9 _ _ elr8 nlr, b9 _ _ elf8 nlf⟩
          rintro σ H8 ⟨y13, rfl, Z8, elr8, elf8⟩
          have en : ((Tt.kept : Int) - 0).toNat = Tt.kept := by omega
          rw [en] at Z8
          have hall := undoTop_all first Tt.kept Tt.kept (Nat.le_refl _)
          rw [Nat.sub_self, undoP, List.append_nil] at hall
          rw [hall] at Z8
          have lu := (undoP_simple (N := Nm) first Tt.kept).2
          have lrv : rv.length = Tt.rows.length := Paired.length hrv
          have fin : ∀ (H9 : Hp) (op2 : List (Piece Nm)), op2 = (if Tt.rows = [] then [] else [.mark first, .row .drop]) → PsAt K H A T.C_RowMaker (S.marks (first + 1 + Tt.kept - S.places.length)) due l H9 (([Piece.told a, .row .keep] ++ pp ++ Tt.rows.map .row ++ [.seats (S.seats ++ Tt.bound) (S.held + 1 + Tt.kept), .told t] ++ op ++ [.row (.go S.places.length)]) ++ undoP first Tt.kept ++ op2) →
              CaseAt K H A T.C_RowMaker S due a arms l (i + 1) H9 R' (first + 1 + Tt.kept) (pp ++ (Tt.rows.map .row ++ [.seats (S.seats ++ Tt.bound) (S.held + 1 + Tt.kept), .told t] ++ op ++ [.row (.go S.places.length)] ++ undoP first Tt.kept ++ op2)) := by
            intro H9 op2 hop2 Z9
            have hPP : armsP arms S.seats S.held S.places.length (S.places.length + 1) = (pp ++ (Tt.rows.map .row ++ [.seats (S.seats ++ Tt.bound) (S.held + 1 + Tt.kept), .told t] ++ op ++ [.row (.go S.places.length)] ++ undoP first Tt.kept ++ op2)) ++ armsP R' S.seats S.held S.places.length (first + 1 + Tt.kept) := by
              rw [hP, hop2]
              simp only [List.append_assoc]
            refine ⟨?_, hPP, hM, by omega, by omega, by have := Y.sc; rw [scArms] at this; exact this.2, ?_, ?_⟩
            · have e1 : arms.list.drop (i + 1) = (arms.list.drop i).drop 1 := by rw [List.drop_drop]
              rw [e1, hdrop]
              rfl
            · have := congrArg List.length hPP
              rw [List.length_append] at this
              omega
            · have e : ([Piece.told a, .row .keep] ++ pp ++ Tt.rows.map .row ++ [.seats (S.seats ++ Tt.bound) (S.held + 1 + Tt.kept), .told t] ++ op ++ [.row (.go S.places.length)]) ++ undoP first Tt.kept ++ op2 = [Piece.told a, .row .keep] ++ (pp ++ (Tt.rows.map .row ++ [.seats (S.seats ++ Tt.bound) (S.held + 1 + Tt.kept), .told t] ++ op ++ [.row (.go S.places.length)] ++ undoP first Tt.kept ++ op2)) := by
                simp only [List.append_assoc]
              rw [← e]
              exact Z9
          -- if tests
          refine ⟨_, rfl, _, .inl ⟨_, SqL.of elr8, rfl⟩, ?_⟩
          by_cases hz : Tt.rows = []
          · rw [hz] at lrv
            obtain rfl := List.eq_nil_of_length_eq_zero lrv
            refine iteF ?_
            exact ⟨_, _, _, _, _, _, _, R', _, _, rfl, fin H8 [] (by rw [if_pos hz]) (by rw [List.append_nil]; exact Z8)⟩
          · have hne : (!rv.isEmpty) = true := by
              cases rv with
              | nil => exact absurd (List.eq_nil_of_length_eq_zero lrv.symm) hz
              | cons _ _ => rfl
            rw [hne]
            refine iteT ?_
            refine ps_ext (i := 5) (js := [.mark first, .row .drop]) rfl Z8 (lpb_lst (pbs_cons (pb_mark fun H s Q q => ⟨_, rfl, lf, _, _, _, rfl, rfl, SqL.of (s _ _ elf8), atI_nat (j := 0) (fails_at (j := 0) (Nat.zero_le _)), q⟩) (pbs_cons (pb_row (rb_tup fun H s Q q => q)) pbs_nil)) (by simp)) (by simp; omega) (by simp) fun H9 b9 t9 Z9 => ?_
            exact ⟨_, _, _, _, _, _, _, R', _, _, rfl, fin H9 _ (by rw [if_neg hz]) Z9⟩
      · rintro σ H' ⟨x6, x7, x8, x9, x10, x11, x13, R, first, pp, rfl, Y⟩
        have lw : ws.length = arms.list.length := by rw [trs_len hws, armsT_list, List.length_map]
        have hR : R = .nil := by
          have := Y.drop
          rw [lw, List.drop_length] at this
          cases R with
          | nil => rfl
          | cons f t r => cases this
        subst hR
        have hP := Y.pieces
        have hM := Y.marks
        rw [armsP, List.append_nil] at hP
        rw [armMarks] at hM
        have Z := Y.ps
        have has' := h1'.kp M Z.kp
        have has'' : SeatsAt H' (A.setx l) as S.seats := has'.setx (by
          intro z
          have := Z.new
          rw [← z] at this
          rw [h1'.1] at this
          cases this)
        try dsimp only [gName, tSeq, tAsg]
        refine ps_queue (i := 5) (j := 0) (js := [.mark S.places.length, .row (.forget 1), .seats S.seats S.held]) rfl rfl hx Z (lpb_lst (pbs_cons (pb_mark fun H s Q q => ⟨_, rfl, q⟩) (pbs_cons (pb_row (rb_tup fun H s Q q => q)) (pbs_cons (pb_seats (sb_var (i := 2) rfl has'') (fun H s Q q => ⟨_, rfl, q⟩)) pbs_nil))) (by simp)) (by have := Y.len; simp; omega) fun H5 M5 kp5 => ?_
        rw [← hP, ← hM] at M5
        exact k H5 M5 kp5
    | loc n => exact hok.elim
    | letT a b => exact hok.elim
    | same k a b => exact hok.elim
    | call f ps => exact hok.elim
    | make k m ps => exact hok.elim
    | ifT a b c => exact hok.elim
end
end K87

set_option Elab.async false
set_option linter.all false
set_option maxRecDepth 100000
set_option maxHeartbeats 8000000
namespace K87
open PySem PySem.Spec PyProof.Rows L2 Ru Rp Mch
section
variable {P : Program} {w : World} {K : PySem.W.Frag} {mg : Str → Option Value} {base : Heap}
theorem lens : ∀ q : Tolds Nm, q.list.length ≤ cntTs q
  | .nil => Nat.le_refl _
  | .cons t r => by
    have h7 := cnt_pos t
    have := lens r
    rw [cntTs, Tolds.list, List.length_cons]
    omega
def anyTold : Told Nm → Prop := fun _ => True
abbrev N_RowMaker_put : List Str := ["self", "told", "word", "inner", "outer", "pieces", "parts", "row", "part"]
theorem sc_RowMaker_put : FnScope N_RowMaker_put ["self", "told"] (defScope s_RowMaker_put) := ⟨rfl, rfl, rfl, by decide +kernel, rfl, by decide +kernel, by decide +kernel⟩
theorem ok_put (T : Txt K mg) : FnOk P w K mg base CX0 4 T.f_RowMaker_put T.fd_RowMaker_put ["self", "told"] (spPut T.C_RowMaker K anyTold) := by
  refine T.F_RowMaker_put.ok sc_RowMaker_put (fun vs H Q E h => ?_) (fun cdv A outer sh H vs Q E hr h => ?_)
  · obtain ⟨A, S, due, v, t, rfl, _⟩ := h
    rfl
  · obtain ⟨A, S, due, v, t, rfl, hx, M, hv, hok, hsc, hcn, hb1, hb2, hb3, hb4, k⟩ := h
    have nd := sc_RowMaker_put.nd
    have G_RowMaker_queue : FnOk P w K mg base CX0 1 T.f_RowMaker_queue T.fd_RowMaker_queue ["self", "pieces"] (spQueue T.C_RowMaker K) := ok_queue T
    have hr_RowMaker_queue : Room 1 _ := hr.mono (by decide)
    have G_RowMaker_put_if : FnOk P w K mg base CX0 2 T.f_RowMaker_put_if T.fd_RowMaker_put_if ["self", "told"] (spPut T.C_RowMaker K isIf) := ok_put_if T
    have hr_RowMaker_put_if : Room 2 _ := hr.mono (by decide)
    have G_RowMaker_put_case : FnOk P w K mg base CX0 3 T.f_RowMaker_put_case T.fd_RowMaker_put_case ["self", "told"] (spPut T.C_RowMaker K isCase) := ok_put_case T
    have hr_RowMaker_put_case : Room 3 _ := hr
    refine ⟨_, (pss_cons (ps_set (i := 2) nd rfl (Or.inl rfl) (pe_ix ix_tup (pv 1) pe_int (fun _ _ => rfl)))
          (pss_one (ps_if (pt_cmpR op_eq (pv 2) pe_str (nomark _))
            (pss_one (ps_expr (pe_bm PySem.F.plainAttrs_list PySem.F.slot_list_append PySem.F.type_list_append mt_append (pe_fld (pv 0) rfl) (pa_cons (pe_tup (pa_cons pe_str (pa_cons (pe_ix ix_list (pe_fld (pv 0) rfl) (pe_ix ix_tup (pv 1) pe_int (fun _ _ => rfl)) (fun _ _ => rfl)) pa_nil))) pa_nil))))
            (pss_one (ps_if (pt_cmpR op_eq (pv 2) pe_str (nomark _))
              (pss_cons (ps_set (i := 3) nd rfl (Or.inl rfl) (pe_tup (pa_cons pe_str (pa_cons (pe_tup (pa_cons (pe_op op_cat (pe_fld (pv 0) rfl) (pe_lst (pa_cons (pe_fld (pv 0) rfl) pa_nil))) (pa_cons (pe_op op_add (pe_fld (pv 0) rfl) pe_int) pa_nil))) pa_nil))))
              (pss_cons (ps_set (i := 4) nd rfl (Or.inl rfl) (pe_tup (pa_cons pe_str (pa_cons (pe_tup (pa_cons (pe_fld (pv 0) rfl) (pa_cons (pe_fld (pv 0) rfl) pa_nil))) pa_nil))))
              (pss_cons (ps_set (i := 5) nd rfl (Or.inl rfl) (pe_lst (pa_cons (pe_tup (pa_cons pe_str (pa_cons (pe_ix ix_tup (pv 1) pe_int (fun _ _ => rfl)) pa_nil))) (pa_cons (pe_tup (pa_cons pe_str (pa_cons (pe_tup (pa_cons pe_str pa_nil)) pa_nil))) (pa_cons (pv 3) (pa_cons (pe_tup (pa_cons pe_str (pa_cons (pe_ix ix_tup (pv 1) pe_int (fun _ _ => rfl)) pa_nil))) pa_nil))))))
              (pss_one (ps_expr (pe_meth (pv 0) T.cl_RowMaker T.m_RowMaker_queue G_RowMaker_queue hr_RowMaker_queue T.b_RowMaker_queue .nil pass0 (pa_cons (pe_op op_cat (pv 5) (pe_lst (pa_cons (pe_tup (pa_cons pe_str (pa_cons (pe_tup (pa_cons pe_str (pa_cons pe_int pa_nil))) pa_nil))) (pa_cons (pv 4) pa_nil)))) pa_nil)))))))
              (pss_one (ps_if (pt_cmpR op_eq (pv 2) pe_str (nomark _))
                (pss_one (ps_expr (pe_meth (pv 0) T.cl_RowMaker T.m_RowMaker_put_if G_RowMaker_put_if hr_RowMaker_put_if T.b_RowMaker_put_if .nil pass0 (pa_cons (pv 1) pa_nil))))
                (pss_one (ps_if (pt_cmpR op_eq (pv 2) pe_str (nomark _))
                  (pss_one (ps_expr (pe_meth (pv 0) T.cl_RowMaker T.m_RowMaker_put_case G_RowMaker_put_case hr_RowMaker_put_case T.b_RowMaker_put_case .nil pass0 (pa_cons (pv 1) pa_nil))))
                  (pss_one (ps_if (pt_cmpR op_eq (pv 2) pe_str (nomark _))
                    (pss_one (ps_expr (pe_meth (pv 0) T.cl_RowMaker T.m_RowMaker_queue G_RowMaker_queue hr_RowMaker_queue T.b_RowMaker_queue .nil pass0 (pa_cons (pe_lst (pa_cons (pe_tup (pa_cons pe_str (pa_cons (pe_ix ix_tup (pv 1) pe_int (fun _ _ => rfl)) pa_nil))) (pa_cons (pe_tup (pa_cons pe_str (pa_cons (pe_ix ix_tup (pv 1) pe_int (fun _ _ => rfl)) pa_nil))) (pa_cons (pe_tup (pa_cons pe_str (pa_cons (pe_tup (pa_cons pe_str pa_nil)) pa_nil))) pa_nil)))) pa_nil))))
                    (pss_cons (ps_set (i := 6) nd rfl (Or.inl rfl) (pe_ix ix_tup (pv 1) pe_int (fun _ _ => rfl)))
                    (pss_cons (ps_set (i := 7) nd rfl (Or.inl rfl) (pe_ifExp (pt_cmpR op_eq (pv 2) pe_str (nomark _)) (pe_tup (pa_cons pe_str (pa_cons (pe_ix ix_tup (pv 1) pe_int (fun _ _ => rfl)) (pa_cons (pe_ix ix_tup (pv 1) pe_int (fun _ _ => rfl)) (pa_cons (pe_callB call_len_seq (by rfl) T.z_len (by decide +kernel) (pa_cons (pv 6) pa_nil)) pa_nil))))) (pe_tup (pa_cons pe_str (pa_cons (pe_ix ix_tup (pv 1) pe_int (fun _ _ => rfl)) (pa_cons (pe_callB call_len_seq (by rfl) T.z_len (by decide +kernel) (pa_cons (pv 6) pa_nil)) pa_nil))))))
                    (pss_one (ps_expr (pe_meth (pv 0) T.cl_RowMaker T.m_RowMaker_queue G_RowMaker_queue hr_RowMaker_queue T.b_RowMaker_queue .nil pass0 (pa_cons (pe_op op_cat (pe_lc (own := [("part", 8)]) (g := gName 8) (tt := tYes) rfl nd (pi_tup (pv 6)) (blkOk_by (own := [("part", 8)]) (N := N_RowMaker_put) (sc := defScope s_RowMaker_put) (by decide +kernel)) (fun _ _ _ _ _ => pg_name (i := 8) nd rfl (Or.inl rfl)) (fun _ _ _ _ _ => pts_nil) (fun _ _ _ _ _ => (pe_tup (pa_cons pe_str (pa_cons (pv 8) pa_nil))))) (pe_lst (pa_cons (pe_tup (pa_cons pe_str (pa_cons (pv 7) pa_nil))) pa_nil))) pa_nil))))))))))))))))), ?_⟩
    obtain ⟨tv, vs, rfl, hp, hvs⟩ := tr_t.mp (show TrAt K H v (.t (match toldT t with | .t xs => xs | _ => [])) by cases t <;> exact hv)
    have hw : ∃ rest, vs = .str t.word :: rest := by
      cases t <;> (obtain ⟨v0, q0, rfl, h0, hq0⟩ := trs_cons.mp hvs; obtain rfl := tr_s.mp h0; exact ⟨_, rfl⟩)
    obtain ⟨rest, rfl⟩ := hw
    obtain ⟨as, h1, h1'⟩ := M.ob
    refine ⟨_, rfl, tv, _, _, _, rfl, rfl, hp, atI_hd, ?_⟩
    try dsimp only [gName, tSeq, tAsg]
    cases t with
    | loc n =>
      refine ⟨_, rfl, rfl, _, rfl, isT rfl ?_⟩
      obtain ⟨v0, q0, e0, h0, hq0⟩ := trs_cons.mp hvs
      obtain ⟨vn, q1, rfl, hn, hq1⟩ := trs_cons.mp hq0
      obtain rfl := trs_nil.mp hq1
      obtain rfl := tr_i.mp hn
      cases e0
      rw [scT] at hsc
      obtain ⟨rv, h2, h2'⟩ := M.rows
      have lrv : rv.length = S.rows.length := Paired.length h2'
      have hseat : (natVs S.seats)[n]? = some (.int ((S.seats.getD n 0 : Nat) : Int)) := natVs_at (by rw [List.getD_eq_getElem?_getD, List.getElem?_eq_getElem hsc]; rfl)
      refine ⟨_, rfl, A.p, _, A.dx, _, _, rfl, h1, T.cl_RowMaker, T.n_RowMaker_rows, flds_rows, .inl ⟨rfl, _, SqL.of h2⟩, _, rfl, A.p, _, A.dx, _, _, rfl, h1, T.cl_RowMaker, T.n_RowMaker_seats, flds_seats, _, rfl, tv, _, _, _, rfl, rfl, hp, rfl, as, _, _, _, rfl, rfl, SqL.of h1'.1, atI_nat hseat, sl_le (by show 2 ≤ 10000000; decide), fun q hq => ?_⟩
      have s1 := same_new (o := .tup [.str "local", .int ((S.seats.getD n 0 : Nat) : Int)]) hq
      refine ⟨A.ar, rv, .ref q, rfl, rfl, s1 _ _ h2, sl_lt (by omega), ?_⟩
      have M1 := M.same s1
      refine k _ (M1.to_rows (rs := S.rows ++ [.loc (S.seats.getD n 0)]) (paired_append (RowsOf.to (TEx.of_same s1) h2') (.cons (show RowAt K _ (.ref q) (.loc (S.seats.getD n 0)) from ⟨q, rfl, SqT.of upd_same⟩) .nil))) ((Kp.of_same s1).trans kp_ar)
    | letT a b =>
      refine ⟨_, rfl, rfl, _, rfl, isF (nstr (by dsimp only [Told.word]; decide +kernel)) ⟨_, rfl, rfl, _, rfl, isT rfl ?_⟩⟩
      obtain ⟨v0, q0, e0, h0, hq0⟩ := trs_cons.mp hvs
      obtain ⟨va, q1, rfl, ha, hq1⟩ := trs_cons.mp hq0
      obtain ⟨vb, q2, rfl, hb, hq2⟩ := trs_cons.mp hq1
      obtain rfl := trs_nil.mp hq2
      cases e0
      have hin : PB K H _ A (tTup (tCons (tC (.str "seats")) (tCons (tTup (tCons (tOp rCat (tFld K (tVar 0) "seats") (tLst (tCons (tFld K (tVar 0) "held") tNil))) (tCons (tOp (rI0 fun i j => .int (i + j)) (tFld K (tVar 0) "held") (tC (.int 1))) tNil))) tNil))) (.seats (S.seats ++ [S.held]) (S.held + 1)) :=
        pb_seats (σ := [some (.ref A.p), some (.ref tv), some (.str "let"), none, none, none, none, none, none]) (fun H1 s1 Q1 k1 => ⟨_, rfl, A.p, _, A.dx, _, _, rfl, s1 _ _ h1, T.cl_RowMaker, T.n_RowMaker_seats, flds_seats, _, rfl, A.p, _, A.dx, _, _, rfl, s1 _ _ h1, T.cl_RowMaker, T.n_RowMaker_held, flds_held, sl_le (by show 1 ≤ 10000000; decide), fun q hq => by
          have s2 := same_new (o := .lst [.int (S.held : Int)]) hq
          refine ⟨as, q, _, _, rfl, rfl, s2 _ _ (s1 _ _ h1'.1), upd_same, sl_le (by rw [natVs_len]; simp; omega), fun r hr => ?_⟩
          obtain ⟨rv, g2, _⟩ := M.rows
          obtain ⟨dv, g3, _⟩ := M.due
          have s12 := s1.trans s2
          have hpx := s12 _ _ h1
          rw [← hx] at hpx
          refine k1 r _ (s2.trans (same_new hr)) ⟨?_, (ne_of_none (s12 _ _ g2) hr).symm, (ne_of_none (s12 _ _ M.places) hr).symm, (ne_of_none (s12 _ _ g3) hr).symm, (ne_of_none hpx hr).symm⟩
          rw [upd_same]
          simp [natVs]⟩) (fun H1 s1 Q1 q1 => ⟨_, rfl, A.p, _, A.dx, _, _, rfl, s1 _ _ h1, T.cl_RowMaker, T.n_RowMaker_held, flds_held, _, _, rfl, rfl, q1⟩)
      try dsimp only [gName, tSeq, tAsg]
      refine hin H (Same.refl _) _ fun vi H1 s1 hvi => ?_
      have M1 := M.same s1
      have h11 := s1 _ _ h1
      have has1 := h1'.same s1
      try dsimp only [gName, tSeq, tAsg]
      refine pb_seats (K := K) (H0 := H1) (A := A) (s := S.seats) (k := S.held) (fun H2 s2 Q2 k2 => ⟨_, rfl, A.p, _, A.dx, _, _, rfl, s2 _ _ h11, T.cl_RowMaker, T.n_RowMaker_seats, flds_seats, k2 as H2 (Same.refl _) (has1.same s2)⟩) (fun H2 s2 Q2 q2 => ⟨_, rfl, A.p, _, A.dx, _, _, rfl, s2 _ _ h11, T.cl_RowMaker, T.n_RowMaker_held, flds_held, q2⟩) H1 (Same.refl _) _ fun vo H2 s2 hvo => ?_
      have M2 := M1.same s2
      have hvi2 := hvi.same s2
      have hp2 := (TEx.of_same (s1.trans s2)).sq hp
      have ha2 := ha.to (TEx.of_same (s1.trans s2))
      have hb2' := hb.to (TEx.of_same (s1.trans s2))
      try dsimp only [gName, tSeq, tAsg]
      refine ps_new (ps := [.told a, .row .keep, .seats (S.seats ++ [S.held]) (S.held + 1), .told b]) M2 (Kp.of_same (s1.trans s2)) M (pbs_cons (pb_told (x := va) (fun H s Q q => ⟨_, rfl, tv, _, _, _, rfl, rfl, (TEx.of_same s).sq hp2, rfl, q⟩) ha2)
        (pbs_cons (pb_row (rb_tup fun H s Q q => q)) (pbs_cons (pb_var (i := 3) rfl hvi2) (pbs_cons (pb_told (x := vb) (fun H s Q q => ⟨_, rfl, tv, _, _, _, rfl, rfl, (TEx.of_same s).sq hp2, rfl, q⟩) hb2') pbs_nil)))) (by simp) fun l H3 hl3 s3 Z3 => ?_
      have hvo3 : PieceAt K H3 (A.setx l) vo (.seats S.seats S.held) := (hvo.setx (seats_new hl3)).same s3
      try dsimp only [gName, tSeq, tAsg]
      refine ps_queue (i := 5) (j := 0) (js := [.row (.forget 1), .seats S.seats S.held]) rfl rfl hx Z3 (lpb_lst (pbs_cons (pb_row (rb_tup fun H s Q q => q)) (pbs_cons (pb_var (i := 4) rfl hvo3) pbs_nil)) (by simp)) (by simp; omega) fun H5 M5 kp5 => ?_
      exact k H5 M5 kp5
    | ifT a b c =>
      refine ⟨_, rfl, rfl, _, rfl, isF (nstr (by dsimp only [Told.word]; decide +kernel)) ⟨_, rfl, rfl, _, rfl, isF (nstr (by dsimp only [Told.word]; decide +kernel)) ⟨_, rfl, rfl, _, rfl, isT rfl ?_⟩⟩⟩
      exact ⟨_, rfl, A.p, A.dx, _, rfl, h1, flds_no_put_if, _, rfl, A, S, due, _, _, rfl, hx, M, hv, trivial, hsc, hcn, hb1, hb2, hb3, hb4, k⟩
    | case kk a arms =>
      refine ⟨_, rfl, rfl, _, rfl, isF (nstr (by dsimp only [Told.word]; decide +kernel)) ⟨_, rfl, rfl, _, rfl, isF (nstr (by dsimp only [Told.word]; decide +kernel)) ⟨_, rfl, rfl, _, rfl, isF (nstr (by dsimp only [Told.word]; decide +kernel)) ⟨_, rfl, rfl, _, rfl, isT rfl ?_⟩⟩⟩⟩
      exact ⟨_, rfl, A.p, A.dx, _, rfl, h1, flds_no_put_case, _, rfl, A, S, due, _, _, rfl, hx, M, hv, trivial, hsc, hcn, hb1, hb2, hb3, hb4, k⟩
    | same kk a b =>
      refine ⟨_, rfl, rfl, _, rfl, isF (nstr (by dsimp only [Told.word]; decide +kernel)) ⟨_, rfl, rfl, _, rfl, isF (nstr (by dsimp only [Told.word]; decide +kernel)) ⟨_, rfl, rfl, _, rfl, isF (nstr (by dsimp only [Told.word]; decide +kernel)) ⟨_, rfl, rfl, _, rfl, isF (nstr (by dsimp only [Told.word]; decide +kernel)) ⟨_, rfl, rfl, _, rfl, isT rfl ?_⟩⟩⟩⟩⟩
      obtain ⟨v0, q0, e0, h0, hq0⟩ := trs_cons.mp hvs
      obtain ⟨vk, q1, rfl, hk, hq1⟩ := trs_cons.mp hq0
      obtain ⟨va, q2, rfl, ha, hq2⟩ := trs_cons.mp hq1
      obtain ⟨vb, q3, rfl, hb, hq3⟩ := trs_cons.mp hq2
      obtain rfl := trs_nil.mp hq3
      cases e0
      refine q_queue (j := 0) (js := [.told a, .told b, .row .same]) rfl M (lpb_lst (pbs_cons (pb_told (x := va) (fun H s Q q => ⟨_, rfl, tv, _, _, _, rfl, rfl, (TEx.of_same s).sq hp, rfl, q⟩) ha) (pbs_cons (pb_told (x := vb) (fun H s Q q => ⟨_, rfl, tv, _, _, _, rfl, rfl, (TEx.of_same s).sq hp, rfl, q⟩) hb) (pbs_cons (pb_row (rb_tup fun H s Q q => q)) pbs_nil))) (by simp)) (by simp; omega) fun H5 M5 kp5 => ?_
      exact k H5 M5 kp5
    | call f ps =>
      refine ⟨_, rfl, rfl, _, rfl, isF (nstr (by dsimp only [Told.word]; decide +kernel)) ⟨_, rfl, rfl, _, rfl, isF (nstr (by dsimp only [Told.word]; decide +kernel)) ⟨_, rfl, rfl, _, rfl, isF (nstr (by dsimp only [Told.word]; decide +kernel)) ⟨_, rfl, rfl, _, rfl, isF (nstr (by dsimp only [Told.word]; decide +kernel)) ⟨_, rfl, rfl, _, rfl, isF (nstr (by dsimp only [Told.word]; decide +kernel)) ?_⟩⟩⟩⟩⟩
      obtain ⟨v0, q0, e0, h0, hq0⟩ := trs_cons.mp hvs
      obtain ⟨v1, q1, rfl, hv1, hq1⟩ := trs_cons.mp hq0
      obtain ⟨v2, q2, rfl, hv2, hq2⟩ := trs_cons.mp hq1
      obtain ⟨v3, q3, rfl, hv3, hq3⟩ := trs_cons.mp hq2
      obtain rfl := trs_nil.mp hq3
      obtain rfl := tr_s.mp hv1
      obtain rfl := tr_s.mp hv2
      obtain ⟨pb, ws, rfl, hpb, hws⟩ := tr_t.mp hv3
      cases e0
      rw [cnt] at hcn
      have lw : ws.length = ps.list.length := by rw [trs_len hws, toldsT_list, List.length_map]
      have lps : ps.list.length ≤ cntTs ps := lens ps
      refine ⟨_, rfl, tv, _, _, _, rfl, rfl, hp, rfl, ?_⟩
      try dsimp only [gName, tSeq, tAsg]
      refine ⟨_, rfl, rfl, _, rfl, isT rfl ⟨_, rfl, tv, _, _, _, rfl, rfl, hp, rfl, _, rfl, tv, _, _, _, rfl, rfl, hp, rfl, _, rfl, pb, _, rfl, .inr hpb, sl_le (by show 4 ≤ 10000000; decide), fun q hq => ?_⟩⟩
      have s1 := same_new (o := .tup [.str "call", .str f.1, .str f.2, .int (ws.length : Int)]) hq
      have hrow : RowAt K (upd H q (.tup [.str "call", .str f.1, .str f.2, .int (ws.length : Int)])) (.ref q) (.call f ps.list.length) := ⟨q, rfl, SqT.of (by rw [upd_same, lw]; rfl)⟩
      have M1 := M.same s1
      have hpb1 := (TEx.of_same s1).sq hpb
      have hws1 := hws.to (TEx.of_same s1)
      generalize upd H q (.tup [.str "call", .str f.1, .str f.2, .int (ws.length : Int)]) = H1 at *
      try dsimp only [gName, tSeq, tAsg]
      refine q_queue (j := 0) (js := ps.list.map .told ++ [.row (.call f ps.list.length)]) rfl M1 (lpb_cat (lpb_tolds (i := 6) (n := 8) rfl hpb1 hws1 (by omega) (fun x => rfl) (fun x => rfl)) (lpb_lst (pbs_cons (pb_row (fun H s Q q => ⟨_, rfl, q _ _ (Same.refl _) (RowAt.to (TEx.of_same s) hrow)⟩)) pbs_nil) (by simp)) (by simp; omega)) (by simp; omega) fun H5 M5 kp5 => ?_
      exact k H5 M5 ((Kp.of_same s1).trans kp5)
    | make kk m ps =>
      refine ⟨_, rfl, rfl, _, rfl, isF (nstr (by dsimp only [Told.word]; decide +kernel)) ⟨_, rfl, rfl, _, rfl, isF (nstr (by dsimp only [Told.word]; decide +kernel)) ⟨_, rfl, rfl, _, rfl, isF (nstr (by dsimp only [Told.word]; decide +kernel)) ⟨_, rfl, rfl, _, rfl, isF (nstr (by dsimp only [Told.word]; decide +kernel)) ⟨_, rfl, rfl, _, rfl, isF (nstr (by dsimp only [Told.word]; decide +kernel)) ?_⟩⟩⟩⟩⟩
      obtain ⟨v0, q0, e0, h0, hq0⟩ := trs_cons.mp hvs
      obtain ⟨v1, q1, rfl, hv1, hq1⟩ := trs_cons.mp hq0
      obtain ⟨v2, q2, rfl, hv2, hq2⟩ := trs_cons.mp hq1
      obtain ⟨v3, q3, rfl, hv3, hq3⟩ := trs_cons.mp hq2
      obtain rfl := trs_nil.mp hq3
      obtain rfl := tr_i.mp hv2
      obtain ⟨pb, ws, rfl, hpb, hws⟩ := tr_t.mp hv3
      cases e0
      rw [cnt] at hcn
      have lw : ws.length = ps.list.length := by rw [trs_len hws, toldsT_list, List.length_map]
      have lps : ps.list.length ≤ cntTs ps := lens ps
      refine ⟨_, rfl, tv, _, _, _, rfl, rfl, hp, rfl, ?_⟩
      try dsimp only [gName, tSeq, tAsg]
      refine ⟨_, rfl, rfl, _, rfl, isF (nstr (by dsimp only [Told.word]; decide +kernel)) ⟨_, rfl, tv, _, _, _, rfl, rfl, hp, rfl, _, rfl, pb, _, rfl, .inr hpb, sl_le (by show 3 ≤ 10000000; decide), fun q hq => ?_⟩⟩
      have s1 := same_new (o := .tup [.str "make", .int (m : Int), .int (ws.length : Int)]) hq
      have hrow : RowAt K (upd H q (.tup [.str "make", .int (m : Int), .int (ws.length : Int)])) (.ref q) (.make (m : Int) ps.list.length) := ⟨q, rfl, SqT.of (by rw [upd_same, lw]; rfl)⟩
      have M1 := M.same s1
      have hpb1 := (TEx.of_same s1).sq hpb
      have hws1 := hws.to (TEx.of_same s1)
      generalize upd H q (.tup [.str "make", .int (m : Int), .int (ws.length : Int)]) = H1 at *
      try dsimp only [gName, tSeq, tAsg]
      refine q_queue (j := 0) (js := ps.list.map .told ++ [.row (.make (m : Int) ps.list.length)]) rfl M1 (lpb_cat (lpb_tolds (i := 6) (n := 8) rfl hpb1 hws1 (by omega) (fun x => rfl) (fun x => rfl)) (lpb_lst (pbs_cons (pb_row (fun H s Q q => ⟨_, rfl, q _ _ (Same.refl _) (RowAt.to (TEx.of_same s) hrow)⟩)) pbs_nil) (by simp)) (by simp; omega)) (by simp; omega) fun H5 M5 kp5 => ?_
      exact k H5 M5 ((Kp.of_same s1).trans kp5)
end
end K87

set_option Elab.async false
set_option linter.all false
set_option maxRecDepth 100000
set_option maxHeartbeats 8000000
namespace K87
open PySem PySem.Spec PyProof.Rows L2 Ru Rp Mch
section
variable {K : PySem.W.Frag} {H H' : Hp} {A : Ad} {C : Addr} {S : St Nm} {due : List (Piece Nm)}
theorem MkAt.re_p (M : MkAt K H A C S due) (b : But1 H H' A.p) {l : Addr} {s : List Nat} {k : Nat} (e : H' A.p = some (.ins C A.dx (flds A.ar A.ap l k A.ad))) (h : SeatsAt H A l s) : MkAt K H' A C (S.seat s k) due := by
  have kp : Kp A H H' := fun b' o e n1 n2 n3 n4 => b _ _ e n1
  have t := M.tex kp
  obtain ⟨n1, n2, n3⟩ := M.ne_p
  obtain ⟨rv, h2, h2'⟩ := M.rows
  obtain ⟨dv, h3, h3'⟩ := M.due
  exact ⟨⟨l, e, h.kp M kp⟩, ⟨rv, b _ _ h2 n1.symm, h2'.to t⟩, b _ _ M.places n2.symm, ⟨dv, b _ _ h3 n3.symm, h3'.keeps t fun _ _ q => q.kp M kp⟩, M.ne⟩
theorem plain_piece {A' : Ad} {v : V} {p : Piece Nm} (hp : (∃ t, p = .told t) ∨ ∃ r, p = .row r) (h : PieceAt K H A v p) : PieceAt K H A' v p := by
  rcases hp with ⟨t, rfl⟩ | ⟨r, rfl⟩ <;> exact h
end
theorem ixN_nat {n k : Nat} (h : k < n) : ixN n (k : Int) = some k := by
  unfold ixN
  rw [if_pos (by omega), if_pos (by omega), Int.toNat_natCast]
def writeInv (K : PySem.W.Frag) (H1 : Hp) (A : Ad) (C : Addr) (B : Nat) (v : V) (fin : St Nm) (m : Nat) (σ : L2.St) (H' : Hp) : Prop := ∃ (x2 x3 : Option V) (S : St Nm) (due : List (Piece Nm)), σ = [some (.ref A.p), some v, x2, x3, none] ∧ MkAt K H' A C S due ∧ Inv B S due ∧ runP due S = fin ∧ m = wPs due ∧ Kp A H1 H'
section
variable {P : Program} {w : World} {K : PySem.W.Frag} {mg : Str → Option Value} {base : Heap}
abbrev N_RowMaker_write : List Str := ["self", "told", "word", "piece", "row"]
theorem sc_RowMaker_write : FnScope N_RowMaker_write ["self", "told"] (defScope s_RowMaker_write) := ⟨rfl, rfl, rfl, by decide +kernel, rfl, by decide +kernel, by decide +kernel⟩
def spWrite (C : Addr) (K : PySem.W.Frag) : Sp := fun vs H Q _ => ∃ (A : Ad) (v : V) (t : Told Nm) (many : Nat), vs = [.ref A.p, v] ∧ A.x = A.p ∧ MkAt K H A C (start many) [] ∧ TrAt K H v (toldT t) ∧ scT t many ∧ cnt t ≤ 500 ∧ many ≤ 100 ∧
  ∀ (u : V) (H' : Hp), RowsAt K H' u (compile many t) → Kp A H H' → Q u H'
theorem ok_write (T : Txt K mg) : FnOk P w K mg base CX0 5 T.f_RowMaker_write T.fd_RowMaker_write ["self", "told"] (spWrite T.C_RowMaker K) := by
  refine T.F_RowMaker_write.ok sc_RowMaker_write (fun vs H Q E h => ?_) (fun cdv A outer sh H vs Q E hr h => ?_)
  · obtain ⟨A, v, t, many, rfl, _⟩ := h
    rfl
  · obtain ⟨A, v, t, many, rfl, hx, M, hv, hsc, hcn, hmany, k⟩ := h
    have nd := sc_RowMaker_write.nd
    have G_RowMaker_put : FnOk P w K mg base CX0 4 T.f_RowMaker_put T.fd_RowMaker_put ["self", "told"] (spPut T.C_RowMaker K anyTold) := ok_put T
    have hr_RowMaker_put : Room 4 _ := hr
    have G_RowMaker_aimed : FnOk P w K mg base CX0 1 T.f_RowMaker_aimed T.fd_RowMaker_aimed ["self", "row"] (spAimed T.C_RowMaker K) := ok_aimed T
    have hr_RowMaker_aimed : Room 1 _ := hr.mono (by decide)
    refine ⟨_, (pss_cons (ps_fld (pv 0) (pe_lst (pa_cons (pe_tup (pa_cons pe_str (pa_cons (pe_tup (pa_cons pe_str pa_nil)) pa_nil))) (pa_cons (pe_tup (pa_cons pe_str (pa_cons (pv 1) pa_nil))) pa_nil))) rfl)
          (pss_cons (ps_while PassesOwn.never (pt_truth (pe_fld (pv 0) rfl) (by intro _; rfl))
            (pss_cons (ps_asg (pe_bm0 PySem.F.plainAttrs_list PySem.F.slot_list_pop PySem.F.type_list_pop mt_pop (pe_fld (pv 0) rfl)) (pg_tup (by rfl) (pgs_cons (pg_name (i := 2) nd rfl (Or.inl rfl)) (pgs_cons (pg_name (i := 3) nd rfl (Or.inl rfl)) pgs_nil))))
            (pss_one (ps_if (pt_cmpR op_eq (pv 2) pe_str (nomark _))
              (pss_one (ps_expr (pe_meth (pv 0) T.cl_RowMaker T.m_RowMaker_put G_RowMaker_put hr_RowMaker_put T.b_RowMaker_put .nil pass0 (pa_cons (pv 3) pa_nil))))
              (pss_one (ps_if (pt_cmpR op_eq (pv 2) pe_str (nomark _))
                (pss_one (ps_expr (pe_bm PySem.F.plainAttrs_list PySem.F.slot_list_append PySem.F.type_list_append mt_append (pe_fld (pv 0) rfl) (pa_cons (pv 3) pa_nil))))
                (pss_one (ps_if (pt_cmpR op_eq (pv 2) pe_str (nomark _))
                  (pss_one (ps_asg (pe_callB call_len_seq (by rfl) T.z_len (by decide +kernel) (pa_cons (pe_fld (pv 0) rfl) pa_nil)) (pg_sub (pe_fld (pv 0) rfl) (pv 3) set_list)))
                  (pss_one (ps_asg (pv 3) (pg_tup (by rfl) (pgs_cons (Ru.pg_fld (pv 0)) (pgs_cons (Ru.pg_fld (pv 0)) pgs_nil)))))))))))))
          (pss_one (ps_ret (pe_callTy call_tuple_of (by rfl) T.z_tuple (by decide +kernel) (pa_cons (pe_lc (own := [("row", 4)]) (g := gName 4) (tt := tYes) rfl nd (pi_list (pe_fld (pv 0) rfl)) (blkOk_by (own := [("row", 4)]) (N := N_RowMaker_write) (sc := defScope s_RowMaker_write) (by decide +kernel)) (fun _ _ _ _ _ => pg_name (i := 4) nd rfl (Or.inl rfl)) (fun _ _ _ _ _ => pts_nil) (fun _ _ _ _ _ => (pe_meth (pv 0) T.cl_RowMaker T.m_RowMaker_aimed G_RowMaker_aimed hr_RowMaker_aimed T.b_RowMaker_aimed .nil pass0 (pa_cons (pv 4) pa_nil)))) pa_nil)))))), ?_⟩
    obtain ⟨as, h1, h1'⟩ := M.ob
    obtain ⟨n1, n2, n3⟩ := M.ne_p
    obtain ⟨m1, m2, m3⟩ := M.ne
    obtain ⟨rv0, h2, h2'⟩ := M.rows
    -- self.due = ..
    have hdisp := pbs_cons (K := K) (H0 := H) (σ := [some (.ref A.p), some v, none, none, none]) (A := A) (pb_row (r := .back) (te := tTup (tCons (tC (.str "back")) tNil)) (rb_tup fun H s Q q => q)) (pbs_cons (pb_told (te := tVar 1) (x := v) (fun H s Q q => ⟨_, rfl, q⟩) hv) pbs_nil)
    dsimp only [tSeq, sFld, tLst]
    refine hdisp H (Same.refl _) _ fun dv H1 s1 hdv => ⟨sl_le (by rw [pieces_len hdv]; simp), fun ad had => ?_⟩
    have s2 := same_new (o := .lst dv) had
    have s12 := s1.trans s2
    refine ⟨_, rfl, A.p, _, A.dx, _, rfl, s12 _ _ h1, T.cl_RowMaker, T.n_RowMaker_due, (by show 5 < 1000; decide), ?_⟩
    rw [put_due]
    have hdv2 := hdv.same s2
    have ead2 := upd_same (H := H1) (a := ad) (o := .lst dv)
    have npd : A.p ≠ ad := ne_of_none (s1 _ _ h1) had
    have nrd : A.ar ≠ ad := ne_of_none (s1 _ _ h2) had
    have nap : A.ap ≠ ad := ne_of_none (s1 _ _ M.places) had
    have nas : as ≠ ad := ne_of_none (s1 _ _ h1'.1) had
    have had0 : H ad = none := s1.free had
    generalize upd H1 ad (.lst dv) = H2 at *
    have b3 : But1 H2 (upd H2 A.p (.ins T.C_RowMaker A.dx (flds A.ar A.ap as (start (N := Nm) many).held ad))) A.p := fun b o e n => by rw [upd_ne n]; exact e
    have e3 := upd_same (H := H2) (a := A.p) (o := .ins T.C_RowMaker A.dx (flds A.ar A.ap as (start (N := Nm) many).held ad))
    generalize upd H2 A.p (.ins T.C_RowMaker A.dx (flds A.ar A.ap as (start (N := Nm) many).held ad)) = H3 at *
    have kp3 : Kp A H H3 := fun b o e z1 z2 z3 z4 => b3 _ _ (s12 _ _ e) z1
    have t3 := M.tex kp3
    obtain ⟨d1, dr, rfl, hd1, hdr⟩ : ∃ d1 dr, dv = d1 :: dr ∧ PieceAt K H2 A d1 (.row .back) ∧ PiecesAt K H2 A dr [.told t] := by
      cases hdv2 with
      | cons f g => exact ⟨_, _, rfl, f, g⟩
    obtain ⟨d2, rfl, hd2⟩ : ∃ d2, dr = [d2] ∧ PieceAt K H2 A d2 (.told t) := by
      cases hdr with
      | cons f g => cases g; exact ⟨_, rfl, f⟩
    have t23 : TEx H2 H3 := fun a zs r => by
      have n := ins_not_tup (s12 _ _ h1) r
      rcases r with r | ⟨o, r⟩
      · exact Or.inl (b3 _ _ r n)
      · exact Or.inr ⟨o, b3 _ _ r n⟩
    have M3 : MkAt K H3 { A with ad := ad } T.C_RowMaker (start many) [.told t, .row .back] := by
      refine ⟨⟨as, e3, b3 _ _ (s12 _ _ h1'.1) (M.not_p h1'), h1'.2.1, h1'.2.2.1, nas, h1'.2.2.2.2⟩, ⟨rv0, b3 _ _ (s12 _ _ h2) n1.symm, h2'.to t3⟩, b3 _ _ (s12 _ _ M.places) n2.symm, ⟨[d2, d1], ?_, .cons ?_ (.cons ?_ .nil)⟩, ⟨m1, nrd, nap⟩⟩
      · exact b3 _ _ ead2 npd.symm
      · exact (plain_piece (.inl ⟨t, rfl⟩) hd2 : PieceAt K H2 { A with ad := ad } d2 (.told t)).keeps (A := { A with ad := ad }) t23 fun q s hq => ⟨b3 _ _ hq.1 (ne_of hq.1 (s12 _ _ h1) (by intro z; cases z)), hq.2⟩
      · exact (plain_piece (.inr ⟨.back, rfl⟩) hd1 : PieceAt K H2 { A with ad := ad } d1 (.row .back)).keeps (A := { A with ad := ad }) t23 fun q s hq => ⟨b3 _ _ hq.1 (ne_of hq.1 (s12 _ _ h1) (by intro z; cases z)), hq.2⟩
    have I3 : Inv (40 * cnt t + 1 + many) (start (N := Nm) many) [.told t, .row .back] := by
      have el : (start (N := Nm) many).seats.length = many := by simp [start]
      refine ⟨?_, fun p hp => ?_, fun r hr => (by cases hr), ?_, ?_⟩
      · rw [el]
        refine ⟨hsc, ?_, ?_, ?_⟩
        · simp only [wPs, wP]; omega
        · simp only [wPs, wP]; omega
        · show many ≤ _; omega
      · simp at hp
        rcases hp with rfl | rfl <;> trivial
      · simp only [wPs, wP, start, List.length_nil]; omega
      · simp only [wPs, wP, start, List.length_nil]; omega
    have hx3 : ({ A with ad := ad } : Ad).x = ({ A with ad := ad } : Ad).p := hx
    have kpA : ∀ H', Kp { A with ad := ad } H3 H' → Kp A H H' := fun H' kq b o e z1 z2 z3 z4 => kq b o (kp3 _ _ e z1 z2 z3 z4) z1 z2 z3 (ne_of_none e had0)
    have kfin : ∀ (u : V) (H' : Hp), RowsAt K H' u ((runP [.told t, .row .back] (start (N := Nm) many)).rows.map (aim (runP [.told t, .row .back] (start (N := Nm) many)).places)) → Kp { A with ad := ad } H3 H' → Q u H' := fun u H' hu kq => k u H' hu (kpA H' kq)
    have eAp : A.p = ({ A with ad := ad } : Ad).p := rfl
    rw [eAp] at *
    generalize ({ A with ad := ad } : Ad) = A2 at *
    generalize hF : runP [.told t, .row .back] (start (N := Nm) many) = fin at *
    clear hdisp hd1 hd2 hdv hdv2 hdr t23 kpA h1 n1 n2 n3 npd e3 b3 hx t3 kp3
    refine ⟨writeInv K H3 A2 T.C_RowMaker (40 * cnt t + 1 + many) v fin, ⟨_, none, none, _, _, rfl, M3, I3, hF, rfl, Kp.refl _ _⟩, ?_⟩
    rintro m σ H4 ⟨x2, x3, S, due, rfl, M4, I4, hrun, rfl, kp4⟩
    obtain ⟨as4, g1, g1'⟩ := M4.ob
    obtain ⟨dv, g3, g3'⟩ := M4.due
    obtain ⟨rv, g2, g2'⟩ := M4.rows
    refine ⟨_, rfl, A2.p, _, A2.dx, _, _, rfl, g1, T.cl_RowMaker, T.n_RowMaker_due, flds_due, _, .inl ⟨_, SqL.of g3, rfl⟩, ?_⟩
    cases due with
    | nil =>
      cases g3'
      refine iteF ?_
      have hS : S = fin := hrun
      subst hS
      have lrv : rv.length = S.rows.length := Paired.length g2'
      have hrb := I4.rb
      refine ⟨_, rfl, A2.p, _, A2.dx, _, _, rfl, g1, T.cl_RowMaker, T.n_RowMaker_rows, flds_rows, A2.ar, rfl, ⟨_, SqL.of g2⟩, fun D hD => lc_list (K := K) (a := A2.ar) (xs := rv) (fun j H' => ∃ ws, Same H4 H' ∧ H' D = some (.lst ws) ∧ RowsOf K H' ws ((S.rows.take j).map (aim S.places))) ⟨[], same_new hD, upd_same, .nil⟩ (fun j H' _ ⟨ws, sm, _⟩ => SqL.of (sm _ _ g2)) ?_ ?_⟩
      · rintro j x H5 hx ⟨ws, sm, eD, hws⟩
        have lw : ws.length = ((S.rows.take j).map (aim S.places)).length := Paired.length hws
        rw [List.length_map, List.length_take] at lw
        have hj : j < S.rows.length := by
          have := (List.getElem?_eq_some_iff.mp hx).1
          omega
        obtain ⟨y, e1, e2⟩ := paired_get g2' (List.getElem?_eq_getElem hj)
        rw [hx] at e1
        cases e1
        have M5 := M4.same sm
        obtain ⟨as5, q1, _⟩ := M5.ob
        refine ⟨rfl, ?_⟩
        refine ⟨_, rfl, A2.p, A2.dx, _, rfl, q1, flds_no_aimed, _, rfl, A2, S, [], x, S.rows[j], rfl, M5, RowAt.to (TEx.of_same sm) e2, I4.rm _ (List.getElem_mem hj), fun u H6 hu s6 => ?_⟩
        have eD6 := s6 _ _ eD
        have t6 := TEx.upd_lst (ys := ws ++ [u]) eD6
        refine ⟨ws, eD6, sl_lt (by omega), ws ++ [u], fun b o e => ?_, upd_same, ?_⟩
        · rw [upd_ne (ne_of_none e hD)]
          exact s6 _ _ (sm _ _ e)
        · have et : (S.rows.take (j + 1)).map (aim S.places) = (S.rows.take j).map (aim S.places) ++ [aim S.places S.rows[j]] := by
            rw [List.take_succ, List.getElem?_eq_getElem hj, List.map_append]; rfl
          rw [et]
          exact paired_append (RowsOf.to t6 (RowsOf.to (TEx.of_same s6) hws)) (.cons (RowAt.to t6 hu) .nil)
      · rintro H5 ⟨ws, sm, eD, hws⟩
        rw [lrv, List.take_length] at hws
        refine ⟨D, ws, rfl, .inl ⟨SqL.of eD, fun q hq => ?_⟩⟩
        have s6 := same_new (o := .tup ws) hq
        exact kfin _ _ ⟨q, ws, rfl, SqT.of upd_same, RowsOf.to (TEx.of_same s6) hws⟩ (kp4.trans ((Kp.of_same sm).trans (Kp.of_same s6)))
    | cons pc R =>
      obtain ⟨d, dr, rfl, hd, hdr⟩ : ∃ d dr, dv = d :: dr ∧ PieceAt K H4 A2 d pc ∧ PiecesAt K H4 A2 dr R := by
        cases g3' with
        | cons f g => exact ⟨_, _, rfl, f, g⟩
      refine (?_ : (if (!((d :: dr).reverse).isEmpty) = true then _ else _))
      rw [show (!((d :: dr).reverse).isEmpty) = true by simp]
      refine iteT ⟨fun σ' H'' => ∃ m', m' < wPs (pc :: R) ∧ writeInv K H3 A2 T.C_RowMaker (40 * cnt t + 1 + many) v fin m' σ' H'', fun _ _ q => q, ?_⟩
      have hrev : (d :: dr).reverse = dr.reverse ++ [d] := by simp
      rw [hrev] at g3
      refine ⟨_, rfl, A2.p, _, A2.dx, _, _, rfl, g1, T.cl_RowMaker, T.n_RowMaker_due, flds_due, .inl ⟨rfl, _, SqL.of g3⟩, A2.ad, _, d, rfl, rfl, g3, by simp, ?_⟩
      rw [List.dropLast_concat]
      have M5 := M4.to_due hdr
      have kp5 : Kp A2 H4 (upd H4 A2.ad (.lst dr.reverse)) := kp_ad
      have t5 := M4.tex kp5
      obtain ⟨a, x, rfl, hsq, hpay⟩ := hd.keeps t5 fun _ _ q => q.kp M4 kp5
      have kp35 := kp4.trans kp5
      clear g3 hdr g1 g2 g2' g1'
      generalize upd H4 A2.ad (.lst dr.reverse) = H5 at *
      obtain ⟨as5, g1, g1'⟩ := M5.ob
      obtain ⟨rv5, g2, g2'⟩ := M5.rows
      have lrv : rv5.length = S.rows.length := Paired.length g2'
      refine ⟨a, _, rfl, hsq, rfl, _, _, rfl, _, _, rfl, rfl, ?_⟩
      obtain ⟨I5, hlt⟩ := inv_step I4
      have hrun5 : runP (stepP pc S ++ R) (stepS pc S) = fin := by rw [step_run]; exact hrun
      have hsl := sane_le I4.sane
      have hrb := I4.rb
      have hpb := I4.pb
      have hlen := len_wPs R
      have hwR : wPs (pc :: R) = wP pc + wPs R := rfl
      have hwp := wP_pos pc
      cases pc with
      | told t0 =>
        refine ⟨_, rfl, rfl, _, rfl, isT rfl ?_⟩
        have hw0 : wP (.told t0) = 40 * cnt t0 := rfl
        have hs0 : scT t0 S.seats.length := I4.sane.1
        refine ⟨_, rfl, A2.p, A2.dx, _, rfl, g1, flds_no_put, _, rfl, A2, S, R, x, t0, rfl, hx3, M5, hpay, trivial, hs0, by omega, by omega, by omega, by omega, by omega, fun H6 M6 kp6 => ?_⟩
        exact ⟨_, hlt, _, _, _, _, rfl, M6, I5, hrun5, rfl, kp35.trans kp6⟩
      | row r =>
        refine ⟨_, rfl, rfl, _, rfl, isF (nstr (by dsimp only [Piece.word]; decide +kernel)) ⟨_, rfl, rfl, _, rfl, isT rfl ?_⟩⟩
        refine ⟨_, rfl, A2.p, _, A2.dx, _, _, rfl, g1, T.cl_RowMaker, T.n_RowMaker_rows, flds_rows, .inl ⟨rfl, _, SqL.of g2⟩, _, rfl, A2.ar, rv5, x, rfl, rfl, g2, sl_lt (by omega), ?_⟩
        exact ⟨_, hlt, _, _, _, _, rfl, M5.to_rows (paired_append g2' (.cons hpay .nil)), I5, hrun5, rfl, kp35.trans kp_ar⟩
      | mark kk =>
        refine ⟨_, rfl, rfl, _, rfl, isF (nstr (by dsimp only [Piece.word]; decide +kernel)) ⟨_, rfl, rfl, _, rfl, isF (nstr (by dsimp only [Piece.word]; decide +kernel)) ⟨_, rfl, rfl, _, rfl, isT rfl ?_⟩⟩⟩
        have hk : kk < S.places.length := I4.pm _ List.mem_cons_self
        obtain rfl : x = .int (kk : Int) := hpay
        refine ⟨_, rfl, A2.p, _, A2.dx, _, _, rfl, g1, T.cl_RowMaker, T.n_RowMaker_rows, flds_rows, A2.ar, _, rfl, .inl (SqL.of g2), _, rfl, A2.p, _, A2.dx, _, _, rfl, g1, T.cl_RowMaker, T.n_RowMaker_places, flds_places, _, rfl, A2.ap, _, _, kk, rfl, rfl, M5.places, ?_, ?_⟩
        · rw [natVs_len]
          exact ixN_nat hk
        · rw [lrv, natVs_set]
          exact ⟨_, hlt, _, _, _, _, rfl, M5.to_places (S.places.set kk S.rows.length), I5, hrun5, rfl, kp35.trans kp_ap⟩
      | seats ss kk =>
        refine ⟨_, rfl, rfl, _, rfl, isF (nstr (by dsimp only [Piece.word]; decide +kernel)) ⟨_, rfl, rfl, _, rfl, isF (nstr (by dsimp only [Piece.word]; decide +kernel)) ⟨_, rfl, rfl, _, rfl, isF (nstr (by dsimp only [Piece.word]; decide +kernel)) ?_⟩⟩⟩
        obtain ⟨b, l, rfl, hb, hl⟩ := hpay
        refine ⟨_, rfl, b, _, rfl, hb, rfl, _, _, rfl, _, rfl, A2.p, _, A2.dx, _, rfl, g1, T.cl_RowMaker, T.n_RowMaker_seats, (by show 5 < 1000; decide), ?_⟩
        rw [put_seats]
        refine ⟨_, _, rfl, _, rfl, A2.p, _, A2.dx, _, rfl, upd_same, T.cl_RowMaker, T.n_RowMaker_held, (by show 5 < 1000; decide), rfl, ?_⟩
        rw [put_held]
        have b7 : But1 H5 (upd (upd H5 A2.p (.ins T.C_RowMaker A2.dx (flds A2.ar A2.ap l S.held A2.ad))) A2.p (.ins T.C_RowMaker A2.dx (flds A2.ar A2.ap l kk A2.ad))) A2.p := fun b' o e n => by rw [upd_ne n, upd_ne n]; exact e
        exact ⟨_, hlt, _, _, _, _, rfl, M5.re_p b7 upd_same hl, I5, hrun5, rfl, kp35.trans fun b' o e z1 z2 z3 z4 => b7 _ _ e z1⟩
end
end K87

set_option Elab.async false
set_option linter.all false
set_option maxRecDepth 100000
set_option maxHeartbeats 8000000
namespace K87
open PySem PySem.Spec PyProof.Rows L2 Ru Rp Mch
section
variable {P : Program} {w : World} {K : PySem.W.Frag} {mg : Str → Option Value} {base : Heap}
abbrev N_rows_of : List Str := ["core"]
theorem sc_rows_of : FnScope N_rows_of ["core"] (defScope s_rows_of) := ⟨rfl, rfl, rfl, by decide +kernel, rfl, by decide +kernel, by decide +kernel⟩
def spRowsOf (K : PySem.W.Frag) : Sp := fun vs H Q _ => ∃ (c g : Addr) (gv : List V) (v1 v2 : V) (t : Told Nm), vs = [.ref c] ∧ SqT K H c [.ref g, v1, v2] ∧ SqT K H g gv ∧ TrAt K H v2 (toldT t) ∧ scT t gv.length ∧ cnt t ≤ 500 ∧ gv.length ≤ 100 ∧
  ∀ (u : V) (H' : Hp), RowsAt K H' u (compile gv.length t) → Same H H' → Q u H'
theorem ok_rows_of (T : Txt K mg) : FnOk P w K mg base CX0 6 T.f_rows_of T.fd_rows_of ["core"] (spRowsOf K) := by
  refine T.F_rows_of.ok sc_rows_of (fun vs H Q E h => ?_) (fun cdv A outer sh H vs Q E hr h => ?_)
  · obtain ⟨c, g, gv, v1, v2, t, rfl, _⟩ := h
    rfl
  · obtain ⟨c, g, gv, v1, v2, t, rfl, hc, hg, hv, hsc, hcn, hgl, k⟩ := h
    have nd := sc_rows_of.nd
    have G_RowMaker___init__ : FnOk P w K mg base CX0 1 T.f_RowMaker___init__ T.fd_RowMaker___init__ ["self", "many"] (spInit T.C_RowMaker K) := ok_init T
    have hrm_RowMaker___init__ : Room (1 + 1) _ := hr.mono (by decide)
    have G_RowMaker_write : FnOk P w K mg base CX0 5 T.f_RowMaker_write T.fd_RowMaker_write ["self", "told"] (spWrite T.C_RowMaker K) := ok_write T
    have hr_RowMaker_write : Room 5 _ := hr
    refine ⟨_, (pss_one (ps_ret (pe_meth (pe_make T.mk_RowMaker G_RowMaker___init__ hrm_RowMaker___init__ rfl T.g_RowMaker T.b_RowMaker___init__ .nil pass0 (pa_cons (pe_callB call_len_seq (by rfl) T.z_len (by decide +kernel) (pa_cons (pe_ix ix_tup (pv 0) pe_int (fun _ _ => rfl)) pa_nil)) pa_nil)) T.cl_RowMaker T.m_RowMaker_write G_RowMaker_write hr_RowMaker_write T.b_RowMaker_write .nil pass0 (pa_cons (pe_ix ix_tup (pv 0) pe_int (fun _ _ => rfl)) pa_nil)))), ?_⟩
    refine ⟨_, rfl, c, _, _, _, rfl, rfl, hc, rfl, g, gv, rfl, .inr hg, fun x dx hx hdx hne => ?_⟩
    have nxd : x ≠ dx := hne.symm
    have s0 : Same H (upd (upd H dx (.own x)) x (.ins T.C_RowMaker dx [])) := fun b o e => by
      rw [upd_ne (ne_of_none e hx), upd_ne (ne_of_none e hdx)]
      exact e
    refine ⟨x, dx, gv.length, rfl, upd_same, by omega, fun A2 H2 ep ex f1 f2 f3 M2 b2 => ⟨rfl, ?_⟩⟩
    have s2 : Same H H2 := fun b o e => b2 _ _ (s0 _ _ e) (ne_of_none e hx)
    have t2 := TEx.of_same s2
    subst ep
    obtain ⟨as, g1, g1'⟩ := M2.ob
    refine ⟨A2.p, A2.dx, _, rfl, g1, flds_no_write, _, rfl, c, _, _, _, rfl, rfl, t2.sq hc, rfl, A2, v2, t, gv.length, rfl, ex, M2, hv.to t2, hsc, hcn, hgl, fun u H3 hu kp => ?_⟩
    refine k u H3 hu fun b o e => kp _ _ (s2 _ _ e) (ne_of_none e hx) ?_ ?_ ?_
    · exact ne_of_none (s0 _ _ e) f1
    · exact ne_of_none (s0 _ _ e) f2
    · exact ne_of_none (s0 _ _ e) f3
end
end K87

set_option Elab.async false
set_option linter.all false
set_option maxRecDepth 100000
set_option maxHeartbeats 4000000
namespace K87
open PySem PySem.Spec PyProof.Rows L2 Ru Rp Mch
theorem snoc_of {α : Type} {l : List α} (h : l ≠ []) : ∃ q x, l = q ++ [x] := ⟨l.dropLast, l.getLast h, (List.dropLast_concat_getLast h).symm⟩
theorem last_at {α : Type} (q : List α) (x : α) : (q ++ [x])[(q ++ [x]).length - 1]? = some x := by simp
theorem But1.of_same {H H' : Hp} {l : Addr} (a : Same H H') : But1 H H' l := fun x o e _ => a x o e
def natsV (ns : List Nat) : List V := ns.map fun (n : Nat) => V.int (n : Int)
/-- a deck: a list of numbers that are not negative -/
def DeckAt (H : Hp) (a : Addr) : Prop := ∃ ns : List Nat, ns.length ≤ 100000 ∧ H a = some (.lst (natsV ns))
theorem DeckAt.tex {H H' : Hp} {a : Addr} (d : DeckAt H a) (k : But1 H H' a) : TEx H H' := by
  obtain ⟨ns, _, h⟩ := d
  exact TEx.but2 h h fun b o e n _ => k b o e n
theorem fmod_nat (a b : Nat) : Int.fmod (a : Int) (b : Int) = ((a % b : Nat) : Int) := by
  rw [Int.fmod_eq_emod_of_nonneg _ (by omega)]; omega
section
variable {P : Program} {w : World} {K : PySem.W.Frag} {mg : Str → Option Value} {base : Heap}
abbrev N__law_take : List Str := ["deck", "many"]
theorem sc__law_take : FnScope N__law_take ["deck", "many"] (defScope s__law_take) := ⟨rfl, rfl, rfl, by decide +kernel, rfl, by decide +kernel, by decide +kernel⟩
def spTake : Sp := fun vs H Q _ => ∃ (a : Addr) (m : Nat), vs = [.ref a, .int (m : Int)] ∧ 0 < m ∧ DeckAt H a ∧ ∀ (r : Nat) (H' : Hp), r < m → But1 H H' a → DeckAt H' a → Q (.int (r : Int)) H'
theorem ok_take (T : Txt K mg) : FnOk P w K mg base CX0 1 T.f__law_take T.fd__law_take ["deck", "many"] spTake := by
  refine T.F__law_take.ok sc__law_take (fun vs H Q E h => ?_) (fun cdv A outer sh H vs Q E hr h => ?_)
  · obtain ⟨a, m, rfl, _⟩ := h
    rfl
  · obtain ⟨a, m, rfl, hm, ⟨ns, hz, ha⟩, k⟩ := h
    have nd := sc__law_take.nd
    refine ⟨_, (pss_cons (ps_if (pt_cmpR op_eq (pe_callB call_len_seq (by rfl) T.z_len (by decide +kernel) (pa_cons (pv 0) pa_nil)) pe_int (nomark _))
            (pss_one (ps_ret pe_int))
            pss_nil)
          (pss_one (ps_ret (pe_op op_modN (pe_callTy call_int1 (by rfl) T.z_int (by decide +kernel) (pa_cons (pe_bm0 PySem.F.plainAttrs_list PySem.F.slot_list_pop PySem.F.type_list_pop mt_pop (pv 0)) pa_nil)) (pv 1))))), ?_⟩
    refine ⟨_, rfl, a, _, rfl, .inl (SqL.of ha), rfl, _, rfl, ?_⟩
    by_cases he : ns = []
    · subst he
      exact isT rfl (k 0 H hm (fun b o e _ => e) ⟨[], hz, ha⟩)
    · obtain ⟨q, n, rfl⟩ := snoc_of he
      refine isF (fun z => ?_) ?_
      · injection z with z
        simp [natsV] at z
        omega
      · have eq : natsV (q ++ [n]) = natsV q ++ [V.int (n : Int)] := by simp [natsV]
        rw [eq] at ha
        refine ⟨_, rfl, .inl ⟨rfl, _, SqL.of ha⟩, a, _, _, rfl, rfl, ha, last_at _ _, ?_⟩
        rw [List.dropLast_concat]
        refine .inl ⟨_, rfl, _, rfl, _, _, rfl, rfl, (by show (m : Int) ≠ 0; omega), ?_⟩
        have kk := k (n % m) (upd H a (.lst (natsV q))) (Nat.mod_lt _ hm) (fun b o e n => by rw [upd_ne n]; exact e) ⟨q, by simp at hz; omega, upd_same⟩
        rw [← fmod_nat] at kk
        exact kk
abbrev N__law_deck : List Str := ["script", "many", "rest", "cell", "deck", "k", "drawn", "at", "one", "two"]
theorem sc__law_deck : FnScope N__law_deck ["script", "many"] (defScope s__law_deck) := ⟨rfl, rfl, rfl, by decide +kernel, rfl, by decide +kernel, by decide +kernel⟩
def spDeck (K : PySem.W.Frag) : Sp := fun vs H Q _ => ∃ (a : Addr) (ns : List Int) (m : Nat), vs = [.ref a, .int (m : Int)] ∧ SqL K H a (ns.map V.int) ∧ ns.length ≤ 63 ∧ m ≤ 1000 ∧ ∀ (p : Addr) (H' : Hp), H p = none → Same H H' → DeckAt H' p → Q (.ref p) H'
theorem ok_deck (T : Txt K mg) : FnOk P w K mg base CX0 1 T.f__law_deck T.fd__law_deck ["script", "many"] (spDeck K) := by
  refine T.F__law_deck.ok sc__law_deck (fun vs H Q E h => ?_) (fun cdv A outer sh H vs Q E hr h => ?_)
  · obtain ⟨a, ns, m, rfl, _⟩ := h
    rfl
  · obtain ⟨a, ns, m, rfl, ha, hz, hm, k⟩ := h
    have nd := sc__law_deck.nd
    refine ⟨_, (pss_cons (ps_setLc (i := 2) (own := [("cell", 3)]) (g := gName 3) (tt := tYes) rfl nd rfl rfl (sw_true rfl rfl rfl (by decide +kernel)) (pi_list (pv 0)) (blkOk_by (own := [("cell", 3)]) (N := N__law_deck) (sc := defScope s__law_deck) (by decide +kernel)) (fun _ _ _ _ _ => pg_name (i := 3) nd rfl (Or.inl rfl)) (fun _ _ _ _ _ => pts_nil) (fun _ _ _ _ _ => (pv 3)))
          (pss_cons (ps_set (i := 4) nd rfl (Or.inl rfl) (pe_lst pa_nil))
          (pss_cons (ps_for PassesOwn.never rfl (pi_range1 rfl T.z_range (pa_cons (pv 1) pa_nil)) (pg_name (i := 5) nd rfl (Or.inl rfl))
            (pss_cons (ps_set (i := 6) nd rfl (Or.inl rfl) (pe_un un_neg pe_int))
            (pss_cons (ps_set (i := 3) nd rfl (Or.inl rfl) pe_int)
            (Evl.pss_cut (ps_if (pt_cmpR op_gt (pe_callB call_len_seq (by rfl) T.z_len (by decide +kernel) (pa_cons (pv 2) pa_nil)) pe_int (nomark _))
              (pss_cons (ps_set (i := 7) nd rfl (Or.inl rfl) (pe_op op_modN (pv 5) (pe_callB call_len_seq (by rfl) T.z_len (by decide +kernel) (pa_cons (pv 2) pa_nil))))
              (pss_cons (ps_set (i := 3) nd rfl (Or.inl rfl) (pe_ix ix_list (pv 0) (pv 7) (fun _ _ => rfl)))
              (pss_one (ps_if (pt_cmpR op_ge (pe_ix ix_list (pv 2) (pv 7) (fun _ _ => rfl)) (pe_op op_pow pe_int pe_int) (nomark _))
                (pss_cons (ps_set (i := 6) nd rfl (Or.inl rfl) (pe_op op_mod (pe_callTy call_int1 (by rfl) T.z_int (by decide +kernel) (pa_cons (pe_ix ix_list (pv 2) (pv 7) (fun _ _ => rfl)) pa_nil)) pe_int))
                (pss_one (ps_asg (pe_op op_fdiv (pe_ix ix_list (pv 2) (pv 7) (fun _ _ => rfl)) pe_int) (pg_sub (pv 2) (pv 7) set_list))))
                pss_nil))))
              pss_nil)
            (Evl.pss_cut (ps_if (pt_cmpR op_lt (pv 6) pe_int (nomark _))
              (pss_cons (ps_set (i := 8) nd rfl (Or.inl rfl) (pe_op op_mod (pe_op op_add (pe_op op_add (pe_op op_mul (pe_op op_mod (pe_callTy call_int1 (by rfl) T.z_int (by decide +kernel) (pa_cons (pv 3) pa_nil)) pe_int) pe_int) (pe_op op_mul (pv 5) pe_int)) pe_int) pe_int))
              (pss_cons (ps_set (i := 9) nd rfl (Or.inl rfl) (pe_op op_mod (pe_op op_add (pe_op op_mul (pv 8) (pe_op op_add (pe_op op_mod (pv 8) pe_int) pe_int)) (pe_op op_fdiv (pv 8) pe_int)) pe_int))
              (pss_one (ps_set (i := 6) nd rfl (Or.inl rfl) (pe_op op_mod (pe_op op_fdiv (pv 9) pe_int) pe_int)))))
              pss_nil)
            (pss_one (ps_expr (pe_bm PySem.F.plainAttrs_list PySem.F.slot_list_append PySem.F.type_list_append mt_append (pv 4) (pa_cons (pv 6) pa_nil)))))))))
          (pss_cons (ps_expr (pe_bm0 PySem.F.plainAttrs_list PySem.F.slot_list_reverse PySem.F.type_list_reverse mt_reverse (pv 4)))
          (pss_one (ps_ret (pv 4))))))), ?_⟩
    -- rest = [cell for cell in script]
    refine ⟨_, rfl, a, rfl, ⟨_, ha⟩, fun D hD => lc_list (K := K) (a := a) (xs := ns.map V.int) (fun i H' => Same H H' ∧ H' D = some (.lst ((ns.map V.int).take i)))
      ⟨fun b o e => by rw [upd_ne (ne_of_none e hD)]; exact e, upd_same⟩ (fun i H' _ ⟨s, _⟩ => s.seq ha) (fun i x H' hx ⟨s, e⟩ => ?_) (fun H1 ⟨s1, e1⟩ => ?_)⟩
    · refine ⟨rfl, ?_⟩
      refine ⟨_, rfl, _, e, sl_lt (by simp; omega), fun b o q => ?_, ?_⟩
      · rw [upd_ne (ne_of_none q hD)]; exact s _ _ q
      · rw [upd_same, List.take_succ, hx]; rfl
    · rw [List.take_of_length_le (Nat.le_refl _)] at e1
      -- deck = []
      refine ⟨Nat.zero_le _, fun dk hdk => ?_⟩
      have ndk : D ≠ dk := ne_of_none e1 hdk
      refine ⟨_, rfl, _, rfl, by omega, by omega, for_range (lo := 0) (n := m) (fun i σ H' => ∃ (c x d1 d2 d3 d4 : Option V) (rs : List Int) (ds : List Nat), σ = [some (.ref a), some (.int (m : Int)), some (.ref D), c, some (.ref dk), x, d1, d2, d3, d4] ∧
        Same H H' ∧ H' D = some (.lst (rs.map V.int)) ∧ rs.length = ns.length ∧ H' dk = some (.lst (natsV ds)) ∧ ds.length = i) ⟨none, none, none, none, none, none, ns, [], rfl, ?_, ?_, rfl, upd_same, rfl⟩ ?_ ?_⟩
      · intro b o e
        rw [upd_ne (ne_of_none (s1 _ _ e) hdk)]; exact s1 _ _ e
      · rw [upd_ne ndk]; exact e1
      · rintro i σ H' hi ⟨c, x, d1, d2, d3, d4, rs, ds, rfl, s2, eD, lr, ek, ld⟩
        have e0 : (0 : Int) + (i : Int) = (i : Int) := Int.zero_add _
        rw [e0]
        refine ⟨_, rfl, ?_⟩
        refine ⟨fun σ2 H2 => ∃ (c d : Int) (d2 d3 d4 : Option V) (rs : List Int), σ2 = [some (.ref a), some (.int (m : Int)), some (.ref D), some (.int c), some (.ref dk), some (.int (i : Int)), some (.int d), d2, d3, d4] ∧
          Same H H2 ∧ H2 D = some (.lst (rs.map V.int)) ∧ rs.length = ns.length ∧ H2 dk = some (.lst (natsV ds)) ∧ (d = -1 ∨ (0 ≤ d ∧ d < 1000)), ?_, ?_⟩
        · refine ⟨_, rfl, D, _, rfl, .inl (SqL.of eD), _, _, rfl, rfl, _, rfl, ?_⟩
          refine ite2 (fun z => ?_) (fun z => ?_)
          · have z' : (0 : Int) < ((rs.map V.int).length : Nat) := of_decide_eq_true z
            rw [List.length_map] at z'
            have hpos : 0 < rs.length := by omega
            have hlt : i % rs.length < rs.length := Nat.mod_lt _ hpos
            have e2 : Int.fmod (i : Int) (((rs.map V.int).length : Nat) : Int) = ((i % rs.length : Nat) : Int) := by rw [List.length_map, fmod_nat]
            refine ⟨_, rfl, _, rfl, D, _, rfl, .inl (SqL.of eD), _, _, rfl, rfl, (by rw [List.length_map]; omega), ?_⟩
            refine ⟨_, rfl, _, rfl, a, _, _, .int (ns[i % rs.length]'(by omega)), rfl, rfl, s2.seq ha, ?_, ?_⟩
            · rw [e2]
              exact atI_nat (by rw [List.getElem?_map, List.getElem?_eq_getElem (by omega)]; rfl)
            · have er : atI (rs.map V.int) (Int.fmod (i : Int) (((rs.map V.int).length : Nat) : Int)) = some (.int (rs[i % rs.length]'hlt)) := by
                rw [e2]
                exact atI_nat (by rw [List.getElem?_map, List.getElem?_eq_getElem hlt]; rfl)
              refine ⟨_, rfl, _, rfl, D, _, _, _, rfl, rfl, SqL.of eD, er, _, _, rfl, rfl, ⟨by decide, by decide, by decide⟩, _, _, rfl, rfl, _, rfl, ?_⟩
              refine ite2 (fun y => ?_) (fun y => ?_)
              · refine ⟨_, rfl, _, rfl, D, _, _, _, rfl, rfl, SqL.of eD, er, .inl ⟨_, rfl, _, _, rfl, rfl, (by show (0 : Int) < 1000; decide), ?_⟩⟩
                refine ⟨_, rfl, _, rfl, D, _, _, _, rfl, rfl, SqL.of eD, er, _, _, rfl, rfl, ⟨by decide, by decide⟩, ?_⟩
                refine ⟨_, rfl, _, rfl, D, _, _, i % rs.length, rfl, rfl, eD, ?_, ?_⟩
                · rw [e2, List.length_map]
                  exact Evl.ixN_nat hlt
                · refine ⟨_, _, _, _, _, rs.set (i % rs.length) ((rs[i % rs.length]'hlt) / 1000), rfl, fun b o e => ?_, ?_, by rw [List.length_set]; exact lr, ?_, .inr ⟨Int.emod_nonneg _ (by decide), Int.emod_lt_of_pos _ (by decide)⟩⟩
                  · rw [upd_ne (ne_of_none e hD)]; exact s2 _ _ e
                  · rw [upd_same, List.map_set]
                  · rw [upd_ne ndk.symm]; exact ek
              · exact ⟨_, -1, _, _, _, rs, rfl, s2, eD, lr, ek, .inl rfl⟩
          · exact ⟨_, -1, _, _, _, rs, rfl, s2, eD, lr, ek, .inl rfl⟩
        · rintro σ2 H2 ⟨c, d, d2, d3, d4, rs2, rfl, s3, eD2, lr2, ek2, hd⟩
          refine ⟨fun σ3 H3 => ∃ (c : Int) (d : Nat) (d2 d3 d4 : Option V), σ3 = [some (.ref a), some (.int (m : Int)), some (.ref D), some (.int c), some (.ref dk), some (.int (i : Int)), some (.int (d : Int)), d2, d3, d4] ∧ H3 = H2, ?_, ?_⟩
          · refine ⟨_, rfl, _, _, rfl, rfl, _, rfl, ?_⟩
            refine ite2 (fun y => ?_) (fun y => ?_)
            · refine ⟨_, rfl, .inl ⟨_, rfl, _, _, rfl, rfl, (by show (0 : Int) < 2147483629; decide), _, _, rfl, rfl, .inl ⟨?_, ?_⟩, _, rfl, _, _, rfl, rfl, .inl ⟨by omega, by omega⟩, _, _, rfl, rfl, _, _, rfl, rfl, _, _, rfl, rfl, (by show (0 : Int) < 2147483647; decide), ?_⟩⟩
              · have := Int.emod_nonneg c (show (2147483629 : Int) ≠ 0 by decide); omega
              · have := Int.emod_lt_of_pos c (show (0 : Int) < 2147483629 by decide); omega
              · generalize hone : (c % 2147483629 * 48271 + (i : Int) * 69621 + 17) % 2147483647 = one
                have h1 : 0 ≤ one := by rw [← hone]; exact Int.emod_nonneg _ (by decide)
                have h2 : one < 2147483647 := by rw [← hone]; exact Int.emod_lt_of_pos _ (by decide)
                refine ⟨_, rfl, _, rfl, _, _, rfl, rfl, (by show (0 : Int) < 65521; decide), _, _, rfl, rfl, _, _, rfl, rfl, .inl ⟨by omega, by omega⟩, _, rfl, _, _, rfl, rfl, ⟨by decide, by decide⟩, _, _, rfl, rfl, _, _, rfl, rfl, (by show (0 : Int) < 2147483399; decide), ?_⟩
                generalize htwo : (one * (one % 65521 + 3) + one / 8) % 2147483399 = two
                refine ⟨_, rfl, _, _, rfl, rfl, ⟨by decide, by decide⟩, _, _, rfl, rfl, (by show (0 : Int) < 1000; decide), ?_⟩
                have h5 : 0 ≤ two / 1009 % 1000 := Int.emod_nonneg _ (by decide)
                obtain ⟨r, hr⟩ := Int.eq_ofNat_of_zero_le h5
                exact ⟨c, r, d2, some (.int one), some (.int two), by subst htwo; subst hone; rw [← hr] <;> rfl, rfl⟩
            · have hd' : 0 ≤ d := by
                have : ¬ d < 0 := fun q => y (decide_eq_true q)
                omega
              obtain ⟨r, hr⟩ := Int.eq_ofNat_of_zero_le hd'
              exact ⟨c, r, _, _, _, by rw [hr], rfl⟩
          · rintro σ3 H3 ⟨c, d, d2, d3, d4, rfl, rfl⟩
            refine ⟨_, rfl, .inl ⟨rfl, _, SqL.of ek2⟩, _, rfl, dk, _, _, rfl, rfl, ek2, sl_lt (by simp [natsV]; omega), ?_⟩
            refine ⟨_, _, _, _, _, _, rs2, ds ++ [d], rfl, fun b o e => ?_, ?_, lr2, ?_, by simp [ld]⟩
            · rw [upd_ne (ne_of_none (s1 _ _ e) hdk)]; exact s3 _ _ e
            · rw [upd_ne ndk]; exact eD2
            · rw [upd_same]; simp [natsV]
      · rintro σ H' ⟨c, x, d1, d2, d3, d4, rs, ds, rfl, s2, eD, lr, ek, ld⟩
        refine ⟨_, rfl, .inl ⟨rfl, _, SqL.of ek⟩, dk, _, rfl, rfl, ek, ?_⟩
        refine ⟨_, rfl, ?_⟩
        refine k dk _ (s1.free hdk) (fun b o e => ?_) ⟨ds.reverse, by simp; omega, ?_⟩
        · rw [upd_ne (ne_of_none (s1 _ _ e) hdk)]; exact s2 _ _ e
        · rw [upd_same]; simp [natsV]
end
end K87

set_option Elab.async false
set_option linter.all false
set_option maxRecDepth 100000
set_option maxHeartbeats 1000000
/-! The law's own plain functions: kinds, drawn cells, what defs do, how deep trees are. -/
namespace K87
open PySem Mch Rp
abbrev Kinds := List (List (List Nat))
structure KindsOk (kinds : Kinds) : Prop where
  len : kinds.length = 4
  zero : kinds[0]? = some [[], []]
  pos : ∀ (k : Nat) ms, kinds[k]? = some ms → 0 < ms.length ∧ ms.length ≤ 4
  parts : ∀ k m ps, partsOf kinds k m = some ps → ps.length ≤ 3 ∧ ∀ p ∈ ps, p < k
section
variable {kinds : Kinds}
theorem KindsOk.at (h : KindsOk kinds) {k : Nat} (hk : k < 4) : ∃ ms, kinds[k]? = some ms ∧ 0 < ms.length ∧ ms.length ≤ 4 := by
  have hl := h.len
  have hk2 : k < kinds.length := by omega
  exact ⟨_, List.getElem?_eq_getElem hk2, h.pos k _ (List.getElem?_eq_getElem hk2)⟩
theorem parts_of {k m : Nat} {ms : List (List Nat)} {ps : List Nat} (h1 : kinds[k]? = some ms) (h2 : ms[m]? = some ps) : partsOf kinds k m = some ps := by
  unfold partsOf
  rw [h1]
  exact h2
mutual
theorem cellK_depth (h : KindsOk kinds) : ∀ (c : Cell) (k : Nat), CellK kinds c k → c.depth ≤ k + 1
  | .mk n cs, k, hc => by
    obtain ⟨m, ps, rfl, e, hcs⟩ := cellK_mk.mp hc
    have hp := (h.parts k m ps e).2
    have := cellsK_depth h cs ps k hcs hp
    rw [Cell.depth]
    omega
theorem cellsK_depth (h : KindsOk kinds) : ∀ (cs : List Cell) (ps : List Nat) (k : Nat), CellsK kinds cs ps → (∀ p ∈ ps, p < k) → depths cs ≤ k
  | [], ps, k, hc, hp => by rw [depths]; omega
  | c :: r, ps, k, hc, hp => by
    obtain ⟨q, qs, rfl, h1, h2⟩ := cellsK_cons.mp hc
    have e1 := cellK_depth h c q h1
    have e2 := cellsK_depth h r qs k h2 fun p hq => hp p (List.mem_cons_of_mem _ hq)
    have e3 := hp q List.mem_cons_self
    rw [depths]
    omega
end
end
section
variable {kinds : Kinds}
mutual
theorem cellK_size (h : KindsOk kinds) : ∀ (c : Cell) (k : Nat), CellK kinds c k → c.size ≤ 4 ^ (k + 1)
  | .mk n cs, k, hc => by
    obtain ⟨m, ps, rfl, e, hcs⟩ := cellK_mk.mp hc
    obtain ⟨hl, hp⟩ := h.parts k m ps e
    have := cellsK_size h cs ps k hcs hp
    rw [Cell.size, Nat.pow_succ]
    have h1 : ps.length * 4 ^ k ≤ 3 * 4 ^ k := Nat.mul_le_mul_right _ hl
    have h2 : 1 ≤ 4 ^ k := Nat.le_trans (Nat.one_le_two_pow (n := k)) (Nat.pow_le_pow_left (by omega) k)
    omega
theorem cellsK_size (h : KindsOk kinds) : ∀ (cs : List Cell) (ps : List Nat) (k : Nat), CellsK kinds cs ps → (∀ p ∈ ps, p < k) → sizes cs ≤ ps.length * 4 ^ k
  | [], ps, k, hc, hp => by rw [sizes]; omega
  | c :: r, ps, k, hc, hp => by
    obtain ⟨q, qs, rfl, h1, h2⟩ := cellsK_cons.mp hc
    have e1 := cellK_size h c q h1
    have e2 := cellsK_size h r qs k h2 fun p hq => hp p (List.mem_cons_of_mem _ hq)
    have e3 := hp q List.mem_cons_self
    have e4 : 4 ^ (q + 1) ≤ 4 ^ k := Nat.pow_le_pow_right (by omega) (by omega)
    rw [sizes, List.length_cons, Nat.add_mul, Nat.one_mul]
    omega
end
end
/-! ### picked cells -/
def pickF (kinds : Kinds) : Nat → Nat → Int → Cell
  | 0, _, _ => .mk 0 []
  | f + 1, k, n =>
    let m := (Int.fmod n (((kinds[k]?).getD []).length : Nat)).toNat
    .mk (m : Int) (((partsOf kinds k m).getD []).map fun p => pickF kinds f p (n / 3 + 1))
theorem pick_kind {kinds : Kinds} (h : KindsOk kinds) : ∀ (f k : Nat) (n : Int), k < f → k < 4 → CellK kinds (pickF kinds f k n) k
  | 0, k, n, hk, _ => by omega
  | f + 1, k, n, hk, hk4 => by
    obtain ⟨ms, e, p1, p2⟩ := h.at hk4
    rw [pickF]
    try dsimp only
    rw [e]
    have h1 : 0 ≤ Int.fmod n ((ms.length : Nat) : Int) := by rw [Int.fmod_eq_emod_of_nonneg _ (by omega)]; exact Int.emod_nonneg _ (by omega)
    have h2 : Int.fmod n ((ms.length : Nat) : Int) < ((ms.length : Nat) : Int) := by rw [Int.fmod_eq_emod_of_nonneg _ (by omega)]; exact Int.emod_lt_of_pos _ (by omega)
    show CellK kinds (.mk (((Int.fmod n ((ms.length : Nat) : Int)).toNat : Nat) : Int) (((partsOf kinds k (Int.fmod n ((ms.length : Nat) : Int)).toNat).getD []).map fun p => pickF kinds f p (n / 3 + 1))) k
    have hm : (Int.fmod n ((ms.length : Nat) : Int)).toNat < ms.length := by omega
    generalize (Int.fmod n ((ms.length : Nat) : Int)).toNat = m at *
    have ep := parts_of e (List.getElem?_eq_getElem hm)
    have hp := (h.parts k m _ ep).2
    rw [ep]
    refine cellK_mk.mpr ⟨m, _, rfl, ep, ?_⟩
    show CellsK kinds ((ms[m]).map fun p => pickF kinds f p (n / 3 + 1)) ms[m]
    generalize ms[m] = ps at *
    clear ep
    induction ps with
    | nil => exact cellsK_nil.mpr rfl
    | cons q qs ih => exact cellsK_cons.mpr ⟨q, qs, rfl, pick_kind h f q _ (by have := hp q List.mem_cons_self; omega) (by have := hp q List.mem_cons_self; omega), ih fun p hq => hp p (List.mem_cons_of_mem _ hq)⟩
/-! ### what defs do -/
mutual
def weightC : Cell → Int
  | .mk n cs => weightsC cs 0 (1 + n)
def weightsC : List Cell → Nat → Int → Int
  | [], _, w => w
  | c :: r, k, w => weightsC r (k + 1) (w * 5 + ((k : Int) + 2) * weightC c)
end
def doesN : List Cell → Int → Int
  | [], n => n
  | c :: r, n => doesN r (n * 7 + weightC c)
structure Df where
  mo : Str
  na : Str
  givens : List Nat
  kind : Nat
def Df.fits (d : Df) (f : Nm) (cs : List Cell) : Bool := decide (d.mo = f.1) && decide (d.na = f.2) && decide (cs.length = d.givens.length)
def doesF (kinds : Kinds) : List Df → Nm → List Cell → Option Cell
  | [], _, _ => none
  | d :: r, f, cs => if d.fits f cs = true then some (pickF kinds 4 d.kind (doesN cs 3)) else doesF kinds r f cs
def dkOf (defs : List Df) (f : Nm) (gs : List Nat) (k : Nat) : Prop := ∃ d ∈ defs, (d.mo, d.na) = f ∧ d.givens = gs ∧ d.kind = k
structure DefsOk (defs : List Df) : Prop where
  names : (defs.map fun d => (d.mo, d.na)).Nodup
  kinds : ∀ d ∈ defs, d.kind < 4 ∧ d.givens.length ≤ 3 ∧ ∀ g ∈ d.givens, g < 4
  len : defs.length = 4
theorem does_ok {kinds : Kinds} (hk : KindsOk kinds) : ∀ {defs : List Df}, (defs.map fun d => (d.mo, d.na)).Nodup → (∀ d ∈ defs, d.kind < 4) → ∀ f gs k cs, dkOf defs f gs k → CellsK kinds cs gs → ∃ v, doesF kinds defs f cs = some v ∧ CellK kinds v k
  | [], _, _, f, gs, k, cs, ⟨d, hd, _⟩, _ => by cases hd
  | e :: r, hn, hl, f, gs, k, cs, ⟨d, hd, e1, e2, e3⟩, hc => by
    rw [List.map_cons, List.nodup_cons] at hn
    rcases List.mem_cons.mp hd with rfl | hd
    · refine ⟨pickF kinds 4 d.kind (doesN cs 3), ?_, ?_⟩
      · rw [doesF, if_pos]
        unfold Df.fits
        subst e1 e2
        simp [cellsK_len hc]
      · rw [← e3]
        exact pick_kind hk 4 _ _ (hl d List.mem_cons_self) (hl d List.mem_cons_self)
    · obtain ⟨v, h1, h2⟩ := does_ok hk hn.2 (fun d hd => hl d (List.mem_cons_of_mem _ hd)) f gs k cs ⟨d, hd, e1, e2, e3⟩ hc
      refine ⟨v, ?_, h2⟩
      rw [doesF, if_neg, h1]
      intro z
      unfold Df.fits at z
      simp only [Bool.and_eq_true, decide_eq_true_eq] at z
      apply hn.1
      refine List.mem_map.mpr ⟨d, hd, ?_⟩
      rw [e1, z.1.1, z.1.2]
/-! ### how deep trees are -/
mutual
def Tr.dep : Tr → Nat
  | .i _ => 0
  | .s _ => 0
  | .t xs => 1 + depsT xs
def depsT : List Tr → Nat
  | [] => 0
  | c :: r => max c.dep (depsT r)
end
theorem depsT_mem {c : Tr} : ∀ {l : List Tr}, c ∈ l → c.dep ≤ depsT l
  | d :: r, h => by
    rw [depsT]
    rcases List.mem_cons.mp h with rfl | h
    · omega
    · have := depsT_mem h
      omega
theorem depsT_le {n : Nat} : ∀ {l : List Tr}, (∀ c ∈ l, c.dep ≤ n) → depsT l ≤ n
  | [], _ => by rw [depsT]; omega
  | d :: r, h => by
    rw [depsT]
    have h1 := h d List.mem_cons_self
    have h2 := depsT_le fun c hc => h c (List.mem_cons_of_mem _ hc)
    omega
end K87

set_option Elab.async false
set_option linter.all false
set_option maxRecDepth 100000
set_option maxHeartbeats 2000000
/-! Kinds, defs and envs in the heap; none of their lists is the deck. -/
namespace K87
open PySem PySem.Spec PyProof.Rows L2 Ru Rp Mch
def PartsAt (H : Hp) (dk : Addr) (v : V) (ps : List Nat) : Prop := ∃ l, v = .ref l ∧ H l = some (.lst (natVs ps)) ∧ l ≠ dk
def MakersAt (H : Hp) (dk : Addr) (v : V) (ms : List (List Nat)) : Prop := ∃ l vs, v = .ref l ∧ H l = some (.lst vs) ∧ l ≠ dk ∧ Paired (PartsAt H dk) vs ms
def KindsAt (H : Hp) (dk : Addr) (v : V) (kinds : Kinds) : Prop := ∃ l vs, v = .ref l ∧ H l = some (.lst vs) ∧ l ≠ dk ∧ Paired (MakersAt H dk) vs kinds
def DfAt (K : PySem.W.Frag) (H : Hp) (dk : Addr) (v : V) (d : Df) : Prop := ∃ a l, v = .ref a ∧ SqT K H a [.str d.mo, .str d.na, .ref l, .int (d.kind : Int)] ∧ H l = some (.lst (natVs d.givens)) ∧ l ≠ dk
def DfsAt (K : PySem.W.Frag) (H : Hp) (dk : Addr) (v : V) (defs : List Df) : Prop := ∃ l vs, v = .ref l ∧ H l = some (.lst vs) ∧ l ≠ dk ∧ Paired (DfAt K H dk) vs defs
def EnvAt (K : PySem.W.Frag) (H : Hp) (dk : Addr) (v : V) (G : List Nat) (defs : List Df) : Prop := ∃ a g d, v = .ref a ∧ SqT K H a [g, d] ∧ PartsAt H dk g G ∧ DfsAt K H dk d defs
section
variable {K : PySem.W.Frag} {H H' : Hp} {dk dk2 : Addr} {v : V}
theorem PartsAt.to {ps : List Nat} (b : But1 H H' dk) (h : PartsAt H dk v ps) : PartsAt H' dk v ps := by
  obtain ⟨l, rfl, e, n⟩ := h
  exact ⟨l, rfl, b _ _ e n, n⟩
theorem MakersAt.to {ms : List (List Nat)} (b : But1 H H' dk) (h : MakersAt H dk v ms) : MakersAt H' dk v ms := by
  obtain ⟨l, vs, rfl, e, n, p⟩ := h
  exact ⟨l, vs, rfl, b _ _ e n, n, L2.Paired.mapP p fun _ _ q => q.to b⟩
theorem KindsAt.to {ks : Kinds} (b : But1 H H' dk) (h : KindsAt H dk v ks) : KindsAt H' dk v ks := by
  obtain ⟨l, vs, rfl, e, n, p⟩ := h
  exact ⟨l, vs, rfl, b _ _ e n, n, L2.Paired.mapP p fun _ _ q => q.to b⟩
theorem PartsAt.guard {ps : List Nat} (hn : H dk2 = none) (h : PartsAt H dk v ps) : PartsAt H dk2 v ps := by
  obtain ⟨l, rfl, e, n⟩ := h
  exact ⟨l, rfl, e, ne_of_none e hn⟩
theorem MakersAt.guard {ms : List (List Nat)} (hn : H dk2 = none) (h : MakersAt H dk v ms) : MakersAt H dk2 v ms := by
  obtain ⟨l, vs, rfl, e, n, p⟩ := h
  exact ⟨l, vs, rfl, e, ne_of_none e hn, L2.Paired.mapP p fun _ _ q => q.guard hn⟩
theorem KindsAt.guard {ks : Kinds} (hn : H dk2 = none) (h : KindsAt H dk v ks) : KindsAt H dk2 v ks := by
  obtain ⟨l, vs, rfl, e, n, p⟩ := h
  exact ⟨l, vs, rfl, e, ne_of_none e hn, L2.Paired.mapP p fun _ _ q => q.guard hn⟩
theorem DfAt.to {d : Df} (t : TEx H H') (b : But1 H H' dk) (h : DfAt K H dk v d) : DfAt K H' dk v d := by
  obtain ⟨a, l, rfl, s, e, n⟩ := h
  exact ⟨a, l, rfl, t.sq s, b _ _ e n, n⟩
theorem DfsAt.to {ds : List Df} (t : TEx H H') (b : But1 H H' dk) (h : DfsAt K H dk v ds) : DfsAt K H' dk v ds := by
  obtain ⟨l, vs, rfl, e, n, p⟩ := h
  exact ⟨l, vs, rfl, b _ _ e n, n, L2.Paired.mapP p fun _ _ q => q.to t b⟩
theorem EnvAt.to {G : List Nat} {ds : List Df} (t : TEx H H') (b : But1 H H' dk) (h : EnvAt K H dk v G ds) : EnvAt K H' dk v G ds := by
  obtain ⟨a, g, d, rfl, s, p, q⟩ := h
  exact ⟨a, g, d, rfl, t.sq s, p.to b, q.to t b⟩
theorem DfAt.guard {d : Df} (hn : H dk2 = none) (h : DfAt K H dk v d) : DfAt K H dk2 v d := by
  obtain ⟨a, l, rfl, s, e, n⟩ := h
  exact ⟨a, l, rfl, s, e, ne_of_none e hn⟩
theorem DfsAt.guard {ds : List Df} (hn : H dk2 = none) (h : DfsAt K H dk v ds) : DfsAt K H dk2 v ds := by
  obtain ⟨l, vs, rfl, e, n, p⟩ := h
  exact ⟨l, vs, rfl, e, ne_of_none e hn, L2.Paired.mapP p fun _ _ q => q.guard hn⟩
theorem EnvAt.guard {G : List Nat} {ds : List Df} (hn : H dk2 = none) (h : EnvAt K H dk v G ds) : EnvAt K H dk2 v G ds := by
  obtain ⟨a, g, d, rfl, s, p, q⟩ := h
  exact ⟨a, g, d, rfl, s, p.guard hn, q.guard hn⟩
theorem but1_same {l : Addr} (s : Same H H') : But1 H H' l := fun b o e _ => s b o e
/-- kinds[k] -/
theorem kinds_at {ks : Kinds} {k : Nat} {ms : List (List Nat)} (h : KindsAt H dk v ks) (e : ks[k]? = some ms) : ∃ l vs x, v = .ref l ∧ H l = some (.lst vs) ∧ vs.length = ks.length ∧ vs[k]? = some x ∧ MakersAt H dk x ms := by
  obtain ⟨l, vs, rfl, el, n, p⟩ := h
  obtain ⟨x, h1, h2⟩ := paired_get p e
  exact ⟨l, vs, x, rfl, el, Paired.length p, h1, h2⟩
theorem makers_at {ms : List (List Nat)} {m : Nat} {ps : List Nat} (h : MakersAt H dk v ms) (e : ms[m]? = some ps) : ∃ l vs x, v = .ref l ∧ H l = some (.lst vs) ∧ vs.length = ms.length ∧ vs[m]? = some x ∧ PartsAt H dk x ps := by
  obtain ⟨l, vs, rfl, el, n, p⟩ := h
  obtain ⟨x, h1, h2⟩ := paired_get p e
  exact ⟨l, vs, x, rfl, el, Paired.length p, h1, h2⟩
theorem makers_len {ms : List (List Nat)} (h : MakersAt H dk v ms) : ∃ l vs, v = .ref l ∧ H l = some (.lst vs) ∧ vs.length = ms.length := by
  obtain ⟨l, vs, rfl, el, n, p⟩ := h
  exact ⟨l, vs, rfl, el, Paired.length p⟩
end
/-- kinds while they are laid -/
structure KindsPre (kinds : Kinds) : Prop where
  len : kinds.length ≤ 4
  pos : ∀ (k : Nat) ms, kinds[k]? = some ms → ms.length ≤ 4
  parts : ∀ k m ps, partsOf kinds k m = some ps → ps.length ≤ 3 ∧ ∀ p ∈ ps, p < k
theorem KindsOk.pre {kinds : Kinds} (h : KindsOk kinds) : KindsPre kinds := ⟨by rw [h.len]; omega, fun k ms e => (h.pos k ms e).2, h.parts⟩
def bM : Nat → Nat
  | 0 => 1
  | 1 => 4
  | 2 => 256
  | _ => 67108864
end K87

set_option Elab.async false
set_option linter.all false
set_option maxRecDepth 100000
set_option maxHeartbeats 4000000
namespace K87
open PySem PySem.Spec PyProof.Rows L2 Ru Rp Mch
section
variable {P : Program} {w : World} {K : PySem.W.Frag} {mg : Str → Option Value} {base : Heap}
def spNo : Sp := fun _ _ _ _ => False
abbrev N__law_many : List Str := ["kinds", "kind", "many", "parts", "size", "part"]
theorem sc__law_many : FnScope N__law_many ["kinds", "kind"] (defScope s__law_many) := ⟨rfl, rfl, rfl, by decide +kernel, rfl, by decide +kernel, by decide +kernel⟩
def spMany (f : Nat) : Sp := fun vs H Q _ => ∃ (dk : Addr) (v : V) (kinds : Kinds) (k : Nat), vs = [v, .int (k : Int)] ∧ KindsAt H dk v kinds ∧ KindsPre kinds ∧ k < f ∧ k < kinds.length ∧ ∀ (r : Nat), r ≤ bM f → Q (.int (r : Int)) H
theorem ok_many0 (T : Txt K mg) (f : Nat) (hf : f ≤ 3) {sp' : Sp} (G__law_many : FnOk P w K mg base CX0 (f + 1) T.f__law_many T.fd__law_many ["kinds", "kind"] sp') (hsp : ∀ g, f = g + 1 → sp' = spMany g) : FnOk P w K mg base CX0 (f + 2) T.f__law_many T.fd__law_many ["kinds", "kind"] (spMany f) := by
  refine T.F__law_many.ok sc__law_many (fun vs H Q E h => ?_) (fun cdv A outer sh H vs Q E hr h => ?_)
  · obtain ⟨dk, v, kinds, k, rfl, _⟩ := h
    rfl
  · obtain ⟨dk, v, kinds, k, rfl, hv, hp, hk, hkl, kk⟩ := h
    have nd := sc__law_many.nd
    have hr__law_many : Room (f + 1) _ := hr
    refine ⟨_, (pss_cons (ps_set (i := 2) nd rfl (Or.inl rfl) pe_int)
          (pss_cons (ps_for PassesOwn.never rfl (pi_list (pe_ix ix_list (pv 0) (pv 1) (fun _ _ => rfl))) (pg_name (i := 3) nd rfl (Or.inl rfl))
            (pss_cons (ps_set (i := 4) nd rfl (Or.inl rfl) pe_int)
            (pss_cons (ps_for PassesOwn.never rfl (pi_list (pv 3)) (pg_name (i := 5) nd rfl (Or.inl rfl))
              (pss_one (ps_set (i := 4) nd rfl (Or.inl rfl) (pe_op op_mul (pv 4) (pe_call G__law_many hr__law_many rfl T.g__law_many T.k__law_many T.b__law_many .nil pass0 (pa_cons (pv 0) (pa_cons (pv 5) pa_nil)))))))
            (pss_one (ps_set (i := 2) nd rfl (Or.inl rfl) (pe_op op_add (pv 2) (pv 4)))))))
          (pss_one (ps_ret (pv 2))))), ?_⟩
    obtain ⟨ms, ems⟩ : ∃ ms, kinds[k]? = some ms := ⟨_, List.getElem?_eq_getElem hkl⟩
    obtain ⟨l, vs, x, rfl, el, lv, ex, hx⟩ := kinds_at hv ems
    obtain ⟨l2, vs2, rfl, el2, n2, p2⟩ := id hx
    have lm : vs2.length = ms.length := Paired.length p2
    have hml := hp.pos k ms ems
    refine ⟨_, rfl, _, rfl, l, vs, _, _, rfl, rfl, SqL.of el, atI_nat ex, l2, rfl, ⟨_, SqL.of el2⟩, for_list (K := K) (a := l2) (xs := vs2) (fun i σ H' => ∃ (r : Nat) (x3 x4 x5 : Option V), σ = [some (.ref l), some (.int (k : Int)), some (.int (r : Int)), x3, x4, x5] ∧ H = H' ∧ r ≤ i * bM (f - 1) ^ 3) ⟨0, none, none, none, rfl, rfl, by simp⟩ (fun i σ H' _ ⟨_, _, _, _, _, e, _⟩ => by rw [← e]; exact SqL.of el2) ?_ ?_⟩
    · rintro i y σ H' hy ⟨r, x3, x4, x5, rfl, rfl, hr0⟩
      have hi : i < ms.length := by
        have := (List.getElem?_eq_some_iff.mp hy).1
        omega
      obtain ⟨y', e1, e2⟩ := paired_get p2 (List.getElem?_eq_getElem hi)
      rw [hy] at e1
      cases e1
      obtain ⟨lp, rfl, ep, np⟩ := e2
      have epk := parts_of ems (List.getElem?_eq_getElem hi)
      obtain ⟨hpl, hpk⟩ := hp.parts k i _ epk
      generalize ms[i] = ps at *
      try dsimp only [gName, tSeq, tAsg]
      refine ⟨_, rfl, lp, rfl, ⟨_, SqL.of ep⟩, for_list (K := K) (a := lp) (xs := natVs ps) (fun j σ H' => ∃ (s : Nat) (x5 : Option V), σ = [some (.ref l), some (.int (k : Int)), some (.int (r : Int)), some (.ref lp), some (.int (s : Int)), x5] ∧ H = H' ∧ s ≤ bM (f - 1) ^ j) ⟨1, x5, rfl, rfl, by simp⟩ (fun i σ H' _ ⟨_, _, _, e, _⟩ => by rw [← e]; exact SqL.of ep) ?_ ?_⟩
      · rintro j y σ H' hy ⟨s, y5, rfl, rfl, hs0⟩
        have hj : j < ps.length := by
          have := (List.getElem?_eq_some_iff.mp hy).1
          rw [natVs_len] at this
          omega
        rw [natVs_at (List.getElem?_eq_getElem hj)] at hy
        cases hy
        have hq := hpk _ (List.getElem_mem hj)
        obtain ⟨g, rfl⟩ : ∃ g, f = g + 1 := ⟨f - 1, by omega⟩
        cases hsp g rfl
        refine ⟨_, rfl, _, rfl, _, rfl, dk, _, kinds, ps[j], rfl, hv, hp, by omega, by omega, fun r' hr' => ⟨_, _, rfl, rfl, .inr ?_, ?_⟩⟩
        · have : bM g ≤ 67108864 := by unfold bM; split <;> omega
          exact ⟨by omega, by omega⟩
        · refine ⟨s * r', _, by rw [Int.natCast_mul]; rfl, rfl, ?_⟩
          rw [Nat.pow_succ]
          exact Nat.mul_le_mul hs0 hr'
      · rintro σ H' ⟨s, y5, rfl, rfl, hs0⟩
        rw [natVs_len] at hs0
        try dsimp only [gName, tSeq, tAsg]
        refine ⟨_, rfl, _, rfl, _, _, rfl, rfl, ?_⟩
        refine ⟨r + s, _, _, _, rfl, rfl, ?_⟩
        have hb : 1 ≤ bM (f - 1) := by unfold bM; split <;> omega
        have : bM (f - 1) ^ ps.length ≤ bM (f - 1) ^ 3 := Nat.pow_le_pow_right hb hpl
        rw [Nat.add_mul, Nat.one_mul]
        omega
    · rintro σ H' ⟨r, x3, x4, x5, rfl, rfl, hr0⟩
      try dsimp only [gName, tSeq, tAsg]
      refine ⟨_, rfl, kk r ?_⟩
      rw [lm] at hr0
      have h1 : ms.length * bM (f - 1) ^ 3 ≤ 4 * bM (f - 1) ^ 3 := Nat.mul_le_mul_right _ hml
      have h2 : 4 * bM (f - 1) ^ 3 ≤ bM f := by
        rcases (show f = 1 ∨ f = 2 ∨ f = 3 by omega) with rfl | rfl | rfl <;> decide
      omega
theorem ok_many (T : Txt K mg) : ∀ f, f ≤ 3 → FnOk P w K mg base CX0 (f + 2) T.f__law_many T.fd__law_many ["kinds", "kind"] (spMany f)
  | 0, h => ok_many0 T 0 h (sp' := spNo) (T.F__law_many.ok sc__law_many (fun vs H Q E h => h.elim) (fun cdv A outer sh H vs Q E hr h => h.elim)) (fun m e => by cases e)
  | f + 1, h => ok_many0 T (f + 1) h (ok_many T f (by omega)) (fun m e => by cases e; rfl)
end
end K87

set_option Elab.async false
set_option linter.all false
set_option maxRecDepth 100000
set_option maxHeartbeats 2000000
/-! Displays of trees and cells. -/
namespace K87
open PySem PySem.Spec PyProof.Rows L2 Ru Rp Mch
def TrB (K : PySem.W.Frag) (H0 : Hp) (σ : L2.St) (te : TE) (c : Tr) : Prop := ∀ H, Same H0 H → ∀ Q : VK, (∀ v H', Same H H' → TrAt K H' v c → Q v H') → te σ H Q
def TrBs (K : PySem.W.Frag) (H0 : Hp) (σ : L2.St) (ta : TA) (cs : List Tr) : Prop := ∀ H, Same H0 H → ∀ Q : List V → Hp → Prop, (∀ vs H', Same H H' → TrsAt K H' vs cs → Q vs H') → ta σ H Q
section
variable {K : PySem.W.Frag} {H0 : Hp} {σ : L2.St} {te : TE} {ta : TA} {c : Tr} {cs : List Tr}
theorem TrAt.same {H H' : Hp} {v : V} (h : TrAt K H v c) (s : Same H H') : TrAt K H' v c := h.to (TEx.of_same s)
theorem TrsAt.same {H H' : Hp} {v : List V} (h : TrsAt K H v cs) (s : Same H H') : TrsAt K H' v cs := h.to (TEx.of_same s)
theorem trb_str {z : Str} : TrB K H0 σ (tC (.str z)) (.s z) := fun H s Q q => q _ _ (Same.refl H) (tr_s.mpr rfl)
theorem trb_int {n : Int} (h : ∀ H, Same H0 H → ∀ Q : VK, Q (.int n) H → te σ H Q) : TrB K H0 σ te (.i n) := fun H s Q q => h H s _ (q _ _ (Same.refl H) (tr_i.mpr rfl))
theorem trb_of {v : V} (h : ∀ H, Same H0 H → ∀ Q : VK, Q v H → te σ H Q) (hv : TrAt K H0 v c) : TrB K H0 σ te c := fun H s Q q => h H s _ (q _ _ (Same.refl H) (hv.same s))
theorem trb_var {i : Nat} {v : V} (hi : σ[i]? = some (some v)) (hv : TrAt K H0 v c) : TrB K H0 σ (tVar i) c := trb_of (fun H s Q q => ⟨_, hi, q⟩) hv
theorem trbs_nil : TrBs K H0 σ tNil [] := fun H s Q q => q _ _ (Same.refl H) (trs_nil.mpr rfl)
theorem trbs_cons (h : TrB K H0 σ te c) (g : TrBs K H0 σ ta cs) : TrBs K H0 σ (tCons te ta) (c :: cs) := fun H s Q q =>
  h H s _ fun v H1 s1 r1 => g H1 (s.trans s1) _ fun vs H2 s2 r2 => q _ _ (s1.trans s2) (trs_cons.mpr ⟨v, vs, rfl, r1.same s2, r2⟩)
theorem trb_tup (g : TrBs K H0 σ ta cs) (hl : cs.length ≤ 1000000) : TrB K H0 σ (tTup ta) (.t cs) := fun H s Q q =>
  g H s _ fun vs H1 s1 r1 => ⟨sl_le (by rw [trs_len r1]; omega), fun p hp => q _ _ (s1.trans (same_new hp)) (tr_t.mpr ⟨p, vs, rfl, SqT.of upd_same, r1.same (same_new hp)⟩)⟩
theorem trb_use {Q : VK} (h : TrB K H0 σ te c) (k : ∀ v H', Same H0 H' → TrAt K H' v c → Q v H') : te σ H0 Q := h H0 (Same.refl _) Q k
theorem trbs_use {Q : List V → Hp → Prop} (h : TrBs K H0 σ ta cs) (k : ∀ v H', Same H0 H' → TrsAt K H' v cs → Q v H') : ta σ H0 Q := h H0 (Same.refl _) Q k
theorem CellAt.same {H H' : Hp} {v : V} {c : Cell} (h : CellAt K H v c) (s : Same H H') : CellAt K H' v c := h.to (TEx.of_same s)
theorem CellsAt.same {H H' : Hp} {v : List V} {c : List Cell} (h : CellsAt K H v c) (s : Same H H') : CellsAt K H' v c := h.to (TEx.of_same s)
theorem DeckAt.same {H H' : Hp} {dk : Addr} (h : DeckAt H dk) (s : Same H H') : DeckAt H' dk := by
  obtain ⟨ns, hz, hn⟩ := h
  exact ⟨ns, hz, s _ _ hn⟩
/-- a list that is written anew leaves the deck -/
theorem DeckAt.but {H H' : Hp} {l dk : Addr} (h : DeckAt H dk) (n : dk ≠ l) (b : But1 H H' l) : DeckAt H' dk := by
  obtain ⟨ns, hz, hn⟩ := h
  exact ⟨ns, hz, b _ _ hn n⟩
theorem DeckAt.ne_new {H : Hp} {l dk : Addr} (h : DeckAt H dk) (hl : H l = none) : dk ≠ l := by
  obtain ⟨ns, hz, hn⟩ := h
  exact ne_of_none hn hl
end
end K87

set_option Elab.async false
set_option linter.all false
set_option maxRecDepth 100000
set_option maxHeartbeats 4000000
namespace K87
open PySem PySem.Spec PyProof.Rows L2 Ru Rp Mch
section
variable {P : Program} {w : World} {K : PySem.W.Frag} {mg : Str → Option Value} {base : Heap}
abbrev N__law_pair : List Str := ["kind"]
theorem sc__law_pair : FnScope N__law_pair ["kind"] (defScope s__law_pair) := ⟨rfl, rfl, rfl, by decide +kernel, rfl, by decide +kernel, by decide +kernel⟩
def spPair (K : PySem.W.Frag) : Sp := fun vs H Q _ => ∃ (k : Nat), vs = [.int (k : Int)] ∧ k < 4 ∧ ∀ (v : V) (H' : Hp), Same H H' → TrAt K H' v (pairT k) → Q v H'
theorem ok_pair (T : Txt K mg) : FnOk P w K mg base CX0 1 T.f__law_pair T.fd__law_pair ["kind"] (spPair K) := by
  refine T.F__law_pair.ok sc__law_pair (fun vs H Q E h => ?_) (fun cdv A outer sh H vs Q E hr h => ?_)
  · obtain ⟨k, rfl, _⟩ := h
    rfl
  · obtain ⟨k, rfl, hk, kk⟩ := h
    refine ⟨_, (pss_one (ps_ret (pe_ix ix_list (pe_lst (pa_cons (pe_tup (pa_cons pe_str (pa_cons pe_str pa_nil))) (pa_cons (pe_tup (pa_cons pe_str (pa_cons pe_str pa_nil))) (pa_cons (pe_tup (pa_cons pe_str (pa_cons pe_str pa_nil))) (pa_cons (pe_tup (pa_cons pe_str (pa_cons pe_str pa_nil))) pa_nil))))) (pv 0) (fun _ _ => rfl)))), ?_⟩
    have hb := trbs_cons (K := K) (H0 := H) (σ := [some (.int (k : Int))]) (trb_tup (trbs_cons (trb_str (z := "")) (trbs_cons (trb_str (z := "Truth")) trbs_nil)) (by simp)) (trbs_cons (trb_tup (trbs_cons (trb_str (z := "Ma")) (trbs_cons (trb_str (z := "Hue")) trbs_nil)) (by simp))
      (trbs_cons (trb_tup (trbs_cons (trb_str (z := "Ma")) (trbs_cons (trb_str (z := "Couple")) trbs_nil)) (by simp)) (trbs_cons (trb_tup (trbs_cons (trb_str (z := "Other")) (trbs_cons (trb_str (z := "Tree")) trbs_nil)) (by simp)) trbs_nil)))
    dsimp only [tOp, tLst, tRet]
    refine trbs_use hb fun vs H1 s1 h1 => ⟨sl_le (by rw [trs_len h1]; simp), fun l hl => ?_⟩
    have s2 := same_new (o := .lst vs) hl
    obtain ⟨c, ec⟩ : ∃ c, ([.t [.s "", .s "Truth"], .t [.s "Ma", .s "Hue"], .t [.s "Ma", .s "Couple"], .t [.s "Other", .s "Tree"]] : List Tr)[k]? = some c := ⟨_, List.getElem?_eq_getElem (by simpa using hk)⟩
    obtain ⟨v, ev, hv⟩ := trs_at h1 ec
    refine ⟨_, rfl, l, vs, _, v, rfl, rfl, SqL.of upd_same, atI_nat ev, kk v _ (s1.trans s2) ?_⟩
    have : pairT k = c := by
      unfold pairT
      rw [List.getD_eq_getElem?_getD, ec]; rfl
    rw [this]
    exact hv.same s2
abbrev N__law_any : List Str := ["deck"]
theorem sc__law_any : FnScope N__law_any ["deck"] (defScope s__law_any) := ⟨rfl, rfl, rfl, by decide +kernel, rfl, by decide +kernel, by decide +kernel⟩
def spAny (K : PySem.W.Frag) : Sp := fun vs H Q _ => ∃ (dk : Addr), vs = [.ref dk] ∧ DeckAt H dk ∧ ∀ (f : Form) (v : V) (H' : Hp), (f = .bind ∨ f = .any) → But1 H H' dk → DeckAt H' dk → TrAt K H' v (formT f) → Q v H'
theorem ok_any (T : Txt K mg) : FnOk P w K mg base CX0 2 T.f__law_any T.fd__law_any ["deck"] (spAny K) := by
  refine T.F__law_any.ok sc__law_any (fun vs H Q E h => ?_) (fun cdv A outer sh H vs Q E hr h => ?_)
  · obtain ⟨dk, rfl, _⟩ := h
    rfl
  · obtain ⟨dk, rfl, hd, kk⟩ := h
    have G__law_take : FnOk P w K mg base CX0 1 T.f__law_take T.fd__law_take ["deck", "many"] spTake := ok_take T
    have hr__law_take : Room 1 _ := hr
    refine ⟨_, (pss_one (ps_ret (pe_ifExp (pt_cmpR op_gt (pe_call G__law_take hr__law_take rfl T.g__law_take T.k__law_take T.b__law_take .nil pass0 (pa_cons (pv 0) (pa_cons pe_int pa_nil))) pe_int (nomark _)) (pe_tup (pa_cons pe_str pa_nil)) (pe_tup (pa_cons pe_str pa_nil))))), ?_⟩
    refine ⟨_, rfl, dk, 3, rfl, by decide, hd, fun r H1 hr1 b1 d1 => ?_⟩
    have t1 := hd.tex b1
    refine ⟨_, _, rfl, rfl, _, rfl, ite2 (fun z => ?_) (fun z => ?_)⟩
    · refine ⟨sl_le (by show 1 ≤ 10000000; decide), fun p hp => ?_⟩
      exact kk .bind _ _ (.inl rfl) (b1.same (same_new hp)) (d1.same (same_new hp)) (tr_t.mpr ⟨p, _, rfl, SqT.of upd_same, trs_one (tr_s.mpr rfl)⟩)
    · refine ⟨sl_le (by show 1 ≤ 10000000; decide), fun p hp => ?_⟩
      exact kk .any _ _ (.inr rfl) (b1.same (same_new hp)) (d1.same (same_new hp)) (tr_t.mpr ⟨p, _, rfl, SqT.of upd_same, trs_one (tr_s.mpr rfl)⟩)
end
end K87

set_option Elab.async false
set_option linter.all false
set_option maxRecDepth 100000
set_option maxHeartbeats 4000000
namespace K87
open PySem PySem.Spec PyProof.Rows L2 Ru Rp Mch
section
variable {P : Program} {w : World} {K : PySem.W.Frag} {mg : Str → Option Value} {base : Heap}
abbrev N__law_cell : List Str := ["deck", "kinds", "kind", "maker", "part"]
theorem sc__law_cell : FnScope N__law_cell ["deck", "kinds", "kind"] (defScope s__law_cell) := ⟨rfl, rfl, rfl, by decide +kernel, rfl, by decide +kernel, by decide +kernel⟩
def spCell (K : PySem.W.Frag) (f : Nat) : Sp := fun vs H Q _ => ∃ (dk : Addr) (v : V) (kinds : Kinds) (k : Nat), vs = [.ref dk, v, .int (k : Int)] ∧ DeckAt H dk ∧ KindsAt H dk v kinds ∧ KindsOk kinds ∧ k < f ∧ k < 4 ∧ ∀ (u : V) (c : Cell) (H' : Hp), But1 H H' dk → DeckAt H' dk → CellAt K H' u c → CellK kinds c k → Q u H'
theorem ok_cell0 (T : Txt K mg) (f : Nat) {sp' : Sp} (G__law_cell : FnOk P w K mg base CX0 (f + 1) T.f__law_cell T.fd__law_cell ["deck", "kinds", "kind"] sp') (hsp : ∀ g, f = g + 1 → sp' = spCell K g) : FnOk P w K mg base CX0 (f + 2) T.f__law_cell T.fd__law_cell ["deck", "kinds", "kind"] (spCell K f) := by
  refine T.F__law_cell.ok sc__law_cell (fun vs H Q E h => ?_) (fun cdv A outer sh H vs Q E hr h => ?_)
  · obtain ⟨dk, v, kinds, k, rfl, _⟩ := h
    rfl
  · obtain ⟨dk, v, kinds, k, rfl, hd, hv, hK, hk, hk4, kk⟩ := h
    have nd := sc__law_cell.nd
    have hr__law_cell : Room (f + 1) _ := hr
    have G__law_take : FnOk P w K mg base CX0 1 T.f__law_take T.fd__law_take ["deck", "many"] spTake := ok_take T
    have hr__law_take : Room 1 _ := hr.mono (by omega)
    refine ⟨_, (pss_cons (ps_set (i := 3) nd rfl (Or.inl rfl) (pe_call G__law_take hr__law_take rfl T.g__law_take T.k__law_take T.b__law_take .nil pass0 (pa_cons (pv 0) (pa_cons (pe_callB call_len_seq (by rfl) T.z_len (by decide +kernel) (pa_cons (pe_ix ix_list (pv 1) (pv 2) (fun _ _ => rfl)) pa_nil)) pa_nil))))
          (pss_one (ps_ret (pe_tup (pa_cons (pv 3) (pa_cons (pe_callTy call_tuple_of (by rfl) T.z_tuple (by decide +kernel) (pa_cons (pe_lc (own := [("part", 4)]) (g := gName 4) (tt := tYes) rfl nd (pi_list (pe_ix ix_list (pe_ix ix_list (pv 1) (pv 2) (fun _ _ => rfl)) (pv 3) (fun _ _ => rfl))) (blkOk_by (own := [("part", 4)]) (N := N__law_cell) (sc := defScope s__law_cell) (by decide +kernel)) (fun _ _ _ _ _ => pg_name (i := 4) nd rfl (Or.inl rfl)) (fun _ _ _ _ _ => pts_nil) (fun _ _ _ _ _ => (pe_call G__law_cell hr__law_cell rfl T.g__law_cell T.k__law_cell T.b__law_cell .nil pass0 (pa_cons (pv 0) (pa_cons (pv 1) (pa_cons (pv 4) pa_nil)))))) pa_nil)) pa_nil)))))), ?_⟩
    obtain ⟨ms, ems, mp, mq⟩ := hK.at hk4
    obtain ⟨l, vs, x, rfl, el, lv, ex, hx⟩ := kinds_at hv ems
    obtain ⟨l2, vs2, rfl, el2, lm2⟩ := makers_len hx
    refine ⟨_, rfl, _, rfl, _, rfl, l, vs, _, _, rfl, rfl, SqL.of el, atI_nat ex, l2, _, rfl, .inl (SqL.of el2), dk, vs2.length, rfl, by omega, hd, fun m H1 hm b1 d1 => ?_⟩
    have hv1 := hv.to b1
    obtain ⟨l', vs', x', e', el', lv', ex', hx'⟩ := kinds_at hv1 ems
    cases e'
    have hm' : m < ms.length := by omega
    obtain ⟨l3, vs3, y, rfl, el3, lv3, ey, hy⟩ := makers_at hx' (List.getElem?_eq_getElem hm')
    obtain ⟨lp, rfl, ep, np⟩ := hy
    have epk := parts_of ems (List.getElem?_eq_getElem hm')
    obtain ⟨hpl, hpk⟩ := hK.parts k m _ epk
    generalize ms[m] = ps at *
    try dsimp only [gName, tSeq, tAsg]
    refine ⟨_, rfl, _, rfl, _, rfl, l, vs', _, _, rfl, rfl, SqL.of el', atI_nat ex', _, rfl, l3, vs3, _, _, rfl, rfl, SqL.of el3, atI_nat ey, lp, rfl, ⟨_, SqL.of ep⟩, fun D hD => lc_list (K := K) (a := lp) (xs := natVs ps) (fun j H' => ∃ ws cs, But1 H1 H' dk ∧ DeckAt H' dk ∧ H' D = some (.lst ws) ∧ CellsAt K H' ws cs ∧ CellsK kinds cs (ps.take j))
      ⟨[], [], But1.of_same (same_new hD), d1.same (same_new hD), upd_same, cells_nil.mpr rfl, by rw [List.take_zero]; exact cellsK_nil.mpr rfl⟩ (fun j H' _ ⟨ws, cs, b, _⟩ => SqL.of (b _ _ ep np)) ?_ ?_⟩
    · rintro j y H2 hy ⟨ws, cs, b2, d2, eD, hws, hcs⟩
      have hj : j < ps.length := by
        have := (List.getElem?_eq_some_iff.mp hy).1
        rw [natVs_len] at this
        omega
      rw [natVs_at (List.getElem?_eq_getElem hj)] at hy
      cases hy
      have hq := hpk _ (List.getElem_mem hj)
      obtain ⟨g, rfl⟩ : ∃ g, f = g + 1 := ⟨f - 1, by omega⟩
      cases hsp g rfl
      refine ⟨rfl, ?_⟩
      refine ⟨_, rfl, _, rfl, _, rfl, dk, _, kinds, ps[j], rfl, d2, hv1.to b2, hK, by omega, by omega, fun u c H3 b3 d3 hu huk => ?_⟩
      have nD := d2.ne_new (l := D)
      have ndD : D ≠ dk := fun z => by
        have := d1.ne_new hD
        exact this z.symm
      have eD3 := b3 _ _ eD ndD
      have lw := cells_len hws
      have lk := cellsK_len hcs
      rw [List.length_take] at lk
      have t := d2.tex b3
      have t2 := TEx.upd_lst (ys := ws ++ [u]) eD3
      refine ⟨ws, eD3, sl_lt (by omega), ws ++ [u], cs ++ [c], fun b o e n => ?_, d3.but (fun z => ndD z.symm) (fun b o e n => by rw [upd_ne n]; exact e), upd_same, cells_snoc ((hws.to t).to t2) (hu.to t2), ?_⟩
      · rw [upd_ne (ne_of_none e hD)]
        exact b3 _ _ (b2 _ _ e n) n
      · rw [List.take_succ, List.getElem?_eq_getElem hj]
        exact cellsK_append hcs (cellsK_one huk)
    · rintro H2 ⟨ws, cs, b2, d2, eD, hws, hcs⟩
      rw [natVs_len, List.take_length] at hcs
      refine ⟨D, ws, rfl, .inl ⟨SqL.of eD, fun q hq => ⟨sl_le (by show 2 ≤ 10000000; decide), fun r hr => ?_⟩⟩⟩
      have s3 := same_new (o := .tup ws) hq
      have s4 := same_new (o := .tup [.int (m : Int), .ref q]) hr
      have s34 := s3.trans s4
      exact kk _ (.mk (m : Int) cs) _ ((b1.trans b2).same s34) (d2.same s34) (cellAt_mk.mpr ⟨r, q, ws, rfl, SqT.of upd_same, SqT.of (s4 _ _ upd_same), hws.to (TEx.of_same s34)⟩) (cellK_mk.mpr ⟨m, ps, rfl, epk, hcs⟩)
theorem ok_cell (T : Txt K mg) : ∀ f, FnOk P w K mg base CX0 (f + 2) T.f__law_cell T.fd__law_cell ["deck", "kinds", "kind"] (spCell K f)
  | 0 => ok_cell0 T 0 (sp' := spNo) (T.F__law_cell.ok sc__law_cell (fun vs H Q E h => h.elim) (fun cdv A outer sh H vs Q E hr h => h.elim)) (fun m e => by cases e)
  | f + 1 => ok_cell0 T (f + 1) (ok_cell T f) (fun m e => by cases e; rfl)
theorem weights_snoc (c : Cell) : ∀ (l : List Cell) (k : Nat) (w : Int), weightsC (l ++ [c]) k w = weightsC l k w * 5 + (((k + l.length : Nat) : Int) + 2) * weightC c
  | [], k, w => by simp [weightsC]
  | d :: r, k, w => by
    rw [List.cons_append, weightsC, weights_snoc c r, weightsC, List.length_cons, show k + 1 + r.length = k + (r.length + 1) by omega]
abbrev N__law_weight : List Str := ["cell", "weight", "k"]
theorem sc__law_weight : FnScope N__law_weight ["cell"] (defScope s__law_weight) := ⟨rfl, rfl, rfl, by decide +kernel, rfl, by decide +kernel, by decide +kernel⟩
def spWeight (K : PySem.W.Frag) (d : Nat) : Sp := fun vs H Q _ => ∃ (v : V) (c : Cell), vs = [v] ∧ CellAt K H v c ∧ c.depth ≤ d ∧ c.size ≤ 1000000 ∧ ∀ (H' : Hp), H' = H → Q (.int (weightC c)) H'
theorem ok_weight0 (T : Txt K mg) (f : Nat) {sp' : Sp} (G__law_weight : FnOk P w K mg base CX0 (f + 1) T.f__law_weight T.fd__law_weight ["cell"] sp') (hsp : ∀ g, f = g + 1 → sp' = spWeight K g) : FnOk P w K mg base CX0 (f + 2) T.f__law_weight T.fd__law_weight ["cell"] (spWeight K f) := by
  refine T.F__law_weight.ok sc__law_weight (fun vs H Q E h => ?_) (fun cdv A outer sh H vs Q E hr h => ?_)
  · obtain ⟨v, c, rfl, _⟩ := h
    rfl
  · obtain ⟨v, c, rfl, hv, hdp, hsz, kk⟩ := h
    have nd := sc__law_weight.nd
    have hr__law_weight : Room (f + 1) _ := hr
    refine ⟨_, (pss_cons (ps_set (i := 1) nd rfl (Or.inl rfl) (pe_op op_add pe_int (pe_ix ix_tup (pv 0) pe_int (fun _ _ => rfl))))
          (pss_cons (ps_for PassesOwn.never rfl (pi_range1 rfl T.z_range (pa_cons (pe_callB call_len_seq (by rfl) T.z_len (by decide +kernel) (pa_cons (pe_ix ix_tup (pv 0) pe_int (fun _ _ => rfl)) pa_nil)) pa_nil)) (pg_name (i := 2) nd rfl (Or.inl rfl))
            (pss_one (ps_set (i := 1) nd rfl (Or.inl rfl) (pe_op op_add (pe_op op_mul (pv 1) pe_int) (pe_op op_mul (pe_op op_add (pv 2) pe_int) (pe_call G__law_weight hr__law_weight rfl T.g__law_weight T.k__law_weight T.b__law_weight .nil pass0 (pa_cons (pe_ix ix_tup (pe_ix ix_tup (pv 0) pe_int (fun _ _ => rfl)) (pv 2) (fun _ _ => rfl)) pa_nil)))))))
          (pss_one (ps_ret (pv 1))))), ?_⟩
    obtain ⟨n, cs⟩ := c
    obtain ⟨a, b, ws, rfl, h1, h2, h3⟩ := cellAt_mk.mp hv
    have lw := cells_len h3
    rw [Cell.depth] at hdp
    rw [Cell.size] at hsz
    refine ⟨_, rfl, a, _, _, _, rfl, rfl, h1, rfl, _, _, rfl, rfl, ?_⟩
    try dsimp only [gName, tSeq, tAsg]
    have ll := length_le_sizes cs
    refine ⟨_, rfl, a, _, _, _, rfl, rfl, h1, rfl, b, ws, rfl, .inr h2, _, rfl, by omega, by omega, for_range (lo := 0) (n := ws.length) (fun i σ H' => ∃ x2, σ = [some (.ref a), some (.int (weightsC (cs.take i) 0 (1 + n))), x2] ∧ H = H') ⟨none, by simp [weightsC]; rfl, rfl⟩ ?_ ?_⟩
    · rintro i σ H' hi ⟨x2, rfl, rfl⟩
      have hi2 : i < cs.length := by omega
      obtain ⟨v, ev, hvc⟩ := cells_get h3 (List.getElem?_eq_getElem hi2)
      have hdc := depths_mem (List.getElem_mem hi2)
      have hsc := sizes_mem (List.getElem_mem hi2)
      obtain ⟨g, rfl⟩ : ∃ g, f = g + 1 := ⟨f - 1, by omega⟩
      cases hsp g rfl
      rw [show (0 : Int) + (i : Int) = (i : Int) by omega]
      refine ⟨_, rfl, _, _, rfl, rfl, .inr ⟨by decide, by decide⟩, _, rfl, _, _, rfl, rfl, _, rfl, a, _, _, _, rfl, rfl, h1, rfl, _, rfl, b, ws, _, v, rfl, rfl, h2, atI_nat ev, v, _, rfl, hvc, by omega, by omega, fun H' eH => ⟨_, _, rfl, rfl, .inl ⟨by omega, by omega⟩, _, _, rfl, rfl, ?_⟩⟩
      subst eH
      refine ⟨some (.int (i : Int)), ?_, rfl⟩
      rw [List.take_succ, List.getElem?_eq_getElem hi2, Option.toList_some, weights_snoc, Nat.zero_add, List.length_take, Nat.min_eq_left (by omega)]
      rfl
    · rintro σ H' ⟨x2, rfl, rfl⟩
      refine ⟨_, rfl, ?_⟩
      rw [lw, List.take_length]
      have := kk H rfl
      rw [weightC] at this
      exact this
theorem ok_weight (T : Txt K mg) : ∀ f, FnOk P w K mg base CX0 (f + 2) T.f__law_weight T.fd__law_weight ["cell"] (spWeight K f)
  | 0 => ok_weight0 T 0 (sp' := spNo) (T.F__law_weight.ok sc__law_weight (fun vs H Q E h => h.elim) (fun cdv A outer sh H vs Q E hr h => h.elim)) (fun m e => by cases e)
  | f + 1 => ok_weight0 T (f + 1) (ok_weight T f) (fun m e => by cases e; rfl)
end
end K87

set_option Elab.async false
set_option linter.all false
set_option maxRecDepth 100000
set_option maxHeartbeats 4000000
namespace K87
open PySem PySem.Spec PyProof.Rows L2 Ru Rp Mch
section
variable {P : Program} {w : World} {K : PySem.W.Frag} {mg : Str → Option Value} {base : Heap}
abbrev N__law_picked : List Str := ["kinds", "kind", "n", "maker", "part"]
theorem sc__law_picked : FnScope N__law_picked ["kinds", "kind", "n"] (defScope s__law_picked) := ⟨rfl, rfl, rfl, by decide +kernel, rfl, by decide +kernel, by decide +kernel⟩
def spPicked (K : PySem.W.Frag) (f : Nat) : Sp := fun vs H Q _ => ∃ (dk : Addr) (v : V) (kinds : Kinds) (k : Nat) (n : Int), vs = [v, .int (k : Int), .int n] ∧ KindsAt H dk v kinds ∧ KindsOk kinds ∧ k < f ∧ k < 4 ∧ ∀ (u : V) (H' : Hp), Same H H' → CellAt K H' u (pickF kinds f k n) → Q u H'
theorem ok_picked0 (T : Txt K mg) (f : Nat) {sp' : Sp} (G__law_picked : FnOk P w K mg base CX0 (f + 1) T.f__law_picked T.fd__law_picked ["kinds", "kind", "n"] sp') (hsp : ∀ g, f = g + 1 → sp' = spPicked K g) : FnOk P w K mg base CX0 (f + 2) T.f__law_picked T.fd__law_picked ["kinds", "kind", "n"] (spPicked K f) := by
  refine T.F__law_picked.ok sc__law_picked (fun vs H Q E h => ?_) (fun cdv A outer sh H vs Q E hr h => ?_)
  · obtain ⟨dk, v, kinds, k, n, rfl, _⟩ := h
    rfl
  · obtain ⟨dk, v, kinds, k, n, rfl, hv, hK, hk, hk4, kk⟩ := h
    have nd := sc__law_picked.nd
    have hr__law_picked : Room (f + 1) _ := hr
    refine ⟨_, (pss_cons (ps_set (i := 3) nd rfl (Or.inl rfl) (pe_op op_modN (pe_callTy call_int1 (by rfl) T.z_int (by decide +kernel) (pa_cons (pv 2) pa_nil)) (pe_callB call_len_seq (by rfl) T.z_len (by decide +kernel) (pa_cons (pe_ix ix_list (pv 0) (pv 1) (fun _ _ => rfl)) pa_nil))))
          (pss_one (ps_ret (pe_tup (pa_cons (pv 3) (pa_cons (pe_callTy call_tuple_of (by rfl) T.z_tuple (by decide +kernel) (pa_cons (pe_lc (own := [("part", 4)]) (g := gName 4) (tt := tYes) rfl nd (pi_list (pe_ix ix_list (pe_ix ix_list (pv 0) (pv 1) (fun _ _ => rfl)) (pv 3) (fun _ _ => rfl))) (blkOk_by (own := [("part", 4)]) (N := N__law_picked) (sc := defScope s__law_picked) (by decide +kernel)) (fun _ _ _ _ _ => pg_name (i := 4) nd rfl (Or.inl rfl)) (fun _ _ _ _ _ => pts_nil) (fun _ _ _ _ _ => (pe_call G__law_picked hr__law_picked rfl T.g__law_picked T.k__law_picked T.b__law_picked .nil pass0 (pa_cons (pv 0) (pa_cons (pv 4) (pa_cons (pe_op op_add (pe_op op_fdiv (pe_callTy call_int1 (by rfl) T.z_int (by decide +kernel) (pa_cons (pv 2) pa_nil)) pe_int) pe_int) pa_nil)))))) pa_nil)) pa_nil)))))), ?_⟩
    obtain ⟨ms, ems, mp, mq⟩ := hK.at hk4
    obtain ⟨l, vs, x, rfl, el, lv, ex, hx⟩ := kinds_at hv ems
    obtain ⟨l2, vs2, rfl, el2, lm2⟩ := makers_len hx
    obtain ⟨g, rfl⟩ : ∃ g, f = g + 1 := ⟨f - 1, by omega⟩
    cases hsp g rfl
    have e1 : 0 ≤ Int.fmod n ((ms.length : Nat) : Int) := by rw [Int.fmod_eq_emod_of_nonneg _ (by omega)]; exact Int.emod_nonneg _ (by omega)
    have e2 : Int.fmod n ((ms.length : Nat) : Int) < ((ms.length : Nat) : Int) := by rw [Int.fmod_eq_emod_of_nonneg _ (by omega)]; exact Int.emod_lt_of_pos _ (by omega)
    refine ⟨_, rfl, .inl ⟨_, rfl, _, rfl, _, rfl, l, vs, _, _, rfl, rfl, SqL.of el, atI_nat ex, l2, _, rfl, .inl (SqL.of el2), _, _, rfl, rfl, (by rw [lm2]; omega), ?_⟩⟩
    rw [lm2]
    rw [pickF] at kk
    rw [ems] at kk
    have kk' : ∀ (u : V) (H' : Hp), Same H H' → CellAt K H' u (.mk (((Int.fmod n ((ms.length : Nat) : Int)).toNat : Nat) : Int) (((partsOf kinds k (Int.fmod n ((ms.length : Nat) : Int)).toNat).getD []).map fun p => pickF kinds g p (n / 3 + 1))) → Q u H' := kk
    have hm' : (Int.fmod n ((ms.length : Nat) : Int)).toNat < ms.length := by omega
    have em : Int.fmod n ((ms.length : Nat) : Int) = (((Int.fmod n ((ms.length : Nat) : Int)).toNat : Nat) : Int) := by omega
    try dsimp only [gName, tSeq, tAsg]
    rw [em]
    clear kk
    generalize (Int.fmod n ((ms.length : Nat) : Int)).toNat = m at *
    obtain ⟨l3, vs3, y, e3, el3, lv3, ey, hy⟩ := makers_at hx (List.getElem?_eq_getElem hm')
    cases e3
    obtain ⟨lp, rfl, ep, np⟩ := hy
    have epk := parts_of ems (List.getElem?_eq_getElem hm')
    obtain ⟨hpl, hpk⟩ := hK.parts k m _ epk
    rw [epk] at kk'
    generalize ms[m] = ps at *
    refine ⟨_, rfl, _, rfl, _, rfl, l, vs, _, _, rfl, rfl, SqL.of el, atI_nat ex, _, rfl, l2, vs3, _, _, rfl, rfl, SqL.of el3, atI_nat ey, lp, rfl, ⟨_, SqL.of ep⟩, fun D hD => lc_list (K := K) (a := lp) (xs := natVs ps) (fun j H' => ∃ ws, Same H H' ∧ H' D = some (.lst ws) ∧ CellsAt K H' ws ((ps.take j).map fun p => pickF kinds g p (n / 3 + 1)))
      ⟨[], same_new hD, upd_same, by rw [List.take_zero]; exact cells_nil.mpr rfl⟩ (fun j H' _ ⟨ws, s, _⟩ => SqL.of (s _ _ ep)) ?_ ?_⟩
    · rintro j y H2 hy ⟨ws, s2, eD, hws⟩
      have hj : j < ps.length := by
        have := (List.getElem?_eq_some_iff.mp hy).1
        rw [natVs_len] at this
        omega
      rw [natVs_at (List.getElem?_eq_getElem hj)] at hy
      cases hy
      have hq := hpk _ (List.getElem_mem hj)
      refine ⟨rfl, ?_⟩
      refine ⟨_, rfl, _, rfl, _, rfl, .inl ⟨_, rfl, _, _, rfl, rfl, ⟨by decide, by decide⟩, _, _, rfl, rfl, dk, _, kinds, ps[j], n / 3 + 1, rfl, hv.to (but1_same s2), hK, by omega, by omega, fun u H3 s3 hu => ?_⟩⟩
      have eD3 := s3 _ _ eD
      have lw := cells_len hws
      rw [List.length_map, List.length_take] at lw
      have t2 := TEx.upd_lst (ys := ws ++ [u]) eD3
      refine ⟨ws, eD3, sl_lt (by omega), ws ++ [u], fun b o e => ?_, upd_same, ?_⟩
      · rw [upd_ne (ne_of_none e hD)]
        exact s3 _ _ (s2 _ _ e)
      · rw [List.take_succ, List.getElem?_eq_getElem hj, Option.toList_some, List.map_append]
        exact cells_snoc ((hws.to (TEx.of_same s3)).to t2) (hu.to t2)
    · rintro H2 ⟨ws, s2, eD, hws⟩
      rw [natVs_len, List.take_length] at hws
      refine ⟨D, ws, rfl, .inl ⟨SqL.of eD, fun q hq => ⟨sl_le (by show 2 ≤ 10000000; decide), fun r hr => ?_⟩⟩⟩
      have s3 := same_new (o := .tup ws) hq
      have s4 := same_new (o := .tup [.int (m : Int), .ref q]) hr
      have s34 := s3.trans s4
      exact kk' _ _ (s2.trans s34) (cellAt_mk.mpr ⟨r, q, ws, rfl, SqT.of upd_same, SqT.of (s4 _ _ upd_same), hws.to (TEx.of_same s34)⟩)
theorem ok_picked (T : Txt K mg) : ∀ f, FnOk P w K mg base CX0 (f + 2) T.f__law_picked T.fd__law_picked ["kinds", "kind", "n"] (spPicked K f)
  | 0 => ok_picked0 T 0 (sp' := spNo) (T.F__law_picked.ok sc__law_picked (fun vs H Q E h => h.elim) (fun cdv A outer sh H vs Q E hr h => h.elim)) (fun m e => by cases e)
  | f + 1 => ok_picked0 T (f + 1) (ok_picked T f) (fun m e => by cases e; rfl)
abbrev N__law_does : List Str := ["kinds", "defs", "module", "name", "cells", "one", "n", "cell"]
theorem sc__law_does : FnScope N__law_does ["kinds", "defs", "module", "name", "cells"] (defScope s__law_does) := ⟨rfl, rfl, rfl, by decide +kernel, rfl, by decide +kernel, by decide +kernel⟩
def spDoes (K : PySem.W.Frag) : Sp := fun vs H Q _ => ∃ (dk c : Addr) (v vd : V) (kinds : Kinds) (defs : List Df) (mo na : Str) (cv : List V) (cs : List Cell), vs = [v, vd, .str mo, .str na, .ref c] ∧ KindsAt H dk v kinds ∧ KindsOk kinds ∧ DfsAt K H dk vd defs ∧ (∀ d ∈ defs, d.kind < 4) ∧ SqT K H c cv ∧ CellsAt K H cv cs ∧ depths cs ≤ 4 ∧ sizes cs ≤ 100000 ∧
  ∀ (u : V) (H' : Hp), Same H H' → (doesF kinds defs (mo, na) cs = none → u = .non) → (∀ x, doesF kinds defs (mo, na) cs = some x → CellAt K H' u x) → Q u H'
theorem ok_does (T : Txt K mg) : FnOk P w K mg base CX0 7 T.f__law_does T.fd__law_does ["kinds", "defs", "module", "name", "cells"] (spDoes K) := by
  refine T.F__law_does.ok sc__law_does (fun vs H Q E h => ?_) (fun cdv A outer sh H vs Q E hr h => ?_)
  · obtain ⟨dk, c, v, vd, kinds, defs, mo, na, cv, cs, rfl, _⟩ := h
    rfl
  · obtain ⟨dk, c, v, vd, kinds, defs, mo, na, cv, cs, rfl, hv, hK, hd, hdk, hc, hcc, hdep, hsz, kk⟩ := h
    have nd := sc__law_does.nd
    have G__law_weight : FnOk P w K mg base CX0 6 T.f__law_weight T.fd__law_weight ["cell"] (spWeight K 4) := ok_weight T 4
    have hr__law_weight : Room 6 _ := hr
    have G__law_picked : FnOk P w K mg base CX0 6 T.f__law_picked T.fd__law_picked ["kinds", "kind", "n"] (spPicked K 4) := ok_picked T 4
    have hr__law_picked : Room 6 _ := hr
    refine ⟨_, (pss_cons (ps_for PassesOwn.never rfl (pi_list (pv 1)) (pg_name (i := 5) nd rfl (Or.inl rfl))
            (pss_one (ps_if (PW.pt (pw_and (pt_cmpR op_eq (pe_ix ix_tup (pv 5) pe_int (fun _ _ => rfl)) (pv 2) (nomark _)) (pw_and (pt_cmpR op_eq (pe_ix ix_tup (pv 5) pe_int (fun _ _ => rfl)) (pv 3) (nomark _)) (pw_and1 (pt_cmpR op_eq (pe_callB call_len_seq (by rfl) T.z_len (by decide +kernel) (pa_cons (pv 4) pa_nil)) (pe_callB call_len_seq (by rfl) T.z_len (by decide +kernel) (pa_cons (pe_ix ix_tup (pv 5) pe_int (fun _ _ => rfl)) pa_nil)) (nomark _))))))
              (pss_cons (ps_set (i := 6) nd rfl (Or.inl rfl) pe_int)
              (pss_cons (ps_for PassesOwn.never rfl (pi_tup (pv 4)) (pg_name (i := 7) nd rfl (Or.inl rfl))
                (pss_one (ps_set (i := 6) nd rfl (Or.inl rfl) (pe_op op_add (pe_op op_mul (pv 6) pe_int) (pe_call G__law_weight hr__law_weight rfl T.g__law_weight T.k__law_weight T.b__law_weight .nil pass0 (pa_cons (pv 7) pa_nil))))))
              (pss_one (ps_ret (pe_call G__law_picked hr__law_picked rfl T.g__law_picked T.k__law_picked T.b__law_picked .nil pass0 (pa_cons (pv 0) (pa_cons (pe_ix ix_tup (pv 5) pe_int (fun _ _ => rfl)) (pa_cons (pv 6) pa_nil))))))))
              pss_nil)))
          (pss_one (ps_ret pe_non))), ?_⟩
    obtain ⟨l, vs, rfl, el, nl, pd⟩ := hd
    have ld : vs.length = defs.length := Paired.length pd
    have ll := length_le_sizes cs
    have lc := cells_len hcc
    refine ⟨_, rfl, l, rfl, ⟨_, SqL.of el⟩, for_list (K := K) (a := l) (xs := vs) (fun i σ H' => ∃ (x5 x6 x7 : Option V), σ = [some v, some (.ref l), some (.str mo), some (.str na), some (.ref c), x5, x6, x7] ∧ H = H' ∧ doesF kinds defs (mo, na) cs = doesF kinds (defs.drop i) (mo, na) cs) ⟨none, none, none, rfl, rfl, by rw [List.drop_zero]⟩ (fun i σ H' _ ⟨_, _, _, _, e, _⟩ => by rw [← e]; exact SqL.of el) ?_ ?_⟩
    · rintro i y σ H' hy ⟨x5, x6, x7, rfl, rfl, hdo⟩
      have hi : i < defs.length := by
        have := (List.getElem?_eq_some_iff.mp hy).1
        omega
      obtain ⟨y', e1, e2⟩ := paired_get pd (List.getElem?_eq_getElem hi)
      rw [hy] at e1
      cases e1
      have hdi := hdk _ (List.getElem_mem hi)
      have edrop : defs.drop i = defs[i] :: defs.drop (i + 1) := List.drop_eq_getElem_cons hi
      rw [edrop] at hdo
      generalize defs[i] = d at *
      obtain ⟨a, lg, rfl, hs, eg, ng⟩ := e2
      rw [doesF] at hdo
      try dsimp only [gName, tSeq, tAsg]
      have stay : d.fits (mo, na) cs = false → doesF kinds defs (mo, na) cs = doesF kinds (defs.drop (i + 1)) (mo, na) cs := fun hf => by
        rw [hdo, if_neg (by rw [hf]; simp)]
      by_cases c1 : d.mo = mo
      · refine ⟨_, rfl, a, _, _, _, rfl, rfl, hs, rfl, _, rfl, rfl, _, rfl, isT (by rw [c1]) ?_⟩
        by_cases c2 : d.na = na
        · refine ⟨_, rfl, a, _, _, _, rfl, rfl, hs, rfl, _, rfl, rfl, _, rfl, isT (by rw [c2]) ?_⟩
          refine ⟨_, rfl, c, _, rfl, .inr hc, _, rfl, a, _, _, _, rfl, rfl, hs, rfl, lg, _, rfl, .inl (SqL.of eg), rfl, _, rfl, ?_⟩
          rw [natVs_len]
          by_cases c3 : cs.length = d.givens.length
          · have hfit : d.fits (mo, na) cs = true := by unfold Df.fits; simp [c1, c2, c3]
            rw [if_pos hfit] at hdo
            refine isT (by rw [lc, c3]) ?_
            try dsimp only [gName, tSeq, tAsg]
            refine ⟨_, rfl, c, rfl, ⟨_, hc⟩, for_tup (K := K) (a := c) (xs := cv) (fun j σ H' => ∃ (x7 : Option V), σ = [some v, some (.ref l), some (.str mo), some (.str na), some (.ref c), some (.ref a), some (.int (doesN (cs.take j) 3)), x7] ∧ H = H') ⟨x7, rfl, rfl⟩ (fun j σ H' _ ⟨_, _, e⟩ => by rw [← e]; exact hc) ?_ ?_⟩
            · rintro j z σ H' hz ⟨y7, rfl, rfl⟩
              have hj : j < cs.length := by
                have := (List.getElem?_eq_some_iff.mp hz).1
                omega
              obtain ⟨z', ez, hz2⟩ := cells_get hcc (List.getElem?_eq_getElem hj)
              rw [hz] at ez
              cases ez
              have hdc := depths_mem (List.getElem_mem hj)
              have hsc := sizes_mem (List.getElem_mem hj)
              refine ⟨_, rfl, _, _, rfl, rfl, .inr ⟨by decide, by decide⟩, _, rfl, z, _, rfl, hz2, by omega, by omega, fun H' eH => ⟨_, _, rfl, rfl, ?_⟩⟩
              subst eH
              refine ⟨some z, ?_, rfl⟩
              have ds : ∀ (q : List Cell) (x : Cell) (n : Int), doesN (q ++ [x]) n = doesN q n * 7 + weightC x := by
                intro q x
                induction q with
                | nil => intro n; rfl
                | cons u r ih => intro n; exact ih _
              rw [List.take_succ, List.getElem?_eq_getElem hj, Option.toList_some, ds]
              rfl
            · rintro σ H' ⟨y7, rfl, rfl⟩
              rw [lc, List.take_length]
              refine ⟨_, rfl, _, rfl, a, _, _, _, rfl, rfl, hs, rfl, _, rfl, dk, _, kinds, d.kind, doesN cs 3, rfl, hv, hK, hdi, hdi, fun u H3 s3 hu => ?_⟩
              refine kk u H3 s3 (fun z => ?_) (fun x hx => ?_)
              · rw [hdo] at z; cases z
              · rw [hdo] at hx; cases hx; exact hu
          · have hfit : d.fits (mo, na) cs = false := by unfold Df.fits; simp [c3]
            refine isF (fun z => ?_) ⟨_, _, _, rfl, rfl, stay hfit⟩
            injection z with z
            rw [lc] at z
            exact c3 (by omega)
        · have hfit : d.fits (mo, na) cs = false := by unfold Df.fits; simp [c2]
          exact ⟨_, rfl, a, _, _, _, rfl, rfl, hs, rfl, _, rfl, rfl, _, rfl, isF (nstr c2) (iteF ⟨_, _, _, rfl, rfl, stay hfit⟩)⟩
      · have hfit : d.fits (mo, na) cs = false := by unfold Df.fits; simp [c1]
        exact ⟨_, rfl, a, _, _, _, rfl, rfl, hs, rfl, _, rfl, rfl, _, rfl, isF (nstr c1) (iteF ⟨_, _, _, rfl, rfl, stay hfit⟩)⟩
    · rintro σ H' ⟨x5, x6, x7, rfl, rfl, hdo⟩
      rw [ld, List.drop_length] at hdo
      have hn : doesF kinds defs (mo, na) cs = none := hdo
      exact kk .non H (Same.refl H) (fun _ => rfl) (fun x hx => by rw [hn] at hx; cases hx)
end
end K87

set_option Elab.async false
set_option linter.all false
set_option maxRecDepth 100000
set_option maxHeartbeats 4000000
namespace K87
open PySem PySem.Spec PyProof.Rows L2 Ru Rp Mch
/-- a form's tree, when it is a maker's -/
theorem form_make {K : PySem.W.Frag} {H : Hp} {v : V} {m : Nat} {fs : Forms} (h : TrAt K H v (formT (.make m fs))) : ∃ a b ws, v = .ref a ∧ SqT K H a [.str "make", .int (m : Int), .ref b] ∧ SqT K H b ws ∧ TrsAt K H ws (formsT fs) := by
  obtain ⟨a, vs, rfl, h1, h2⟩ := tr_t.mp h
  obtain ⟨v0, q0, rfl, g0, r0⟩ := trs_cons.mp h2
  obtain ⟨v1, q1, rfl, g1, r1⟩ := trs_cons.mp r0
  obtain ⟨v2, q2, rfl, g2, r2⟩ := trs_cons.mp r1
  obtain rfl := tr_s.mp g0
  obtain rfl := tr_i.mp g1
  obtain rfl := trs_nil.mp r2
  obtain ⟨b, ws, rfl, h3, h4⟩ := tr_t.mp g2
  exact ⟨a, b, ws, rfl, h1, h3, h4⟩
theorem form_word {K : PySem.W.Frag} {H : Hp} {v : V} {f : Form} (h : TrAt K H v (formT f)) : ∃ a rest, v = .ref a ∧ SqT K H a (.str f.word :: rest) := by
  cases f with
  | any =>
    obtain ⟨a, vs, rfl, h1, h2⟩ := tr_t.mp h
    obtain ⟨v0, q0, rfl, g0, r0⟩ := trs_cons.mp h2
    obtain rfl := tr_s.mp g0
    exact ⟨a, q0, rfl, h1⟩
  | bind =>
    obtain ⟨a, vs, rfl, h1, h2⟩ := tr_t.mp h
    obtain ⟨v0, q0, rfl, g0, r0⟩ := trs_cons.mp h2
    obtain rfl := tr_s.mp g0
    exact ⟨a, q0, rfl, h1⟩
  | make m fs =>
    obtain ⟨a, b, ws, rfl, h1, _⟩ := form_make h
    exact ⟨a, _, rfl, h1⟩
theorem formsK_at {kinds : Kinds} : ∀ {fs : Forms} {ps : List Nat} {i : Nat} {f : Form} {p : Nat}, FormsK kinds fs ps → fs.list[i]? = some f → ps[i]? = some p → FormK kinds f p
  | .nil, ps, i, f, p, h, e, _ => by simp [Forms.list] at e
  | .cons g r, ps, i, f, p, h, e1, e2 => by
    rw [FormsK] at h
    obtain ⟨k, q, rfl, h1, h2⟩ := h
    cases i with
    | zero =>
      have e1' : g = f := by simpa [Forms.list] using e1
      have e2' : k = p := by simpa using e2
      subst e1' e2'
      exact h1
    | succ i => exact formsK_at h2 (by simpa [Forms.list] using e1) (by simpa using e2)
theorem formsK_len {kinds : Kinds} : ∀ {fs : Forms} {ps : List Nat}, FormsK kinds fs ps → fs.list.length = ps.length
  | .nil, ps, h => by rw [FormsK] at h; subst h; rfl
  | .cons g r, ps, h => by
    rw [FormsK] at h
    obtain ⟨k, q, rfl, h1, h2⟩ := h
    simp [Forms.list, formsK_len h2]
theorem form_at {K : PySem.W.Frag} {H : Hp} {fs : Forms} {ws : List V} {i : Nat} {f : Form} (h : TrsAt K H ws (formsT fs)) (e : fs.list[i]? = some f) : ∃ v, ws[i]? = some v ∧ TrAt K H v (formT f) := trs_at h (by rw [formsT_list, List.getElem?_map, e]; rfl)
theorem dep_form {fs : Forms} {m : Nat} {f : Form} {i : Nat} (e : fs.list[i]? = some f) : (formT f).dep + 2 ≤ (formT (.make m fs)).dep := by
  have h : formT f ∈ formsT fs := by
    rw [formsT_list]
    exact List.mem_map.mpr ⟨f, List.mem_of_getElem? e, rfl⟩
  have := depsT_mem h
  rw [formT, Tr.dep, depsT, depsT, depsT, depsT, Tr.dep, Tr.dep, Tr.dep]
  omega
theorem isNF {x y : V} {A B : Prop} (e : x = y) (h : B) : if (!decide (x = y)) = true then A else B := by
  rw [if_neg (by simp [e])]; exact h
section
variable {P : Program} {w : World} {K : PySem.W.Frag} {mg : Str → Option Value} {base : Heap}
abbrev N__law_spots : List Str := ["kinds", "kind", "form", "own", "parts", "more", "k"]
theorem sc__law_spots : FnScope N__law_spots ["kinds", "kind", "form", "own"] (defScope s__law_spots) := ⟨rfl, rfl, rfl, by decide +kernel, rfl, by decide +kernel, by decide +kernel⟩
def spSpots (K : PySem.W.Frag) (n : Nat) : Sp := fun vs H Q _ => ∃ (dk : Addr) (v u : V) (kinds : Kinds) (k : Nat) (f : Form) (o : Bool), vs = [v, .int (k : Int), u, .bl o] ∧ KindsAt H dk v kinds ∧ KindsOk kinds ∧ k < 4 ∧ TrAt K H u (formT f) ∧ FormK kinds f k ∧ (formT f).dep ≤ n ∧ ∀ (r : Int) (H' : Hp), Same H H' → Q (.int r) H'
theorem ok_spots0 (T : Txt K mg) (n : Nat) {sp' : Sp} (G__law_spots : FnOk P w K mg base CX0 (n + 1) T.f__law_spots T.fd__law_spots ["kinds", "kind", "form", "own"] sp') (hsp : ∀ g, n = g + 1 → sp' = spSpots K g) : FnOk P w K mg base CX0 (n + 2) T.f__law_spots T.fd__law_spots ["kinds", "kind", "form", "own"] (spSpots K n) := by
  refine T.F__law_spots.ok sc__law_spots (fun vs H Q E h => ?_) (fun cdv A outer sh H vs Q E hr h => ?_)
  · obtain ⟨dk, v, u, kinds, k, f, o, rfl, _⟩ := h
    rfl
  · obtain ⟨dk, v, u, kinds, k, f, o, rfl, hv, hK, hk4, hu, hf, hn, kk⟩ := h
    have nd := sc__law_spots.nd
    have hr__law_spots : Room (n + 1) _ := hr
    refine ⟨_, (pss_cons (ps_if (pt_cmpR op_ne (pe_ix ix_tup (pv 2) pe_int (fun _ _ => rfl)) pe_str (nomark _))
            (pss_one (ps_ret pe_int))
            pss_nil)
          (pss_cons (ps_set (i := 4) nd rfl (Or.inr rfl) (pe_ix ix_list (pe_ix ix_list (pv 0) (pv 1) (fun _ _ => rfl)) (pe_ix ix_tup (pv 2) pe_int (fun _ _ => rfl)) (fun _ _ => rfl)))
          (pss_cons (ps_set (i := 5) nd rfl (Or.inl rfl) (pe_callB (cr_sum rfl) (by rfl) T.z_sum (by decide +kernel) (pa_cons (pe_lc (own := [("k", 6)]) (g := gName 6) (tt := tYes) rfl nd (pi_range1 rfl T.z_range (pa_cons (pe_callB call_len_seq (by rfl) T.z_len (by decide +kernel) (pa_cons (pv 4) pa_nil)) pa_nil)) (blkOk_by (own := [("k", 6)]) (N := N__law_spots) (sc := defScope s__law_spots) (by decide +kernel)) (fun _ _ _ _ _ => pg_name (i := 6) nd rfl (Or.inl rfl)) (fun _ _ _ _ _ => pts_nil) (fun _ _ _ _ _ => (pe_call G__law_spots hr__law_spots rfl T.g__law_spots T.k__law_spots T.b__law_spots .nil pass0 (pa_cons (pv 0) (pa_cons (pe_ix (show IxR _ (rIxL K) from ix_list) (pv 4) (pv 6) (fun _ _ => rfl)) (pa_cons (pe_ix (show IxR _ (rIxT K) from ix_tup) (pe_ix (show IxR _ (rIxT K) from ix_tup) (pv 2) pe_int (fun _ _ => rfl)) (pv 6) (fun _ _ => rfl)) (pa_cons pe_bl pa_nil))))))) pa_nil)))
          (pss_one (ps_ret (pe_op op_add (pv 5) (pe_ifExp (PW.pt (pw_and (pt_val (pv 3)) (pw_and1 (pt_cmpR op_gt (pe_callB call_len_seq (by rfl) T.z_len (by decide +kernel) (pa_cons (pe_ix ix_list (pv 0) (pv 1) (fun _ _ => rfl)) pa_nil)) pe_int (nomark _))))) pe_int pe_int))))))), ?_⟩
    obtain ⟨a, rest, rfl, ha⟩ := form_word hu
    refine ⟨_, rfl, a, _, _, _, rfl, rfl, ha, atI_hd, rfl, _, rfl, ?_⟩
    cases f with
    | any => exact isNT (nstr (by decide +kernel)) (kk 0 H (Same.refl H))
    | bind => exact isNT (nstr (by decide +kernel)) (kk 0 H (Same.refl H))
    | make m fs =>
      refine isNF rfl ?_
      obtain ⟨ps, e, hfs⟩ := hf
      obtain ⟨a', b, ws, ea, hs, hb, hws⟩ := form_make hu
      cases ea
      obtain ⟨ms, ems, p1, p2⟩ := hK.at hk4
      obtain ⟨l, vs, x, rfl, el, lv, ex, hx⟩ := kinds_at hv ems
      have ep : ms[m]? = some ps := by
        unfold partsOf at e
        rw [ems] at e
        exact e
      obtain ⟨l2, vs2, y, rfl, el2, lv2, ey, hy⟩ := makers_at hx ep
      obtain ⟨lp, rfl, elp, np⟩ := id hy
      obtain ⟨hpl, hpk⟩ := hK.parts k m ps e
      have lw := trs_len hws
      rw [formsT_list, List.length_map, formsK_len hfs] at lw
      dsimp only [gName, tSeq, tAsg, tNext]
      refine ⟨_, rfl, _, rfl, l, vs, _, _, rfl, rfl, SqL.of el, atI_nat ex, _, rfl, a, _, _, _, rfl, rfl, hs, rfl, l2, vs2, _, _, rfl, rfl, SqL.of el2, atI_nat ey, ?_⟩
      refine ⟨_, rfl, lp, _, rfl, .inl (SqL.of elp), _, rfl, by rw [natVs_len]; omega, by rw [natVs_len]; omega, fun D hD => lc_range (lo := 0) (n := (natVs ps).length) (fun j H' => ∃ ns : List Int, Same H H' ∧ H' D = some (.lst (ns.map V.int)) ∧ ns.length = j) ⟨[], same_new hD, upd_same, rfl⟩ ?_ ?_⟩
      · rintro j H2 hj ⟨ns, s2, eD, ln⟩
        rw [natVs_len] at hj
        refine ⟨rfl, ?_⟩
        obtain ⟨f1, e1⟩ : ∃ f1, fs.list[j]? = some f1 := ⟨_, List.getElem?_eq_getElem (by rw [formsK_len hfs]; exact hj)⟩
        obtain ⟨z, e2, hz⟩ := form_at hws e1
        have e3 := List.getElem?_eq_getElem hj
        have hq := hpk _ (List.getElem_mem hj)
        have hf1 := formsK_at hfs e1 e3
        have hd1 := dep_form (m := m) e1
        obtain ⟨g, rfl⟩ : ∃ g, n = g + 1 := ⟨n - 1, by omega⟩
        cases hsp g rfl
        have ejj : (0 : Int) + (j : Int) = ((j : Nat) : Int) := by omega
        rw [ejj]
        refine ⟨_, rfl, _, rfl, _, rfl, lp, _, _, _, rfl, rfl, SqL.of (s2 _ _ elp), atI_nat (natVs_at e3), ?_⟩
        refine ⟨_, rfl, a, _, _, _, rfl, rfl, (TEx.of_same s2).sq hs, rfl, _, rfl, b, _, _, _, rfl, rfl, (TEx.of_same s2).sq hb, atI_nat e2, dk, _, _, kinds, ps[j], f1, true, rfl, hv.to (but1_same s2), hK, by omega, hz.same s2, hf1, by omega, fun r H3 s3 => ?_⟩
        have eD3 := s3 _ _ eD
        exact ⟨_, eD3, sl_lt (by rw [List.length_map]; omega), ns ++ [r], fun b o e => by rw [upd_ne (ne_of_none e hD)]; exact s3 _ _ (s2 _ _ e), by rw [List.map_append]; exact upd_same, by simp [ln]⟩
      · rintro H2 ⟨ns, s2, eD, ln⟩
        refine ⟨D, ns, rfl, SqL.of eD, ?_⟩
        cases o with
        | false => exact ⟨_, rfl, _, rfl, _, rfl, iteF ⟨_, _, rfl, rfl, kk _ _ s2⟩⟩
        | true =>
          refine ⟨_, rfl, _, rfl, _, rfl, iteT ⟨_, rfl, _, rfl, l, _, _, _, rfl, rfl, SqL.of (s2 _ _ el), atI_nat ex, l2, _, rfl, .inl (SqL.of (s2 _ _ el2)), _, _, rfl, rfl, _, rfl, ?_⟩⟩
          generalize decide (1 < ((vs2.length : Nat) : Int)) = bb
          cases bb with
          | false => exact iteF ⟨_, _, rfl, rfl, kk _ _ s2⟩
          | true => exact iteT ⟨_, _, rfl, rfl, kk _ _ s2⟩
theorem ok_spots (T : Txt K mg) : ∀ n, FnOk P w K mg base CX0 (n + 2) T.f__law_spots T.fd__law_spots ["kinds", "kind", "form", "own"] (spSpots K n)
  | 0 => ok_spots0 T 0 (sp' := spNo) (T.F__law_spots.ok sc__law_spots (fun vs H Q E h => h.elim) (fun cdv A outer sh H vs Q E hr h => h.elim)) (fun m e => by cases e)
  | f + 1 => ok_spots0 T (f + 1) (ok_spots T f) (fun m e => by cases e; rfl)
end
end K87

set_option Elab.async false
set_option linter.all false
set_option maxRecDepth 100000
set_option maxHeartbeats 4000000
namespace K87
open PySem PySem.Spec PyProof.Rows L2 Ru Rp Mch
def Forms.of : List Form → Forms
  | [] => .nil
  | f :: r => .cons f (Forms.of r)
theorem Forms.of_list : ∀ (l : List Form), (Forms.of l).list = l
  | [] => rfl
  | f :: r => by rw [Forms.of, Forms.list, Forms.of_list r]
theorem formsT_of (l : List Form) : formsT (Forms.of l) = l.map formT := by rw [formsT_list, Forms.of_list]
theorem formsK_snoc {kinds : Kinds} {f : Form} {k : Nat} : ∀ {fs : List Form} {qs : List Nat}, FormsK kinds (Forms.of fs) qs → FormK kinds f k → FormsK kinds (Forms.of (fs ++ [f])) (qs ++ [k])
  | [], qs, h, g => by
    rw [Forms.of, FormsK] at h
    subst h
    show FormsK kinds (Forms.of [f]) [k]
    rw [Forms.of, FormsK]
    exact ⟨k, [], rfl, g, by rw [Forms.of, FormsK]⟩
  | e :: r, qs, h, g => by
    rw [Forms.of, FormsK] at h
    obtain ⟨k', q, rfl, h1, h2⟩ := h
    show FormsK kinds (Forms.of (e :: (r ++ [f]))) (k' :: (q ++ [k]))
    rw [Forms.of, FormsK]
    exact ⟨k', _, rfl, h1, formsK_snoc h2 g⟩
theorem formsK_nil {kinds : Kinds} : FormsK kinds (Forms.of []) [] := by rw [Forms.of, FormsK]
theorem formK_leaf {kinds : Kinds} {f : Form} {k : Nat} (h : f = .bind ∨ f = .any) : FormK kinds f k := by
  rcases h with rfl | rfl <;> rw [FormK] <;> trivial
theorem dep_leaf {f : Form} (h : f = .bind ∨ f = .any) : (formT f).dep = 1 := by
  rcases h with rfl | rfl <;> rfl
theorem dep_make {m n : Nat} {fs : List Form} (h : ∀ f ∈ fs, (formT f).dep ≤ n) : (formT (.make m (Forms.of fs))).dep ≤ n + 2 := by
  have : depsT (formsT (Forms.of fs)) ≤ n := by
    rw [formsT_of]
    refine depsT_le fun c hc => ?_
    obtain ⟨f, hf, rfl⟩ := List.mem_map.mp hc
    exact h f hf
  rw [formT, Tr.dep, depsT, depsT, depsT, depsT, Tr.dep, Tr.dep, Tr.dep]
  omega
theorem trs_snoc {K : PySem.W.Frag} {H : Hp} {ws : List V} {u : V} {cs : List Tr} {c : Tr} (h : TrsAt K H ws cs) (g : TrAt K H u c) : TrsAt K H (ws ++ [u]) (cs ++ [c]) := trs_append h (trs_one g)
section
variable {P : Program} {w : World} {K : PySem.W.Frag} {mg : Str → Option Value} {base : Heap}
abbrev N__law_narrow : List Str := ["deck", "kinds", "kind", "left", "maker", "part"]
theorem sc__law_narrow : FnScope N__law_narrow ["deck", "kinds", "kind", "left"] (defScope s__law_narrow) := ⟨rfl, rfl, rfl, by decide +kernel, rfl, by decide +kernel, by decide +kernel⟩
def spNarrow (K : PySem.W.Frag) (n : Nat) : Sp := fun vs H Q _ => ∃ (dk : Addr) (v : V) (kinds : Kinds) (k left : Nat), vs = [.ref dk, v, .int (k : Int), .int (left : Int)] ∧ DeckAt H dk ∧ KindsAt H dk v kinds ∧ KindsOk kinds ∧ k < 4 ∧ left ≤ n ∧
  ∀ (u : V) (f : Form) (H' : Hp), But1 H H' dk → DeckAt H' dk → TrAt K H' u (formT f) → FormK kinds f k → (formT f).dep ≤ 2 * left + 1 → Q u H'
theorem ok_narrow0 (T : Txt K mg) (n : Nat) {sp' : Sp} (G__law_narrow : FnOk P w K mg base CX0 (n + 2) T.f__law_narrow T.fd__law_narrow ["deck", "kinds", "kind", "left"] sp') (hsp : ∀ g, n = g + 1 → sp' = spNarrow K g) : FnOk P w K mg base CX0 (n + 3) T.f__law_narrow T.fd__law_narrow ["deck", "kinds", "kind", "left"] (spNarrow K n) := by
  refine T.F__law_narrow.ok sc__law_narrow (fun vs H Q E h => ?_) (fun cdv A outer sh H vs Q E hr h => ?_)
  · obtain ⟨dk, v, kinds, k, left, rfl, _⟩ := h
    rfl
  · obtain ⟨dk, v, kinds, k, left, rfl, hd, hv, hK, hk4, hn, kk⟩ := h
    have nd := sc__law_narrow.nd
    have hr__law_narrow : Room (n + 2) _ := hr
    have G__law_take : FnOk P w K mg base CX0 1 T.f__law_take T.fd__law_take ["deck", "many"] spTake := ok_take T
    have hr__law_take : Room 1 _ := hr.mono (by omega)
    have G__law_any : FnOk P w K mg base CX0 2 T.f__law_any T.fd__law_any ["deck"] (spAny K) := ok_any T
    have hr__law_any : Room 2 _ := hr.mono (by omega)
    refine ⟨_, (pss_cons (ps_if (PW.pt (pw_or (pt_cmpR op_eq (pv 3) pe_int (nomark _)) (pw_or1 (pt_cmpR op_eq (pe_call G__law_take hr__law_take rfl T.g__law_take T.k__law_take T.b__law_take .nil pass0 (pa_cons (pv 0) (pa_cons pe_int pa_nil))) pe_int (nomark _)))))
            (pss_one (ps_ret (pe_call G__law_any hr__law_any rfl T.g__law_any T.k__law_any T.b__law_any .nil pass0 (pa_cons (pv 0) pa_nil))))
            pss_nil)
          (pss_cons (ps_set (i := 4) nd rfl (Or.inl rfl) (pe_call G__law_take hr__law_take rfl T.g__law_take T.k__law_take T.b__law_take .nil pass0 (pa_cons (pv 0) (pa_cons (pe_callB call_len_seq (by rfl) T.z_len (by decide +kernel) (pa_cons (pe_ix ix_list (pv 1) (pv 2) (fun _ _ => rfl)) pa_nil)) pa_nil))))
          (pss_one (ps_ret (pe_tup (pa_cons pe_str (pa_cons (pv 4) (pa_cons (pe_callTy call_tuple_of (by rfl) T.z_tuple (by decide +kernel) (pa_cons (pe_lc (own := [("part", 5)]) (g := gName 5) (tt := tYes) rfl nd (pi_list (pe_ix ix_list (pe_ix ix_list (pv 1) (pv 2) (fun _ _ => rfl)) (pv 4) (fun _ _ => rfl))) (blkOk_by (own := [("part", 5)]) (N := N__law_narrow) (sc := defScope s__law_narrow) (by decide +kernel)) (fun _ _ _ _ _ => pg_name (i := 5) nd rfl (Or.inl rfl)) (fun _ _ _ _ _ => pts_nil) (fun _ _ _ _ _ => (pe_call G__law_narrow hr__law_narrow rfl T.g__law_narrow T.k__law_narrow T.b__law_narrow .nil pass0 (pa_cons (pv 0) (pa_cons (pv 1) (pa_cons (pv 5) (pa_cons (pe_op op_sub (pv 3) pe_int) pa_nil))))))) pa_nil)) pa_nil)))))))), ?_⟩
    obtain ⟨ms, ems, mp, mq⟩ := hK.at hk4
    refine ⟨_, rfl, rfl, _, rfl, ?_⟩
    by_cases c0 : left = 0
    · refine isT (by rw [c0]; rfl) (iteT ⟨_, rfl, dk, rfl, hd, fun f u H1 hf b1 d1 hu => ?_⟩)
      exact kk u f H1 b1 d1 hu (formK_leaf hf) (by rw [dep_leaf hf]; omega)
    · refine isF (fun z => c0 (by injection z with z; omega)) ⟨_, rfl, dk, 3, rfl, by decide, hd, fun r H1 hr1 b1 d1 => ?_⟩
      refine ⟨rfl, _, rfl, ?_⟩
      by_cases c1 : r = 0
      · refine isT (by rw [c1]; rfl) ⟨_, rfl, dk, rfl, d1, fun f u H2 hf b2 d2 hu => ?_⟩
        exact kk u f H2 (b1.trans b2) d2 hu (formK_leaf hf) (by rw [dep_leaf hf]; omega)
      · refine isF (fun z => c1 (by injection z with z; omega)) ?_
        have hv1 := hv.to b1
        obtain ⟨l, vs, x, rfl, el, lv, ex, hx⟩ := kinds_at hv1 ems
        obtain ⟨l2, vs2, rfl, el2, lm2⟩ := makers_len hx
        dsimp only [gName, tSeq, tAsg, tNext]
        refine ⟨_, rfl, _, rfl, _, rfl, l, vs, _, _, rfl, rfl, SqL.of el, atI_nat ex, l2, _, rfl, .inl (SqL.of el2), dk, vs2.length, rfl, by omega, d1, fun m H2 hm b2 d2 => ?_⟩
        have hv2 := hv1.to b2
        obtain ⟨l', vs', x', e', el', lv', ex', hx'⟩ := kinds_at hv2 ems
        cases e'
        have hm' : m < ms.length := by omega
        obtain ⟨l3, vs3, y, rfl, el3, lv3, ey, hy⟩ := makers_at hx' (List.getElem?_eq_getElem hm')
        obtain ⟨lp, rfl, ep, np⟩ := hy
        have epk := parts_of ems (List.getElem?_eq_getElem hm')
        obtain ⟨hpl, hpk⟩ := hK.parts k m _ epk
        generalize ms[m] = ps at *
        refine ⟨_, rfl, _, rfl, _, rfl, l, vs', _, _, rfl, rfl, SqL.of el', atI_nat ex', _, rfl, l3, vs3, _, _, rfl, rfl, SqL.of el3, atI_nat ey, lp, rfl, ⟨_, SqL.of ep⟩, fun D hD => lc_list (K := K) (a := lp) (xs := natVs ps) (fun j H' => ∃ ws fs, But1 H2 H' dk ∧ DeckAt H' dk ∧ H' D = some (.lst ws) ∧ TrsAt K H' ws (fs.map formT) ∧ FormsK kinds (Forms.of fs) (ps.take j) ∧ ∀ f ∈ fs, (formT f).dep ≤ 2 * (left - 1) + 1)
          ⟨[], [], But1.of_same (same_new hD), d2.same (same_new hD), upd_same, trs_nil.mpr rfl, by rw [List.take_zero]; exact formsK_nil, fun f h => by cases h⟩ (fun j H' _ ⟨ws, cs, b, _⟩ => SqL.of (b _ _ ep np)) ?_ ?_⟩
        · rintro j y H3 hy ⟨ws, fs, b3, d3, eD, hws, hfs, hdp⟩
          have hj : j < ps.length := by
            have := (List.getElem?_eq_some_iff.mp hy).1
            rw [natVs_len] at this
            omega
          rw [natVs_at (List.getElem?_eq_getElem hj)] at hy
          cases hy
          have hq := hpk _ (List.getElem_mem hj)
          obtain ⟨g, rfl⟩ : ∃ g, n = g + 1 := ⟨n - 1, by omega⟩
          cases hsp g rfl
          refine ⟨rfl, ?_⟩
          have el1 : (left : Int) - 1 = ((left - 1 : Nat) : Int) := by omega
          refine ⟨_, rfl, _, rfl, _, rfl, _, rfl, _, _, rfl, rfl, dk, _, kinds, ps[j], left - 1, by rw [← el1]; rfl, d3, hv2.to b3, hK, by omega, by omega, fun u f H4 b4 d4 hu huk hud => ?_⟩
          have ndD : D ≠ dk := fun z => (d2.ne_new hD) z.symm
          have eD4 := b4 _ _ eD ndD
          have lw := trs_len hws
          have lk := formsK_len hfs
          rw [Forms.of_list, List.length_take] at lk
          rw [List.length_map] at lw
          have t := d3.tex b4
          have t2 := TEx.upd_lst (ys := ws ++ [u]) eD4
          refine ⟨ws, eD4, sl_lt (by omega), ws ++ [u], fs ++ [f], fun b o e n => ?_, d4.but (fun z => ndD z.symm) (fun b o e n => by rw [upd_ne n]; exact e), upd_same, ?_, ?_, ?_⟩
          · rw [upd_ne (ne_of_none e hD)]
            exact b4 _ _ (b3 _ _ e n) n
          · rw [List.map_append]
            exact trs_snoc ((hws.to t).to t2) (hu.to t2)
          · rw [List.take_succ, List.getElem?_eq_getElem hj]
            exact formsK_snoc hfs huk
          · intro f' hf'
            rcases List.mem_append.mp hf' with hf' | hf'
            · exact hdp _ hf'
            · rw [List.mem_singleton.mp hf']; exact hud
        · rintro H3 ⟨ws, fs, b3, d3, eD, hws, hfs, hdp⟩
          rw [natVs_len, List.take_length] at hfs
          refine ⟨D, ws, rfl, .inl ⟨SqL.of eD, fun q hq => ⟨sl_le (by show 3 ≤ 10000000; decide), fun r hr => ?_⟩⟩⟩
          have s3 := same_new (o := .tup ws) hq
          have s4 := same_new (o := .tup [.str "make", .int (m : Int), .ref q]) hr
          have s34 := s3.trans s4
          refine kk _ (.make m (Forms.of fs)) _ (((b1.trans b2).trans b3).same s34) (d3.same s34) (tr_t.mpr ⟨r, _, rfl, SqT.of upd_same, trs_cons.mpr ⟨_, _, rfl, tr_s.mpr rfl, trs_cons.mpr ⟨_, _, rfl, tr_i.mpr rfl, trs_one (tr_t.mpr ⟨q, ws, rfl, SqT.of (s4 _ _ upd_same), ?_⟩)⟩⟩⟩) ?_ ?_
          · rw [formsT_of]
            exact hws.same s34
          · rw [FormK]
            exact ⟨ps, epk, hfs⟩
          · have := dep_make (m := m) hdp
            omega
theorem ok_narrow (T : Txt K mg) : ∀ n, FnOk P w K mg base CX0 (n + 3) T.f__law_narrow T.fd__law_narrow ["deck", "kinds", "kind", "left"] (spNarrow K n)
  | 0 => ok_narrow0 T 0 (sp' := spNo) (T.F__law_narrow.ok sc__law_narrow (fun vs H Q E h => h.elim) (fun cdv A outer sh H vs Q E hr h => h.elim)) (fun m e => by cases e)
  | f + 1 => ok_narrow0 T (f + 1) (ok_narrow T f) (fun m e => by cases e; rfl)
end
end K87

set_option Elab.async false
set_option linter.all false
set_option maxRecDepth 100000
set_option maxHeartbeats 4000000
namespace K87
open PySem PySem.Spec PyProof.Rows L2 Ru Rp Mch
theorem Forms.of_of : ∀ (fs : Forms), Forms.of fs.list = fs
  | .nil => rfl
  | .cons f r => by rw [Forms.list, Forms.of, Forms.of_of r]
section
variable {kinds : Kinds}
mutual
theorem bound_len (h : KindsOk kinds) : ∀ (f : Form) (k : Nat), FormK kinds f k → (boundK kinds f k).length ≤ 4 ^ (k + 1)
  | .any, k, _ => by rw [boundK]; simp
  | .bind, k, _ => by
    rw [boundK]
    exact Nat.one_le_pow _ _ (by omega)
  | .make m fs, k, hf => by
    rw [FormK] at hf
    obtain ⟨ps, e, hfs⟩ := hf
    obtain ⟨hl, hp⟩ := h.parts k m ps e
    rw [boundK, e, Option.getD_some]
    have := bounds_len h fs ps k hfs hp
    rw [Nat.pow_succ]
    have h1 : ps.length * 4 ^ k ≤ 3 * 4 ^ k := Nat.mul_le_mul_right _ hl
    omega
theorem bounds_len (h : KindsOk kinds) : ∀ (fs : Forms) (ps : List Nat) (k : Nat), FormsK kinds fs ps → (∀ p ∈ ps, p < k) → (boundsK kinds fs ps).length ≤ ps.length * 4 ^ k
  | .nil, ps, k, _, _ => by rw [boundsK]; simp
  | .cons f r, ps, k, hf, hp => by
    rw [FormsK] at hf
    obtain ⟨q, qs, rfl, h1, h2⟩ := hf
    have e1 := bound_len h f q h1
    have e2 := bounds_len h r qs k h2 fun p hq => hp p (List.mem_cons_of_mem _ hq)
    have e3 := hp q List.mem_cons_self
    have e4 : 4 ^ (q + 1) ≤ 4 ^ k := Nat.pow_le_pow_right (by omega) (by omega)
    rw [boundsK, List.headD_cons, List.tail_cons, List.length_append, List.length_cons, Nat.add_mul, Nat.one_mul]
    omega
end
theorem bound_256 (h : KindsOk kinds) {f : Form} {k : Nat} (hf : FormK kinds f k) (hk : k < 4) : (boundK kinds f k).length ≤ 256 := by
  have h1 := bound_len h f k hf
  have h2 : 4 ^ (k + 1) ≤ 4 ^ 4 := Nat.pow_le_pow_right (by omega) (by omega)
  have h3 : 4 ^ 4 = 256 := by decide
  omega
end
theorem sqt_same {K : PySem.W.Frag} {H H' : Hp} {a : Addr} {xs : List V} (s : Same H H') (h : SqT K H a xs) : SqT K H' a xs := (TEx.of_same s).sq h
section
variable {P : Program} {w : World} {K : PySem.W.Frag} {mg : Str → Option Value} {base : Heap}
abbrev N__law_bound : List Str := ["kinds", "kind", "form", "found", "k"]
theorem sc__law_bound : FnScope N__law_bound ["kinds", "kind", "form"] (defScope s__law_bound) := ⟨rfl, rfl, rfl, by decide +kernel, rfl, by decide +kernel, by decide +kernel⟩
def spBound (K : PySem.W.Frag) (n : Nat) : Sp := fun vs H Q _ => ∃ (dk : Addr) (v u : V) (kinds : Kinds) (k : Nat) (f : Form), vs = [v, .int (k : Int), u] ∧ KindsAt H dk v kinds ∧ KindsOk kinds ∧ k < 4 ∧ TrAt K H u (formT f) ∧ FormK kinds f k ∧ (formT f).dep ≤ n ∧ ∀ (l : Addr) (H' : Hp), H l = none → Same H H' → H' l = some (.lst (natVs (boundK kinds f k))) → Q (.ref l) H'
theorem ok_bound0 (T : Txt K mg) (n : Nat) {sp' : Sp} (G__law_bound : FnOk P w K mg base CX0 (n + 1) T.f__law_bound T.fd__law_bound ["kinds", "kind", "form"] sp') (hsp : ∀ g, n = g + 1 → sp' = spBound K g) : FnOk P w K mg base CX0 (n + 2) T.f__law_bound T.fd__law_bound ["kinds", "kind", "form"] (spBound K n) := by
  refine T.F__law_bound.ok sc__law_bound (fun vs H Q E h => ?_) (fun cdv A outer sh H vs Q E hr h => ?_)
  · obtain ⟨dk, v, u, kinds, k, f, rfl, _⟩ := h
    rfl
  · obtain ⟨dk, v, u, kinds, k, f, rfl, hv, hK, hk4, hu, hf, hn, kk⟩ := h
    have nd := sc__law_bound.nd
    have hr__law_bound : Room (n + 1) _ := hr
    refine ⟨_, (pss_cons (ps_if (pt_cmpR op_eq (pe_ix ix_tup (pv 2) pe_int (fun _ _ => rfl)) pe_str (nomark _))
            (pss_one (ps_ret (pe_lst (pa_cons (pv 1) pa_nil))))
            pss_nil)
          (pss_cons (ps_set (i := 3) nd rfl (Or.inl rfl) (pe_lst pa_nil))
          (pss_cons (ps_if (pt_cmpR op_eq (pe_ix ix_tup (pv 2) pe_int (fun _ _ => rfl)) pe_str (nomark _))
            (pss_one (ps_for PassesOwn.never rfl (pi_range1 rfl T.z_range (pa_cons (pe_callB call_len_seq (by rfl) T.z_len (by decide +kernel) (pa_cons (pe_ix ix_tup (pv 2) pe_int (fun _ _ => rfl)) pa_nil)) pa_nil)) (pg_name (i := 4) nd rfl (Or.inl rfl))
              (pss_one (ps_expr (pe_bm PySem.F.plainAttrs_list PySem.F.slot_list_extend PySem.F.type_list_extend mt_extend (pv 3) (pa_cons (pe_call G__law_bound hr__law_bound rfl T.g__law_bound T.k__law_bound T.b__law_bound .nil pass0 (pa_cons (pv 0) (pa_cons (pe_ix ix_list (pe_ix ix_list (pe_ix ix_list (pv 0) (pv 1) (fun _ _ => rfl)) (pe_ix ix_tup (pv 2) pe_int (fun _ _ => rfl)) (fun _ _ => rfl)) (pv 4) (fun _ _ => rfl)) (pa_cons (pe_ix ix_tup (pe_ix ix_tup (pv 2) pe_int (fun _ _ => rfl)) (pv 4) (fun _ _ => rfl)) pa_nil)))) pa_nil))))))
            pss_nil)
          (pss_one (ps_ret (pv 3)))))), ?_⟩
    obtain ⟨a, rest, rfl, ha⟩ := form_word hu
    refine ⟨_, rfl, a, _, _, _, rfl, rfl, ha, atI_hd, rfl, _, rfl, ?_⟩
    cases f with
    | any =>
      refine isF (nstr (by decide +kernel)) ?_
      dsimp only [gName, tSeq, tAsg, tNext]
      refine ⟨sl_le (by show 0 ≤ 10000000; decide), fun l hl => ?_⟩
      refine ⟨_, rfl, a, _, _, _, rfl, rfl, sqt_same (same_new hl) ha, atI_hd, rfl, _, rfl, ?_⟩
      refine isF (nstr (by decide +kernel)) ?_
      exact ⟨_, rfl, kk l _ hl (same_new hl) upd_same⟩
    | bind =>
      refine isT rfl ⟨_, rfl, sl_le (by show 1 ≤ 10000000; decide), fun l hl => kk l _ hl (same_new hl) upd_same⟩
    | make m fs =>
      refine isF (nstr (a := "make") (b := "bind") (by decide +kernel)) ?_
      rw [FormK] at hf
      obtain ⟨ps, e, hfs⟩ := hf
      obtain ⟨a', b, ws, ea, hs, hb, hws⟩ := form_make hu
      cases ea
      obtain ⟨ms, ems, p1, p2⟩ := hK.at hk4
      obtain ⟨l, vs, x, rfl, el, lv, ex, hx⟩ := kinds_at hv ems
      have ep : ms[m]? = some ps := by
        unfold partsOf at e
        rw [ems] at e
        exact e
      obtain ⟨l2, vs2, y, rfl, el2, lv2, ey, hy⟩ := makers_at hx ep
      obtain ⟨lp, rfl, elp, np⟩ := id hy
      obtain ⟨hpl, hpk⟩ := hK.parts k m ps e
      have lw := trs_len hws
      have lfs := formsK_len hfs
      rw [formsT_list, List.length_map, lfs] at lw
      dsimp only [gName, tSeq, tAsg, tNext]
      refine ⟨sl_le (by show 0 ≤ 10000000; decide), fun D hD => ?_⟩
      refine ⟨_, rfl, a, _, _, _, rfl, rfl, sqt_same (same_new hD) ha, atI_hd, rfl, _, rfl, ?_⟩
      refine isT rfl ?_
      refine ⟨_, rfl, a, _, _, _, rfl, rfl, sqt_same (same_new hD) hs, rfl, b, _, rfl, .inr (sqt_same (same_new hD) hb), _, rfl, by omega, by omega, for_range (lo := 0) (n := ws.length) (fun j σ H' => ∃ (x : Option V) (xs : List Nat), σ = [some (.ref l), some (.int (k : Int)), some (.ref a), some (.ref D), x] ∧ Same H H' ∧ H' D = some (.lst (natVs xs)) ∧ xs ++ boundsK kinds (Forms.of (fs.list.drop j)) (ps.drop j) = boundsK kinds fs ps) ⟨none, [], rfl, same_new hD, upd_same, by rw [List.drop_zero, List.drop_zero, Forms.of_of]; rfl⟩ ?_ ?_⟩
      · rintro j σ H2 hj ⟨x4, xs, rfl, s2, eD, exs⟩
        obtain ⟨f1, e1⟩ : ∃ f1, fs.list[j]? = some f1 := ⟨_, List.getElem?_eq_getElem (by omega)⟩
        obtain ⟨z, e2, hz⟩ := form_at hws e1
        have hj' : j < ps.length := by omega
        have e3 := List.getElem?_eq_getElem hj'
        have hq := hpk _ (List.getElem_mem hj')
        have hf1 := formsK_at hfs e1 e3
        have hd1 := dep_form (m := m) e1
        obtain ⟨g, rfl⟩ : ∃ g, n = g + 1 := ⟨n - 1, by omega⟩
        cases hsp g rfl
        have ejj : (0 : Int) + (j : Int) = ((j : Nat) : Int) := by omega
        rw [ejj]
        dsimp only [gName, tSeq, tAsg, tNext]
        refine ⟨_, rfl, .inl ⟨rfl, _, SqL.of eD⟩, ?_⟩
        refine ⟨_, rfl, _, rfl, _, rfl, l, vs, _, _, rfl, rfl, SqL.of (s2 _ _ el), atI_nat ex, _, rfl, a, _, _, _, rfl, rfl, sqt_same s2 hs, rfl, l2, vs2, _, _, rfl, rfl, SqL.of (s2 _ _ el2), atI_nat ey, _, rfl, lp, _, _, _, rfl, rfl, SqL.of (s2 _ _ elp), atI_nat (natVs_at e3), _, rfl, a, _, _, _, rfl, rfl, sqt_same s2 hs, rfl, _, rfl, b, _, _, _, rfl, rfl, sqt_same s2 hb, atI_nat e2, ?_⟩
        refine ⟨dk, _, _, kinds, ps[j], f1, rfl, hv.to (but1_same s2), hK, by omega, hz.same s2, hf1, by omega, fun l3 H3 hl3 s3 e4 => ?_⟩
        have hlen : xs.length + (boundK kinds f1 ps[j]).length ≤ 1000 := by
          have h1 := bounds_len hK fs ps k hfs hpk
          rw [← exs, List.length_append] at h1
          have h2 := bound_256 hK hf1 (by omega)
          have h3 : ps.length * 4 ^ k ≤ 3 * 4 ^ k := Nat.mul_le_mul_right _ hpl
          have h4 : 4 ^ k ≤ 4 ^ 3 := Nat.pow_le_pow_right (by omega) (by omega)
          have h5 : 4 ^ 3 = 64 := by decide
          omega
        refine ⟨D, l3, _, _, rfl, rfl, s3 _ _ eD, e4, sl_le (by rw [natVs_len, natVs_len]; omega), ?_⟩
        refine ⟨_, xs ++ boundK kinds f1 ps[j], rfl, fun b o e => ?_, ?_, ?_⟩
        · rw [upd_ne (ne_of_none e hD)]
          exact s3 _ _ (s2 _ _ e)
        · rw [upd_same]
          simp [natVs]
        · rw [← exs, List.append_assoc]
          have ed1 : fs.list.drop j = f1 :: fs.list.drop (j + 1) := by
            rw [List.drop_eq_getElem_cons (by omega)]
            congr 1
            rw [List.getElem?_eq_getElem (by omega)] at e1
            injection e1
          rw [ed1, Forms.of, List.drop_eq_getElem_cons hj', boundsK, List.headD_cons, List.tail_cons]
      · rintro σ H2 ⟨x4, xs, rfl, s2, eD, exs⟩
        rw [lw, List.drop_length, ← lfs, List.drop_length] at exs
        refine ⟨_, rfl, ?_⟩
        rw [Forms.of, boundsK, List.append_nil] at exs
        refine kk D H2 hD s2 ?_
        rw [boundK, e, Option.getD_some, ← exs]
        exact eD
theorem ok_bound (T : Txt K mg) : ∀ n, FnOk P w K mg base CX0 (n + 2) T.f__law_bound T.fd__law_bound ["kinds", "kind", "form"] (spBound K n)
  | 0 => ok_bound0 T 0 (sp' := spNo) (T.F__law_bound.ok sc__law_bound (fun vs H Q E h => h.elim) (fun cdv A outer sh H vs Q E hr h => h.elim)) (fun m e => by cases e)
  | f + 1 => ok_bound0 T (f + 1) (ok_bound T f) (fun m e => by cases e; rfl)
end
end K87

set_option Elab.async false
set_option linter.all false
set_option maxRecDepth 100000
set_option maxHeartbeats 2000000
/-! Lists of forms: what they take; a list of forms that grows. -/
namespace K87
open PySem PySem.Spec PyProof.Rows L2 Ru Rp Mch
/-- two statements: what the first leaves, the second goes on with -/
theorem seq_of {s1 s2 : TS} {D : L2.Ends} {σ : L2.St} {H : Hp} (R : L2.St → Hp → Prop) (h1 : ∀ nx : L2.St → Hp → Prop, (∀ σ' H', R σ' H' → nx σ' H') → s1 { D with nx := nx } σ H) (h2 : ∀ σ' H', R σ' H' → s2 D σ' H') : tSeq s1 s2 D σ H := h1 _ h2
def Leaf (f : Form) : Prop := f = .bind ∨ f = .any
theorem takes_leaf {f : Form} (h : Leaf f) (c : Cell) : takes f c = true := by
  rcases h with rfl | rfl <;> rw [takes]
theorem takesL_of : ∀ (fs : List Form) (cs : List Cell), fs.length ≤ cs.length → (∀ (i : Nat) f c, fs[i]? = some f → cs[i]? = some c → takes f c = true) → takesL (Forms.of fs) cs = true
  | [], cs, _, _ => by rw [Forms.of, takesL]
  | f :: r, [], h, _ => by simp at h
  | f :: r, c :: q, h, g => by
    rw [Forms.of, takesL, g 0 f c rfl rfl, takesL_of r q (by simpa using h) fun i f c h1 h2 => g (i + 1) f c (by simpa using h1) (by simpa using h2)]
    rfl
theorem takes_make {m : Nat} {fs : Forms} {n : Int} {cs : List Cell} (e : n = (m : Int)) (h : takesL fs cs = true) : takes (.make m fs) (.mk n cs) = true := by
  rw [takes, h, e]; simp
theorem formsK_of {kinds : Kinds} : ∀ (fs : List Form) (ps : List Nat), fs.length = ps.length → (∀ (i : Nat) f p, fs[i]? = some f → ps[i]? = some p → FormK kinds f p) → FormsK kinds (Forms.of fs) ps
  | [], [], _, _ => formsK_nil
  | [], _ :: _, h, _ => by simp at h
  | _ :: _, [], h, _ => by simp at h
  | f :: r, p :: q, h, g => by
    rw [Forms.of, FormsK]
    exact ⟨p, q, rfl, g 0 f p rfl rfl, formsK_of r q (by simpa using h) fun i f p h1 h2 => g (i + 1) f p (by simpa using h1) (by simpa using h2)⟩
theorem leafs_kind {kinds : Kinds} {fs : List Form} {ps : List Nat} (h : ∀ f ∈ fs, Leaf f) (e : fs.length = ps.length) : FormsK kinds (Forms.of fs) ps := formsK_of fs ps e fun i f p h1 _ => formK_leaf (h f (List.mem_of_getElem? h1))
structure FormsGood (kinds : Kinds) (k : Nat) (fs : List Form) : Prop where
  kind : ∀ f ∈ fs, FormK kinds f k
  dep : ∀ f ∈ fs, (formT f).dep ≤ 7
theorem FormsGood.nil {kinds : Kinds} {k : Nat} : FormsGood kinds k [] := ⟨fun f h => (by cases h), fun f h => (by cases h)⟩
theorem FormsGood.push {kinds : Kinds} {k : Nat} {fs : List Form} {f : Form} (h : FormsGood kinds k fs) (h1 : FormK kinds f k) (h2 : (formT f).dep ≤ 7) : FormsGood kinds k (fs ++ [f]) := by
  constructor
  · intro g hg
    rcases List.mem_append.mp hg with hg | hg
    · exact h.kind g hg
    · rw [List.mem_singleton.mp hg]; exact h1
  · intro g hg
    rcases List.mem_append.mp hg with hg | hg
    · exact h.dep g hg
    · rw [List.mem_singleton.mp hg]; exact h2
/-- a list of forms at D, as it grows -/
structure FA (K : PySem.W.Frag) (kinds : Kinds) (k : Nat) (H : Hp) (dk D : Addr) (H' : Hp) (fs : List Form) : Prop where
  but : But1 H H' dk
  deck : DeckAt H' dk
  hD : H D = none
  nd : D ≠ dk
  at_ : ∃ us, H' D = some (.lst us) ∧ TrsAt K H' us (fs.map formT)
  good : FormsGood kinds k fs
section
variable {K : PySem.W.Frag} {kinds : Kinds} {k : Nat} {H H1 H2 : Hp} {dk D : Addr} {fs : List Form}
theorem FA.to (h : FA K kinds k H dk D H1 fs) (b : But1 H1 H2 dk) (d : DeckAt H2 dk) : FA K kinds k H dk D H2 fs := by
  obtain ⟨us, e, t⟩ := h.at_
  exact ⟨h.but.trans b, d, h.hD, h.nd, ⟨us, b _ _ e h.nd, t.to (h.deck.tex b)⟩, h.good⟩
theorem FA.same (h : FA K kinds k H dk D H1 fs) (s : Same H1 H2) : FA K kinds k H dk D H2 fs := h.to (But1.of_same s) (h.deck.same s)
theorem FA.push (h : FA K kinds k H dk D H1 fs) {us : List V} {u : V} {f : Form} (e : H1 D = some (.lst us)) (t : TrAt K H1 u (formT f)) (h1 : FormK kinds f k) (h2 : (formT f).dep ≤ 7) : FA K kinds k H dk D (upd H1 D (.lst (us ++ [u]))) (fs ++ [f]) := by
  obtain ⟨us', e', ts⟩ := h.at_
  rw [e] at e'
  injection e' with e'
  injection e' with e'
  subst e'
  have t2 := TEx.upd_lst (ys := us ++ [u]) e
  refine ⟨fun b o eb n => ?_, h.deck.but (fun z => h.nd z.symm) (fun b o e n => by rw [upd_ne n]; exact e), h.hD, h.nd, ⟨_, upd_same, ?_⟩, h.good.push h1 h2⟩
  · rw [upd_ne (ne_of_none eb h.hD)]
    exact h.but _ _ eb n
  · rw [List.map_append]
    exact trs_snoc (ts.to t2) (t.to t2)
theorem FA.len (h : FA K kinds k H dk D H1 fs) {us : List V} (e : H1 D = some (.lst us)) : us.length = fs.length := by
  obtain ⟨us', e', ts⟩ := h.at_
  rw [e] at e'
  injection e' with e'
  injection e' with e'
  subst e'
  rw [trs_len ts, List.length_map]
theorem kinds_path {v : V} {ks : Kinds} {k m : Nat} {ms : List (List Nat)} {ps : List Nat} (h : KindsAt H dk v ks) (e : ks[k]? = some ms) (e2 : ms[m]? = some ps) : ∃ l vs l2 vs2 lp, v = .ref l ∧ vs[k]? = some (.ref l2) ∧ vs2[m]? = some (.ref lp) ∧ H l = some (.lst vs) ∧ H l2 = some (.lst vs2) ∧ H lp = some (.lst (natVs ps)) ∧ l ≠ dk ∧ l2 ≠ dk ∧ lp ≠ dk ∧ vs2.length = ms.length := by
  obtain ⟨l, vs, rfl, el, n, p⟩ := h
  obtain ⟨x, h1, h2⟩ := paired_get p e
  obtain ⟨l2, vs2, rfl, el2, n2, p2⟩ := h2
  obtain ⟨y, h3, h4⟩ := paired_get p2 e2
  obtain ⟨lp, rfl, ep, n3⟩ := h4
  exact ⟨l, vs, l2, vs2, lp, rfl, h1, h3, el, el2, ep, n, n2, n3, Paired.length p2⟩
theorem FA.fresh (h : FA K kinds k H dk D H1 fs) {q : Addr} (e : H1 q = none) : H q = none ∧ q ≠ dk ∧ q ≠ D := by
  have n : q ≠ dk := fun z => (h.deck.ne_new e) z.symm
  refine ⟨?_, n, fun z => ?_⟩
  · cases e2 : H q with
    | none => rfl
    | some o =>
      have := h.but _ _ e2 n
      rw [e] at this
      cases this
  · obtain ⟨us, e2, _⟩ := h.at_
    subst z
    rw [e] at e2
    cases e2
theorem FA.write (h : FA K kinds k H dk D H1 fs) {q : Addr} {a b : List V} (e : H1 q = some (.lst a)) (n1 : q ≠ dk) (n2 : q ≠ D) (n3 : H q = none) : FA K kinds k H dk D (upd H1 q (.lst b)) fs := by
  obtain ⟨us, eD, t⟩ := h.at_
  refine ⟨fun c o ec n => ?_, h.deck.but (fun z => n1 z.symm) (fun b o e n => by rw [upd_ne n]; exact e), h.hD, h.nd, ⟨us, by rw [upd_ne (fun z => n2 z.symm)]; exact eD, t.to (TEx.upd_lst e)⟩, h.good⟩
  rw [upd_ne (ne_of_none ec n3)]
  exact h.but _ _ ec n
theorem trs_set {u : V} {c : Tr} : ∀ {ws : List V} {cs : List Tr} {i : Nat}, TrsAt K H ws cs → TrAt K H u c → TrsAt K H (ws.set i u) (cs.set i c)
  | ws, [], i, h, g => by rw [trs_nil.mp h]; exact trs_nil.mpr rfl
  | ws, d :: r, 0, h, g => by
    obtain ⟨v, q, rfl, h1, h2⟩ := trs_cons.mp h
    exact trs_cons.mpr ⟨_, _, rfl, g, h2⟩
  | ws, d :: r, i + 1, h, g => by
    obtain ⟨v, q, rfl, h1, h2⟩ := trs_cons.mp h
    exact trs_cons.mpr ⟨_, _, rfl, h1, trs_set h2 g⟩
theorem kinds_path1 {v : V} {ks : Kinds} {k : Nat} {ms : List (List Nat)} (h : KindsAt H dk v ks) (e : ks[k]? = some ms) : ∃ l vs l2 vs2, v = .ref l ∧ vs[k]? = some (.ref l2) ∧ H l = some (.lst vs) ∧ H l2 = some (.lst vs2) ∧ l ≠ dk ∧ l2 ≠ dk ∧ vs2.length = ms.length := by
  obtain ⟨l, vs, rfl, el, n, p⟩ := h
  obtain ⟨x, h1, h2⟩ := paired_get p e
  obtain ⟨l2, vs2, rfl, el2, n2, p2⟩ := h2
  exact ⟨l, vs, l2, vs2, rfl, h1, el, el2, n, n2, Paired.length p2⟩
theorem lst_inj {H : Hp} {l : Addr} {a b : List V} (h : H l = some (.lst a)) (g : H l = some (.lst b)) : a = b := by
  rw [h] at g
  injection g with g
  injection g
/-- a make's tree from its parts -/
theorem tr_make {m : Nat} {fs : List Form} {r q : Addr} {ws : List V} (h1 : SqT K H r [.str "make", .int (m : Int), .ref q]) (h2 : SqT K H q ws) (h3 : TrsAt K H ws (fs.map formT)) : TrAt K H (.ref r) (formT (.make m (Forms.of fs))) :=
  tr_t.mpr ⟨r, _, rfl, h1, trs_cons.mpr ⟨_, _, rfl, tr_s.mpr rfl, trs_cons.mpr ⟨_, _, rfl, tr_i.mpr rfl, trs_one (tr_t.mpr ⟨q, ws, rfl, h2, by rw [formsT_of]; exact h3⟩)⟩⟩⟩
/-- [_law_any(deck) for part in parts] -/
theorem lc_any {lp : Addr} {ps : List Nat} {Qd : Hp → Prop} {te : TE} {i : Nat} {σ : L2.St} (hte : ∀ y H (Q : VK), DeckAt H dk → (∀ (f : Form) (v : V) (H' : Hp), Leaf f → But1 H H' dk → DeckAt H' dk → TrAt K H' v (formT f) → Q v H') → te ((wipe σ [i]).set i (some y)) H Q)
    (hw : ∀ y, wipe ((wipe σ [i]).set i (some y)) [i] = wipe σ [i]) (hp : H1 lp = some (.lst (natVs ps))) (np : lp ≠ dk) (hd : DeckAt H1 dk) (hD : H1 D = none) (hps : ps.length ≤ 3)
    (k : ∀ (H2 : Hp) (ws : List V) (fs : List Form), But1 H1 H2 dk → DeckAt H2 dk → H2 D = some (.lst ws) → D ≠ dk → TrsAt K H2 ws (fs.map formT) → (∀ f ∈ fs, Leaf f) → fs.length = ps.length → Qd H2) :
    ∃ W : Nat → Nat → Hp → Prop, (∃ m, W 0 m (upd H1 D (.lst []))) ∧ ∀ j m H, W j m H →
      ((Itl K lp).stop j H ∧ Qd H) ∨ ((Itl K lp).go j H ∧ ∃ Nx : Hp → Prop, (∀ H', Nx H' → ∃ m', m' < m ∧ W (j + 1) m' H') ∧ ∀ x H', (Itl K lp).yld j H x H' → gName i x (wipe σ [i]) H' fun σ2 H2 => wipe σ2 [i] = wipe σ [i] ∧ tYes σ2 H2 fun b H3 =>
        if b = true then te σ2 H3 fun y H4 => ∃ acc, H4 D = some (.lst acc) ∧ acc.length < sizeLine ∧ Nx (upd H4 D (.lst (acc ++ [y]))) else Nx H3) := by
  have ndD : D ≠ dk := fun z => (hd.ne_new hD) z.symm
  refine lc_list (K := K) (a := lp) (xs := natVs ps) (fun j H' => ∃ (ws : List V) (fs : List Form), But1 H1 H' dk ∧ DeckAt H' dk ∧ H' D = some (.lst ws) ∧ TrsAt K H' ws (fs.map formT) ∧ (∀ f ∈ fs, Leaf f) ∧ fs.length = j)
    ⟨[], [], But1.of_same (same_new hD), hd.same (same_new hD), upd_same, trs_nil.mpr rfl, fun f h => (by cases h), rfl⟩ (fun j H' _ ⟨ws, cs, b, _⟩ => SqL.of (b _ _ hp np)) ?_ ?_
  · rintro j y H3 hy ⟨ws, fs, b3, d3, eD, hws, hfs, hl⟩
    have hj : j < ps.length := by
      have := (List.getElem?_eq_some_iff.mp hy).1
      rw [natVs_len] at this
      omega
    refine ⟨hw y, ?_⟩
    refine hte y H3 _ d3 fun f v H4 hf b4 d4 hv => ?_
    have eD4 := b4 _ _ eD ndD
    have lw := trs_len hws
    rw [List.length_map] at lw
    have t := d3.tex b4
    have t2 := TEx.upd_lst (ys := ws ++ [v]) eD4
    refine ⟨ws, eD4, sl_lt (by omega), ws ++ [v], fs ++ [f], fun b o e n => ?_, d4.but (fun z => ndD z.symm) (fun b o e n => by rw [upd_ne n]; exact e), upd_same, ?_, ?_, ?_⟩
    · rw [upd_ne (ne_of_none e hD)]
      exact b4 _ _ (b3 _ _ e n) n
    · rw [List.map_append]
      exact trs_snoc ((hws.to t).to t2) (hv.to t2)
    · intro f' hf'
      rcases List.mem_append.mp hf' with hf' | hf'
      · exact hfs _ hf'
      · rw [List.mem_singleton.mp hf']; exact hf
    · rw [List.length_append, hl]; rfl
  · rintro H3 ⟨ws, fs, b3, d3, eD, hws, hfs, hl⟩
    rw [natVs_len] at hl
    exact k H3 ws fs b3 d3 eD ndD hws hfs hl
end
end K87

set_option Elab.async false
set_option linter.all false
set_option maxRecDepth 100000
set_option maxHeartbeats 4000000
namespace K87
open PySem PySem.Spec PyProof.Rows L2 Ru Rp Mch
section
variable {P : Program} {w : World} {K : PySem.W.Frag} {mg : Str → Option Value} {base : Heap}
abbrev N__law_forms : List Str := ["deck", "kinds", "kind", "many", "start", "stop", "forms", "n", "maker", "parts", "at", "whole", "narrow", "part", "spots", "k", "inner", "cut", "m", "subs"]
theorem sc__law_forms : FnScope N__law_forms ["deck", "kinds", "kind"] (defScope s__law_forms) := ⟨rfl, rfl, rfl, by decide +kernel, rfl, by decide +kernel, by decide +kernel⟩
def spForms (K : PySem.W.Frag) : Sp := fun vs H Q _ => ∃ (dk : Addr) (v : V) (kinds : Kinds) (k : Nat), vs = [.ref dk, v, .int (k : Int)] ∧ DeckAt H dk ∧ KindsAt H dk v kinds ∧ KindsOk kinds ∧ k < 4 ∧
  ∀ (l : Addr) (us : List V) (fs : List Form) (H' : Hp), H l = none → But1 H H' dk → DeckAt H' dk → H' l = some (.lst us) → l ≠ dk → TrsAt K H' us (fs.map formT) → FormsGood kinds k fs → fs.length ≤ 30 → (∀ c, CellK kinds c k → ∃ f ∈ fs, takes f c = true) → Q (.ref l) H'
theorem ok_forms (T : Txt K mg) : FnOk P w K mg base CX0 8 T.f__law_forms T.fd__law_forms ["deck", "kinds", "kind"] (spForms K) := by
  refine T.F__law_forms.ok sc__law_forms (fun vs H Q E h => ?_) (fun cdv A outer sh H vs Q E hr h => ?_)
  · obtain ⟨dk, v, kinds, k, rfl, _⟩ := h
    rfl
  · obtain ⟨dk, v, kinds, k, rfl, hd, hv, hK, hk4, kk⟩ := h
    have nd := sc__law_forms.nd
    have G__law_take : FnOk P w K mg base CX0 1 T.f__law_take T.fd__law_take ["deck", "many"] spTake := ok_take T
    have hr__law_take : Room 1 _ := hr.mono (by omega)
    have G__law_any : FnOk P w K mg base CX0 2 T.f__law_any T.fd__law_any ["deck"] (spAny K) := ok_any T
    have hr__law_any : Room 2 _ := hr.mono (by omega)
    have G__law_narrow : FnOk P w K mg base CX0 5 T.f__law_narrow T.fd__law_narrow ["deck", "kinds", "kind", "left"] (spNarrow K 2) := ok_narrow T 2
    have hr__law_narrow : Room 5 _ := hr.mono (by omega)
    have G__law_spots : FnOk P w K mg base CX0 7 T.f__law_spots T.fd__law_spots ["kinds", "kind", "form", "own"] (spSpots K 5) := ok_spots T 5
    have hr__law_spots : Room 7 _ := hr
    refine ⟨_, (pss_cons (ps_set (i := 3) nd rfl (Or.inl rfl) (pe_callB call_len_seq (by rfl) T.z_len (by decide +kernel) (pa_cons (pe_ix ix_list (pv 1) (pv 2) (fun _ _ => rfl)) pa_nil)))
          (pss_cons (ps_set (i := 4) nd rfl (Or.inl rfl) (pe_call G__law_take hr__law_take rfl T.g__law_take T.k__law_take T.b__law_take .nil pass0 (pa_cons (pv 0) (pa_cons (pv 3) pa_nil))))
          (pss_cons (ps_set (i := 5) nd rfl (Or.inl rfl) (pe_op op_sub (pv 3) (pe_call G__law_take hr__law_take rfl T.g__law_take T.k__law_take T.b__law_take .nil pass0 (pa_cons (pv 0) (pa_cons (pv 3) pa_nil)))))
          (pss_cons (ps_set (i := 6) nd rfl (Or.inl rfl) (pe_lst pa_nil))
          (pss_cons (ps_for PassesOwn.never rfl (pi_range1 rfl T.z_range (pa_cons (pv 5) pa_nil)) (pg_name (i := 7) nd rfl (Or.inl rfl))
            (pss_cons (ps_set (i := 8) nd rfl (Or.inl rfl) (pe_op op_modN (pe_op op_add (pv 4) (pv 7)) (pv 3)))
            (pss_cons (ps_set (i := 9) nd rfl (Or.inr rfl) (pe_ix ix_list (pe_ix ix_list (pv 1) (pv 2) (fun _ _ => rfl)) (pv 8) (fun _ _ => rfl)))
            (pss_cons (ps_set (i := 10) nd rfl (Or.inr rfl) (pe_ifExp (pt_cmpR op_gt (pe_callB call_len_seq (by rfl) T.z_len (by decide +kernel) (pa_cons (pv 9) pa_nil)) pe_int (nomark _)) (pe_call G__law_take hr__law_take rfl T.g__law_take T.k__law_take T.b__law_take .nil pass0 (pa_cons (pv 0) (pa_cons (pe_op op_mul pe_int (pe_callB call_len_seq (by rfl) T.z_len (by decide +kernel) (pa_cons (pv 9) pa_nil))) pa_nil))) pe_int))
            (pss_cons (ps_set (i := 11) nd rfl (Or.inl rfl) pe_bl)
            (pss_cons (ps_if (PW.pt (pw_and (pt_cmpR op_gt (pe_callB call_len_seq (by rfl) T.z_len (by decide +kernel) (pa_cons (pv 9) pa_nil)) pe_int (nomark _)) (pw_and1 (pt_cmpR op_eq (pe_call G__law_take hr__law_take rfl T.g__law_take T.k__law_take T.b__law_take .nil pass0 (pa_cons (pv 0) (pa_cons pe_int pa_nil))) pe_int (nomark _)))))
              (pss_cons (ps_set (i := 12) nd rfl (Or.inr rfl) (pe_callTy call_tuple_of (by rfl) T.z_tuple (by decide +kernel) (pa_cons (pe_lc (own := [("part", 13)]) (g := gName 13) (tt := tYes) rfl nd (pi_list (pv 9)) (blkOk_by (own := [("part", 13)]) (N := N__law_forms) (sc := defScope s__law_forms) (by decide +kernel)) (fun _ _ _ _ _ => pg_name (i := 13) nd rfl (Or.inl rfl)) (fun _ _ _ _ _ => pts_nil) (fun _ _ _ _ _ => (pe_call G__law_narrow hr__law_narrow rfl T.g__law_narrow T.k__law_narrow T.b__law_narrow .nil pass0 (pa_cons (pv 0) (pa_cons (pv 1) (pa_cons (pv 13) (pa_cons pe_int pa_nil))))))) pa_nil)))
              (pss_cons (ps_set (i := 14) nd rfl (Or.inl rfl) (pe_callB (cr_sum rfl) (by rfl) T.z_sum (by decide +kernel) (pa_cons (pe_lc (own := [("k", 15)]) (g := gName 15) (tt := tYes) rfl nd (pi_range1 rfl T.z_range (pa_cons (pe_callB call_len_seq (by rfl) T.z_len (by decide +kernel) (pa_cons (pv 9) pa_nil)) pa_nil)) (blkOk_by (own := [("k", 15)]) (N := N__law_forms) (sc := defScope s__law_forms) (by decide +kernel)) (fun _ _ _ _ _ => pg_name (i := 15) nd rfl (Or.inl rfl)) (fun _ _ _ _ _ => pts_nil) (fun _ _ _ _ _ => (pe_call G__law_spots hr__law_spots rfl T.g__law_spots T.k__law_spots T.b__law_spots .nil pass0 (pa_cons (pv 1) (pa_cons (pe_ix (show IxR _ (rIxL K) from ix_list) (pv 9) (pv 15) (fun _ _ => rfl)) (pa_cons (pe_ix (show IxR _ (rIxT K) from ix_tup) (pv 12) (pv 15) (fun _ _ => rfl)) (pa_cons (pe_cmpR op_ne (pv 15) (pv 10) (nomark _)) pa_nil))))))) pa_nil)))
              (pss_one (ps_if (pt_cmpR op_gt (pv 14) pe_int (nomark _))
                (pss_one (ps_expr (pe_bm PySem.F.plainAttrs_list PySem.F.slot_list_append PySem.F.type_list_append mt_append (pv 6) (pa_cons (pe_tup (pa_cons pe_str (pa_cons (pv 8) (pa_cons (pv 12) pa_nil)))) pa_nil))))
                pss_nil))))
              pss_nil)
            (pss_cons (ps_if (pt_cmpR op_lt (pv 10) (pe_callB call_len_seq (by rfl) T.z_len (by decide +kernel) (pa_cons (pv 9) pa_nil)) (nomark _))
              (pss_cons (ps_set (i := 16) nd rfl (Or.inl rfl) (pe_ix ix_list (pv 1) (pe_ix ix_list (pv 9) (pv 10) (fun _ _ => rfl)) (fun _ _ => rfl)))
              (pss_cons (ps_set (i := 17) nd rfl (Or.inl rfl) (pe_callB (call_max2 rfl) (by rfl) T.z_max (by decide +kernel) (pa_cons pe_int (pa_cons (pe_op op_sub (pe_op op_sub (pe_callB call_len_seq (by rfl) T.z_len (by decide +kernel) (pa_cons (pv 16) pa_nil)) pe_int) (pe_call G__law_take hr__law_take rfl T.g__law_take T.k__law_take T.b__law_take .nil pass0 (pa_cons (pv 0) (pa_cons pe_int pa_nil)))) pa_nil))))
              (pss_cons (ps_for PassesOwn.never rfl (pi_range1 rfl T.z_range (pa_cons (pv 17) pa_nil)) (pg_name (i := 18) nd rfl (Or.inl rfl))
                (pss_cons (ps_setLc (i := 19) (own := [("part", 13)]) (g := gName 13) (tt := tYes) rfl nd rfl rfl (sw_true rfl rfl rfl (by decide +kernel)) (pi_list (pv 9)) (blkOk_by (own := [("part", 13)]) (N := N__law_forms) (sc := defScope s__law_forms) (by decide +kernel)) (fun _ _ _ _ _ => pg_name (i := 13) nd rfl (Or.inl rfl)) (fun _ _ _ _ _ => pts_nil) (fun _ _ _ _ _ => (pe_call G__law_any hr__law_any rfl T.g__law_any T.k__law_any T.b__law_any .nil pass0 (pa_cons (pv 0) pa_nil))))
                (pss_cons (ps_asg (pe_tup (pa_cons pe_str (pa_cons (pv 18) (pa_cons (pe_callTy call_tuple_of (by rfl) T.z_tuple (by decide +kernel) (pa_cons (pe_lc (own := [("part", 13)]) (g := gName 13) (tt := tYes) rfl nd (pi_list (pe_ix ix_list (pv 16) (pv 18) (fun _ _ => rfl))) (blkOk_by (own := [("part", 13)]) (N := N__law_forms) (sc := defScope s__law_forms) (by decide +kernel)) (fun _ _ _ _ _ => pg_name (i := 13) nd rfl (Or.inl rfl)) (fun _ _ _ _ _ => pts_nil) (fun _ _ _ _ _ => (pe_call G__law_any hr__law_any rfl T.g__law_any T.k__law_any T.b__law_any .nil pass0 (pa_cons (pv 0) pa_nil)))) pa_nil)) pa_nil)))) (pg_sub (pv 19) (pv 10) set_list))
                (pss_one (ps_expr (pe_bm PySem.F.plainAttrs_list PySem.F.slot_list_append PySem.F.type_list_append mt_append (pv 6) (pa_cons (pe_tup (pa_cons pe_str (pa_cons (pv 8) (pa_cons (pe_callTy call_tuple_of (by rfl) T.z_tuple (by decide +kernel) (pa_cons (pv 19) pa_nil)) pa_nil)))) pa_nil)))))))
              (pss_one (ps_set (i := 11) nd rfl (Or.inl rfl) (pe_cmpR op_lt (pv 17) (pe_callB call_len_seq (by rfl) T.z_len (by decide +kernel) (pa_cons (pv 16) pa_nil)) (nomark _)))))))
              pss_nil)
            (pss_one (ps_if (pt_val (pv 11))
              (pss_one (ps_expr (pe_bm PySem.F.plainAttrs_list PySem.F.slot_list_append PySem.F.type_list_append mt_append (pv 6) (pa_cons (pe_tup (pa_cons pe_str (pa_cons (pv 8) (pa_cons (pe_callTy call_tuple_of (by rfl) T.z_tuple (by decide +kernel) (pa_cons (pe_lc (own := [("part", 13)]) (g := gName 13) (tt := tYes) rfl nd (pi_list (pv 9)) (blkOk_by (own := [("part", 13)]) (N := N__law_forms) (sc := defScope s__law_forms) (by decide +kernel)) (fun _ _ _ _ _ => pg_name (i := 13) nd rfl (Or.inl rfl)) (fun _ _ _ _ _ => pts_nil) (fun _ _ _ _ _ => (pe_call G__law_any hr__law_any rfl T.g__law_any T.k__law_any T.b__law_any .nil pass0 (pa_cons (pv 0) pa_nil)))) pa_nil)) pa_nil)))) pa_nil))))
              pss_nil)))))))))
          (pss_cons (ps_if (pt_cmpR op_lt (pv 5) (pv 3) (nomark _))
            (pss_one (ps_expr (pe_bm PySem.F.plainAttrs_list PySem.F.slot_list_append PySem.F.type_list_append mt_append (pv 6) (pa_cons (pe_call G__law_any hr__law_any rfl T.g__law_any T.k__law_any T.b__law_any .nil pass0 (pa_cons (pv 0) pa_nil)) pa_nil))))
            pss_nil)
          (pss_one (ps_ret (pv 6))))))))), ?_⟩
    obtain ⟨ms, ems, mp, mq⟩ := hK.at hk4
    obtain ⟨l, vs, x, rfl, el, lv, ex, hx⟩ := kinds_at hv ems
    obtain ⟨l2, vs2, rfl, el2, lm2⟩ := makers_len hx
    refine ⟨_, rfl, _, rfl, l, vs, _, _, rfl, rfl, SqL.of el, atI_nat ex, l2, _, rfl, .inl (SqL.of el2), ?_⟩
    refine ⟨_, rfl, _, rfl, dk, vs2.length, rfl, by omega, hd, fun st H1 hst b1 d1 => ?_⟩
    refine ⟨_, rfl, _, rfl, _, rfl, dk, vs2.length, rfl, by omega, d1, fun cu H2 hcu b2 d2 => ?_⟩
    refine ⟨_, _, rfl, rfl, ?_⟩
    refine ⟨sl_le (by show 0 ≤ 10000000; decide), fun D hD => ?_⟩
    have ndD : D ≠ dk := fun z => (d2.ne_new hD) z.symm
    have hHD : H D = none := by
      cases e : H D with
      | none => rfl
      | some o =>
        have := b2 _ _ (b1 _ _ e ndD) ndD
        rw [hD] at this
        cases this
    have F0 : FA K kinds k H dk D (upd H2 D (.lst [])) [] := ⟨(b1.trans b2).same (same_new hD), d2.same (same_new hD), hHD, ndD, ⟨[], upd_same, trs_nil.mpr rfl⟩, FormsGood.nil⟩
    have est : ((vs2.length : Nat) : Int) - (cu : Int) = ((vs2.length - cu : Nat) : Int) := by omega
    generalize hstop : vs2.length - cu = stop at est
    dsimp only [gName]
    rw [est]
    refine seq_of (fun σ H' => ∃ (fs : List Form) (x7 x8 x9 x10 x11 x12 x13 x14 x15 x16 x17 x18 x19 : Option V), σ = [some (.ref dk), some (.ref l), some (.int (k : Int)), some (.int (vs2.length : Int)), some (.int (st : Int)), some (.int (stop : Int)), some (.ref D), x7, x8, x9, x10, x11, x12, x13, x14, x15, x16, x17, x18, x19] ∧ FA K kinds k H dk D H' fs ∧ fs.length ≤ 6 * stop ∧ ∀ m cs, CellK kinds (.mk m cs) k → (∃ j, j < stop ∧ m = (((st + j) % ms.length : Nat) : Int)) → ∃ f ∈ fs, takes f (.mk m cs) = true) (fun nx hnx => ?_) ?_
    · refine ⟨_, rfl, _, rfl, by omega, by omega, for_range (lo := 0) (n := stop) (fun i σ H' => ∃ (fs : List Form) (x7 x8 x9 x10 x11 x12 x13 x14 x15 x16 x17 x18 x19 : Option V), σ = [some (.ref dk), some (.ref l), some (.int (k : Int)), some (.int (vs2.length : Int)), some (.int (st : Int)), some (.int (stop : Int)), some (.ref D), x7, x8, x9, x10, x11, x12, x13, x14, x15, x16, x17, x18, x19] ∧ FA K kinds k H dk D H' fs ∧ fs.length ≤ 6 * i ∧ ∀ m cs, CellK kinds (.mk m cs) k → (∃ j, j < i ∧ m = (((st + j) % ms.length : Nat) : Int)) → ∃ f ∈ fs, takes f (.mk m cs) = true) ⟨[], none, none, none, none, none, none, none, none, none, none, none, none, none, rfl, F0, Nat.le_refl _, fun m cs _ ⟨j, hj, _⟩ => absurd hj (Nat.not_lt_zero j)⟩ ?_ (fun σ H' h => hnx σ H' h)⟩
      rintro i σ H' hi ⟨fs, x7, x8, x9, x10, x11, x12, x13, x14, x15, x16, x17, x18, x19, rfl, F, hlen, hcov⟩
      clear F0
      dsimp only [gName]
      refine ⟨_, rfl, _, rfl, _, _, rfl, rfl, _, rfl, _, _, rfl, rfl, (by show ((vs2.length : Nat) : Int) ≠ 0; omega), ?_⟩
      dsimp only [gName]
      have emk : Int.fmod ((st : Int) + (0 + (i : Int))) ((vs2.length : Nat) : Int) = (((st + i) % ms.length : Nat) : Int) := by
        rw [show (st : Int) + (0 + (i : Int)) = ((st + i : Nat) : Int) by omega, fmod_nat, lm2]
      rw [emk]
      have hmk : (st + i) % ms.length < ms.length := Nat.mod_lt _ mp
      generalize hmkd : (st + i) % ms.length = mk at hmk
      obtain ⟨l', vs', l3, vs3, lp, e', ex', ey, elH, el3H, epH, nl, nl3, np, lv3⟩ := kinds_path hv ems (List.getElem?_eq_getElem hmk)
      cases e'
      have el' := F.but _ _ elH nl
      have el3 := F.but _ _ el3H nl3
      have ep := F.but _ _ epH np
      have nlD : lp ≠ D := ne_of_none epH F.hD
      have epk := parts_of ems (List.getElem?_eq_getElem hmk)
      obtain ⟨hpl, hpk⟩ := hK.parts k mk _ epk
      generalize ms[mk] = ps at *
      refine ⟨_, rfl, _, rfl, l, vs', _, _, rfl, rfl, SqL.of el', atI_nat ex', _, rfl, l3, vs3, _, _, rfl, rfl, SqL.of el3, atI_nat ey, ?_⟩
      dsimp only [gName]
      refine seq_of (fun σ H3 => ∃ (at_ : Nat), σ = [some (.ref dk), some (.ref l), some (.int (k : Int)), some (.int (vs2.length : Int)), some (.int (st : Int)), some (.int (stop : Int)), some (.ref D), some (.int (0 + (i : Int))), some (.int (mk : Int)), some (.ref lp), some (.int (at_ : Int)), x11, x12, x13, x14, x15, x16, x17, x18, x19] ∧ FA K kinds k H dk D H3 fs ∧ H3 lp = some (.lst (natVs ps))) (fun nx hnx => ?_) ?_
      · refine ⟨_, rfl, lp, _, rfl, .inl (SqL.of ep), _, _, rfl, rfl, _, rfl, ite2 (fun z => ?_) (fun z => ?_)⟩
        · have z' : 0 < ps.length := by
            have := of_decide_eq_true z
            rw [natVs_len] at this
            omega
          refine ⟨_, rfl, _, rfl, lp, _, rfl, .inl (SqL.of ep), _, _, rfl, rfl, .inl ⟨by decide, by decide⟩, dk, 2 * ps.length, by rw [natVs_len]; rfl, by omega, F.deck, fun r H3 hr3 b3 d3 => ?_⟩
          exact hnx _ _ ⟨r, rfl, F.to b3 d3, b3 _ _ ep np⟩
        · exact hnx _ _ ⟨0, rfl, F, ep⟩
      · rintro σ H3 ⟨at_, rfl, F3, ep3⟩
        refine seq_of (fun σ H' => σ = [some (.ref dk), some (.ref l), some (.int (k : Int)), some (.int (vs2.length : Int)), some (.int (st : Int)), some (.int (stop : Int)), some (.ref D), some (.int (0 + (i : Int))), some (.int (mk : Int)), some (.ref lp), some (.int (at_ : Int)), some (.bl true), x12, x13, x14, x15, x16, x17, x18, x19] ∧ H' = H3) (fun nx hnx => hnx _ _ ⟨rfl, rfl⟩) ?_
        rintro σ H' ⟨rfl, rfl⟩
        refine seq_of (fun σ H4 => ∃ (fs2 : List Form) (x12 x13 x14 x15 x16 x17 x18 x19 : Option V), σ = [some (.ref dk), some (.ref l), some (.int (k : Int)), some (.int (vs2.length : Int)), some (.int (st : Int)), some (.int (stop : Int)), some (.ref D), some (.int (0 + (i : Int))), some (.int (mk : Int)), some (.ref lp), some (.int (at_ : Int)), some (.bl true), x12, x13, x14, x15, x16, x17, x18, x19] ∧ FA K kinds k H dk D H4 fs2 ∧ H4 lp = some (.lst (natVs ps)) ∧ (∀ f ∈ fs, f ∈ fs2) ∧ fs2.length ≤ fs.length + 1) (fun nx hnx => ?_) ?_
        · refine ⟨_, rfl, lp, _, rfl, .inl (SqL.of ep3), _, _, rfl, rfl, _, rfl, ite2 (fun z => ?_) (fun z => iteF (hnx _ _ ⟨fs, _, _, _, _, _, _, _, _, rfl, F3, ep3, fun f hf => hf, Nat.le_succ _⟩))⟩
          have z' : 0 < ps.length := by
            have := of_decide_eq_true z
            rw [natVs_len] at this
            omega
          refine ⟨_, rfl, dk, 2, rfl, by decide, F3.deck, fun r H4 hr4 b4 d4 => ?_⟩
          have ep4 := b4 _ _ ep3 np
          have F4 := F3.to b4 d4
          refine ⟨rfl, _, rfl, ite2 (fun z => ?_) (fun z => hnx _ _ ⟨fs, _, _, _, _, _, _, _, _, rfl, F4, ep4, fun f hf => hf, Nat.le_succ _⟩)⟩
          refine seq_of (fun σ H' => ∃ (q : Addr) (ws : List V) (nfs : List Form), σ = [some (.ref dk), some (.ref l), some (.int (k : Int)), some (.int (vs2.length : Int)), some (.int (st : Int)), some (.int (stop : Int)), some (.ref D), some (.int (0 + (i : Int))), some (.int (mk : Int)), some (.ref lp), some (.int (at_ : Int)), some (.bl true), some (.ref q), x13, x14, x15, x16, x17, x18, x19] ∧ FA K kinds k H dk D H' fs ∧ H' lp = some (.lst (natVs ps)) ∧ SqT K H' q ws ∧ TrsAt K H' ws (nfs.map formT) ∧ FormsK kinds (Forms.of nfs) ps ∧ ∀ f ∈ nfs, (formT f).dep ≤ 5) (fun nx hnx => ?_) ?_
          · refine ⟨_, rfl, lp, rfl, ⟨_, SqL.of ep4⟩, fun D2 hD2 => lc_list (K := K) (a := lp) (xs := natVs ps) (fun j H' => ∃ (ws : List V) (nfs : List Form), But1 H4 H' dk ∧ DeckAt H' dk ∧ H' D2 = some (.lst ws) ∧ TrsAt K H' ws (nfs.map formT) ∧ FormsK kinds (Forms.of nfs) (ps.take j) ∧ ∀ f ∈ nfs, (formT f).dep ≤ 5)
              ⟨[], [], But1.of_same (same_new hD2), d4.same (same_new hD2), upd_same, trs_nil.mpr rfl, by rw [List.take_zero]; exact formsK_nil, fun f h => by cases h⟩ (fun j H' _ ⟨ws, cs, b, _⟩ => SqL.of (b _ _ ep4 np)) ?_ ?_⟩
            · rintro j y H5 hy ⟨ws, nfs, b5, d5, eD, hws, hfs, hdp⟩
              have hj : j < ps.length := by
                have := (List.getElem?_eq_some_iff.mp hy).1
                rw [natVs_len] at this
                omega
              rw [natVs_at (List.getElem?_eq_getElem hj)] at hy
              cases hy
              have hq := hpk _ (List.getElem_mem hj)
              refine ⟨rfl, ?_⟩
              refine ⟨_, rfl, _, rfl, _, rfl, dk, _, kinds, ps[j], 2, rfl, d5, (hv.to F4.but).to b5, hK, by omega, Nat.le_refl _, fun u f H6 b6 d6 hu huk hud => ?_⟩
              have ndD2 : D2 ≠ dk := fun z => (d4.ne_new hD2) z.symm
              have eD6 := b6 _ _ eD ndD2
              have lw := trs_len hws
              have lk := formsK_len hfs
              rw [Forms.of_list, List.length_take] at lk
              rw [List.length_map] at lw
              have t := d5.tex b6
              have t2 := TEx.upd_lst (ys := ws ++ [u]) eD6
              refine ⟨ws, eD6, sl_lt (by omega), ws ++ [u], nfs ++ [f], fun b o e n => ?_, d6.but (fun z => ndD2 z.symm) (fun b o e n => by rw [upd_ne n]; exact e), upd_same, ?_, ?_, ?_⟩
              · rw [upd_ne (ne_of_none e hD2)]
                exact b6 _ _ (b5 _ _ e n) n
              · rw [List.map_append]
                exact trs_snoc ((hws.to t).to t2) (hu.to t2)
              · rw [List.take_succ, List.getElem?_eq_getElem hj]
                exact formsK_snoc hfs huk
              · intro f' hf'
                rcases List.mem_append.mp hf' with hf' | hf'
                · exact hdp _ hf'
                · rw [List.mem_singleton.mp hf']; exact hud
            · rintro H5 ⟨ws, nfs, b5, d5, eD, hws, hfs, hdp⟩
              rw [natVs_len, List.take_length] at hfs
              refine ⟨D2, ws, rfl, .inl ⟨SqL.of eD, fun q hq => ?_⟩⟩
              have s3 := same_new (o := .tup ws) hq
              exact hnx _ _ ⟨q, ws, nfs, rfl, (F4.to b5 d5).same s3, s3 _ _ (b5 _ _ ep4 np), SqT.of upd_same, hws.same s3, hfs, hdp⟩
          · rintro σ H5 ⟨q, ws, nfs, rfl, F5, ep5, hq5, hws, hfs, hdp⟩
            refine seq_of (fun σ H' => ∃ (n : Int), σ = [some (.ref dk), some (.ref l), some (.int (k : Int)), some (.int (vs2.length : Int)), some (.int (st : Int)), some (.int (stop : Int)), some (.ref D), some (.int (0 + (i : Int))), some (.int (mk : Int)), some (.ref lp), some (.int (at_ : Int)), some (.bl true), some (.ref q), x13, some (.int n), x15, x16, x17, x18, x19] ∧ FA K kinds k H dk D H' fs ∧ H' lp = some (.lst (natVs ps)) ∧ SqT K H' q ws ∧ TrsAt K H' ws (nfs.map formT)) (fun nx hnx => ?_) ?_
            · refine ⟨_, rfl, lp, _, rfl, .inl (SqL.of ep5), _, rfl, by rw [natVs_len]; omega, by rw [natVs_len]; omega, fun D2 hD2 => lc_range (lo := 0) (n := (natVs ps).length) (fun j H' => ∃ ns : List Int, Same H5 H' ∧ H' D2 = some (.lst (ns.map V.int)) ∧ ns.length = j) ⟨[], same_new hD2, upd_same, rfl⟩ ?_ ?_⟩
              · rintro j H6 hj ⟨ns, s6, eD, ln⟩
                rw [natVs_len] at hj
                refine ⟨rfl, ?_⟩
                have lw := trs_len hws
                have lk := formsK_len hfs
                rw [Forms.of_list] at lk
                rw [List.length_map] at lw
                have e1 : nfs[j]? = some nfs[j] := List.getElem?_eq_getElem (by omega)
                obtain ⟨z, e2, hz⟩ := trs_at hws (by rw [List.getElem?_map, e1]; rfl : (nfs.map formT)[j]? = some (formT nfs[j]))
                have e3 := List.getElem?_eq_getElem hj
                have hq := hpk _ (List.getElem_mem hj)
                have hf1 := formsK_at hfs (by rw [Forms.of_list]; exact e1) e3
                have hd1 := hdp nfs[j] (List.getElem_mem _)
                have ejj : (0 : Int) + (j : Int) = ((j : Nat) : Int) := by omega
                rw [ejj]
                refine ⟨_, rfl, _, rfl, _, rfl, lp, _, _, _, rfl, rfl, SqL.of (s6 _ _ ep5), atI_nat (natVs_at e3), _, rfl, _, rfl, q, _, _, _, rfl, rfl, sqt_same s6 hq5, atI_nat e2, ?_⟩
                refine ⟨_, rfl, _, rfl, rfl, dk, _, _, kinds, ps[j], nfs[j], _, rfl, (hv.to F5.but).to (but1_same s6), hK, by omega, hz.same s6, hf1, hd1, fun r H7 s7 => ?_⟩
                have eD7 := s7 _ _ eD
                exact ⟨_, eD7, sl_lt (by rw [List.length_map]; omega), ns ++ [r], fun b o e => by rw [upd_ne (ne_of_none e hD2)]; exact s7 _ _ (s6 _ _ e), by rw [List.map_append]; exact upd_same, by simp [ln]⟩
              · rintro H6 ⟨ns, s6, eD, ln⟩
                refine ⟨D2, ns, rfl, SqL.of eD, ?_⟩
                exact hnx _ _ ⟨_, rfl, F5.same s6, s6 _ _ ep5, sqt_same s6 hq5, hws.same s6⟩
            · rintro σ H6 ⟨n, rfl, F6, ep6, hq6, hws6⟩
              refine ⟨_, rfl, _, _, rfl, rfl, _, rfl, ite2 (fun z => ?_) (fun z => hnx _ _ ⟨fs, _, _, _, _, _, _, _, _, rfl, F6, ep6, fun f hf => hf, Nat.le_succ _⟩)⟩
              obtain ⟨us, eD, hus⟩ := F6.at_
              have lus := F6.len eD
              refine ⟨_, rfl, .inl ⟨rfl, _, SqL.of eD⟩, ?_⟩
              refine ⟨_, rfl, _, rfl, sl_le (by show 3 ≤ 10000000; decide), fun r hr => ?_⟩
              have s7 := same_new (o := .tup [.str "make", .int (mk : Int), .ref q]) hr
              have F7 := F6.same s7
              have eD7 := s7 _ _ eD
              refine ⟨D, us, _, rfl, rfl, eD7, sl_lt (by omega), ?_⟩
              have P := F7.push eD7 (f := .make mk (Forms.of nfs)) (tr_make (SqT.of upd_same) (sqt_same s7 hq6) (hws6.same s7)) (by rw [FormK]; exact ⟨ps, epk, hfs⟩) (by have := dep_make (m := mk) hdp; omega)
              exact hnx _ _ ⟨fs ++ [.make mk (Forms.of nfs)], _, _, _, _, _, _, _, _, rfl, P, by rw [upd_ne nlD]; exact s7 _ _ ep6, fun f hf => List.mem_append_left _ hf, by simp⟩
        · rintro σ H4 ⟨fs2, x12, x13, x14, x15, x16, x17, x18, x19, rfl, F4, ep4, hsub, hlen2⟩
          refine seq_of (fun σ H5 => ∃ (fs3 : List Form) (wh : Bool) (x12 x13 x14 x15 x16 x17 x18 x19 : Option V), σ = [some (.ref dk), some (.ref l), some (.int (k : Int)), some (.int (vs2.length : Int)), some (.int (st : Int)), some (.int (stop : Int)), some (.ref D), some (.int (0 + (i : Int))), some (.int (mk : Int)), some (.ref lp), some (.int (at_ : Int)), some (.bl wh), x12, x13, x14, x15, x16, x17, x18, x19] ∧ FA K kinds k H dk D H5 fs3 ∧ H5 lp = some (.lst (natVs ps)) ∧ (∀ f ∈ fs2, f ∈ fs3) ∧ fs3.length ≤ fs2.length + 4 ∧ (wh = false → ∀ m cs, CellsK kinds cs ps → m = (mk : Int) → ∃ f ∈ fs3, takes f (.mk m cs) = true)) (fun nx hnx => ?_) ?_
          · refine ⟨_, rfl, _, rfl, lp, _, rfl, .inl (SqL.of ep4), _, _, rfl, rfl, _, rfl, ite2 (fun z => ?_) (fun z => hnx _ _ ⟨fs2, true, _, _, _, _, _, _, _, _, rfl, F4, ep4, fun f hf => hf, by omega, fun z => Bool.noConfusion z⟩)⟩
            have hat : at_ < ps.length := by
              have := of_decide_eq_true z
              rw [natVs_len] at this
              omega
            have e3 := List.getElem?_eq_getElem hat
            have hq := hpk _ (List.getElem_mem hat)
            obtain ⟨ms2, ems2, mp2, mq2⟩ := hK.at (show ps[at_] < 4 by omega)
            obtain ⟨l'', vs'', li, vsi, e', exi, elH2, eliH, _, nli, lvi⟩ := kinds_path1 hv ems2
            cases e'
            cases lst_inj elH elH2
            have el4 := F4.but _ _ elH nl
            have eli4 := F4.but _ _ eliH nli
            refine seq_of (fun σ H' => σ = [some (.ref dk), some (.ref l), some (.int (k : Int)), some (.int (vs2.length : Int)), some (.int (st : Int)), some (.int (stop : Int)), some (.ref D), some (.int (0 + (i : Int))), some (.int (mk : Int)), some (.ref lp), some (.int (at_ : Int)), some (.bl true), x12, x13, x14, x15, some (.ref li), x17, x18, x19] ∧ H' = H4) (fun nx hnx => ⟨_, rfl, _, rfl, _, rfl, lp, _, _, _, rfl, rfl, SqL.of ep4, atI_nat (natVs_at e3), l, vs', _, _, rfl, rfl, SqL.of el4, atI_nat exi, hnx _ _ ⟨rfl, rfl⟩⟩) ?_
            rintro σ H5 ⟨rfl, rfl⟩
            refine seq_of (fun σ H' => ∃ (cut : Nat), 1 ≤ cut ∧ cut ≤ ms2.length ∧ σ = [some (.ref dk), some (.ref l), some (.int (k : Int)), some (.int (vs2.length : Int)), some (.int (st : Int)), some (.int (stop : Int)), some (.ref D), some (.int (0 + (i : Int))), some (.int (mk : Int)), some (.ref lp), some (.int (at_ : Int)), some (.bl true), x12, x13, x14, x15, some (.ref li), some (.int (cut : Int)), x18, x19] ∧ FA K kinds k H dk D H' fs2) (fun nx hnx => ?_) ?_
            · refine ⟨_, rfl, li, _, rfl, .inl (SqL.of eli4), _, _, rfl, rfl, _, rfl, dk, 2, rfl, by decide, F4.deck, fun r H6 hr6 b6 d6 => ?_⟩
              refine ⟨_, _, rfl, rfl, _, _, rfl, ?_⟩
              have ecut : (if ((vsi.length : Nat) : Int) - 1 - (r : Int) > 1 then ((vsi.length : Nat) : Int) - 1 - (r : Int) else 1) = ((max 1 (ms2.length - 1 - r) : Nat) : Int) := by split <;> omega
              rw [ecut]
              exact hnx _ _ ⟨max 1 (ms2.length - 1 - r), by omega, by omega, rfl, F4.to b6 d6⟩
            · rintro σ H6 ⟨cut, hc1, hc2, rfl, F6⟩
              refine seq_of (fun σ H' => ∃ (fs3 : List Form) (x18 x19 : Option V), σ = [some (.ref dk), some (.ref l), some (.int (k : Int)), some (.int (vs2.length : Int)), some (.int (st : Int)), some (.int (stop : Int)), some (.ref D), some (.int (0 + (i : Int))), some (.int (mk : Int)), some (.ref lp), some (.int (at_ : Int)), some (.bl true), x12, x13, x14, x15, some (.ref li), some (.int (cut : Int)), x18, x19] ∧ FA K kinds k H dk D H' fs3 ∧ (∀ f ∈ fs2, f ∈ fs3) ∧ fs3.length ≤ fs2.length + cut ∧ (∀ m cs (m2 : Nat) c2, CellsK kinds cs ps → m = (mk : Int) → m2 < cut → cs[at_]? = some (.mk (m2 : Int) c2) → CellK kinds (.mk (m2 : Int) c2) ps[at_] → ∃ f ∈ fs3, takes f (.mk m cs) = true)) (fun nx hnx => ?_) ?_
              · refine ⟨_, rfl, _, rfl, by omega, by omega, for_range (lo := 0) (n := cut) (fun j σ H' => ∃ (fs3 : List Form) (x18 x19 : Option V), σ = [some (.ref dk), some (.ref l), some (.int (k : Int)), some (.int (vs2.length : Int)), some (.int (st : Int)), some (.int (stop : Int)), some (.ref D), some (.int (0 + (i : Int))), some (.int (mk : Int)), some (.ref lp), some (.int (at_ : Int)), some (.bl true), x12, x13, x14, x15, some (.ref li), some (.int (cut : Int)), x18, x19] ∧ FA K kinds k H dk D H' fs3 ∧ (∀ f ∈ fs2, f ∈ fs3) ∧ fs3.length ≤ fs2.length + j ∧ (∀ m cs (m2 : Nat) c2, CellsK kinds cs ps → m = (mk : Int) → m2 < j → cs[at_]? = some (.mk (m2 : Int) c2) → CellK kinds (.mk (m2 : Int) c2) ps[at_] → ∃ f ∈ fs3, takes f (.mk m cs) = true)) ⟨fs2, _, _, rfl, F6, fun f hf => hf, Nat.le_refl _, fun m cs m2 c2 _ _ hm => absurd hm (Nat.not_lt_zero m2)⟩ ?_ (fun σ H' h => hnx σ H' h)⟩
                rintro j σ H7 hj ⟨fs3, x18, x19, rfl, F7, hsub3, hlen3, hcov3⟩
                dsimp only [gName]
                rw [show (0 : Int) + (j : Int) = ((j : Nat) : Int) by omega]
                have ep7 := F7.but _ _ epH np
                have eli7 := F7.but _ _ eliH nli
                refine seq_of (fun σ H' => ∃ (q : Addr) (ws : List V) (nfs : List Form), σ = [some (.ref dk), some (.ref l), some (.int (k : Int)), some (.int (vs2.length : Int)), some (.int (st : Int)), some (.int (stop : Int)), some (.ref D), some (.int (0 + (i : Int))), some (.int (mk : Int)), some (.ref lp), some (.int (at_ : Int)), some (.bl true), x12, x13, x14, x15, some (.ref li), some (.int (cut : Int)), some (.int (j : Int)), some (.ref q)] ∧ FA K kinds k H dk D H' fs3 ∧ H' q = some (.lst ws) ∧ q ≠ dk ∧ q ≠ D ∧ H q = none ∧ TrsAt K H' ws (nfs.map formT) ∧ (∀ f ∈ nfs, Leaf f) ∧ nfs.length = ps.length) (fun nx hnx => ?_) ?_
                · refine ⟨_, rfl, lp, rfl, ⟨_, SqL.of ep7⟩, fun D2 hD2 => lc_any (K := K) (i := 13) (fun y H' Q hd hk => ⟨_, rfl, dk, rfl, hd, hk⟩) (fun y => rfl) ep7 np F7.deck hD2 hpl (fun H8 ws nfs b8 d8 eD nd2 hws hl hlen => ?_)⟩
                  obtain ⟨n1, n2, n3⟩ := F7.fresh hD2
                  exact hnx _ _ ⟨D2, ws, nfs, rfl, F7.to b8 d8, eD, n2, n3, n1, hws, hl, hlen⟩
                · rintro σ H8 ⟨q, ws, nfs, rfl, F8, eq8, nqdk, nqD, hHq, hws, hnfs, lnfs⟩
                  have lws := trs_len hws
                  rw [List.length_map] at lws
                  have eli8 := F8.but _ _ eliH nli
                  have hj2 : j < ms2.length := by omega
                  obtain ⟨l0, vs0, li0, vsi0, lp2, e0, ex0, ey0, elH0, eliH0, ep2H, _, _, np2, lvi0⟩ := kinds_path hv ems2 (List.getElem?_eq_getElem hj2)
                  cases e0
                  cases lst_inj elH elH0
                  rw [exi] at ex0
                  cases ex0
                  cases lst_inj eliH eliH0
                  have epk2 := parts_of ems2 (List.getElem?_eq_getElem hj2)
                  obtain ⟨hpl2, hpk2⟩ := hK.parts _ _ _ epk2
                  generalize hps2 : ms2[j] = ps2 at *
                  have ep28 := F8.but _ _ ep2H np2
                  refine seq_of (fun σ H' => ∃ (ws2 : List V) (nfs2 : List Form), σ = [some (.ref dk), some (.ref l), some (.int (k : Int)), some (.int (vs2.length : Int)), some (.int (st : Int)), some (.int (stop : Int)), some (.ref D), some (.int (0 + (i : Int))), some (.int (mk : Int)), some (.ref lp), some (.int (at_ : Int)), some (.bl true), x12, x13, x14, x15, some (.ref li), some (.int (cut : Int)), some (.int (j : Int)), some (.ref q)] ∧ FA K kinds k H dk D H' fs3 ∧ H' q = some (.lst ws2) ∧ ws2.length = ps.length ∧ TrsAt K H' ws2 ((nfs.set at_ (.make j (Forms.of nfs2))).map formT) ∧ (∀ f ∈ nfs2, Leaf f) ∧ nfs2.length = ps2.length) (fun nx hnx => ?_) ?_
                  · refine ⟨_, rfl, _, rfl, _, rfl, li, _, _, _, rfl, rfl, SqL.of eli8, atI_nat ey0, lp2, rfl, ⟨_, SqL.of ep28⟩, fun D2 hD2 => lc_any (K := K) (i := 13) (fun y H' Q hd hk => ⟨_, rfl, dk, rfl, hd, hk⟩) (fun y => rfl) ep28 np2 F8.deck hD2 hpl2 (fun H9 ws2 nfs2 b9 d9 eD nd2 hws2 hl2 hlen2 => ?_)⟩
                    refine ⟨D2, ws2, rfl, .inl ⟨SqL.of eD, fun q2 hq2 => ⟨sl_le (by show 3 ≤ 10000000; decide), fun r hr => ?_⟩⟩⟩
                    have s3 := same_new (o := .tup ws2) hq2
                    have s4 := same_new (o := .tup [.str "make", .int (j : Int), .ref q2]) hr
                    have s34 := s3.trans s4
                    have eqA := s34 _ _ (b9 _ _ eq8 nqdk)
                    have FA9 := (F8.to b9 d9).same s34
                    refine ⟨_, rfl, _, rfl, q, ws, _, at_, rfl, rfl, eqA, ixN_nat (by omega), ?_⟩
                    have t9 := F8.deck.tex b9
                    have tq := TEx.upd_lst (ys := ws.set at_ (.ref r)) eqA
                    refine hnx _ _ ⟨ws.set at_ (.ref r), nfs2, rfl, FA9.write eqA nqdk nqD hHq, upd_same, by rw [List.length_set, lws, lnfs], ?_, hl2, hlen2⟩
                    rw [List.map_set]
                    refine trs_set (((hws.to t9).same s34).to tq) (TrAt.to tq (tr_make (SqT.of upd_same) (SqT.of (s4 _ _ upd_same)) (hws2.same s34)))
                  · rintro σ H9 ⟨ws2, nfs2, rfl, F9, eq9, lws2, hws2, hnfs2, lnfs2⟩
                    obtain ⟨us, eD, hus⟩ := F9.at_
                    have lus := F9.len eD
                    have lf2 := F9.good
                    refine ⟨_, rfl, .inl ⟨rfl, _, SqL.of eD⟩, ?_⟩
                    refine ⟨_, rfl, _, rfl, q, ws2, rfl, .inl ⟨SqL.of eq9, fun q2 hq2 => ⟨sl_le (by show 3 ≤ 10000000; decide), fun r hr => ?_⟩⟩⟩
                    have s3 := same_new (o := .tup ws2) hq2
                    have s4 := same_new (o := .tup [.str "make", .int (mk : Int), .ref q2]) hr
                    have s34 := s3.trans s4
                    have F10 := F9.same s34
                    have eD10 := s34 _ _ eD
                    refine ⟨D, us, _, rfl, rfl, eD10, sl_lt (by omega), ?_⟩
                    have fk : FormsK kinds (Forms.of (nfs.set at_ (.make j (Forms.of nfs2)))) ps := by
                      refine formsK_of _ _ (by rw [List.length_set, lnfs]) fun i f p h1 h2 => ?_
                      rw [List.getElem?_set] at h1
                      split at h1
                      · rename_i e0
                        subst e0
                        rw [if_pos (by omega)] at h1
                        rw [e3] at h2
                        cases h1
                        cases h2
                        rw [FormK]
                        exact ⟨ps2, epk2, leafs_kind hnfs2 lnfs2⟩
                      · exact formK_leaf (hnfs f (List.mem_of_getElem? h1))
                    have hdm : ∀ f ∈ nfs.set at_ (.make j (Forms.of nfs2)), (formT f).dep ≤ 3 := by
                      intro f hf
                      rcases List.mem_or_eq_of_mem_set hf with hf | rfl
                      · rw [dep_leaf (hnfs f hf)]; omega
                      · exact dep_make (n := 1) fun f hf => by rw [dep_leaf (hnfs2 f hf)]; omega
                    have P := F10.push eD10 (f := .make mk (Forms.of (nfs.set at_ (.make j (Forms.of nfs2))))) (tr_make (SqT.of upd_same) (SqT.of (s4 _ _ upd_same)) (hws2.same s34)) (by rw [FormK]; exact ⟨ps, epk, fk⟩) (Nat.le_trans (dep_make hdm) (by omega))
                    refine ⟨_, _, _, rfl, P, fun f hf => List.mem_append_left _ (hsub3 f hf), by rw [List.length_append, List.length_singleton]; omega, ?_⟩
                    rintro m cs m2 c2 hcs rfl hm2 hc2 hck
                    by_cases hj' : m2 < j
                    · obtain ⟨f, hf, ht⟩ := hcov3 _ cs m2 c2 hcs rfl hj' hc2 hck
                      exact ⟨f, List.mem_append_left _ hf, ht⟩
                    · have : m2 = j := by omega
                      subst this
                      refine ⟨_, List.mem_append_right _ List.mem_cons_self, takes_make rfl (takesL_of _ _ (by rw [List.length_set, lnfs, cellsK_len hcs]; exact Nat.le_refl _) fun i f c h1 h2 => ?_)⟩
                      rw [List.getElem?_set] at h1
                      split at h1
                      · rename_i e0
                        subst e0
                        rw [if_pos (by omega)] at h1
                        cases h1
                        rw [hc2] at h2
                        cases h2
                        obtain ⟨m', ps', em', ep', hcs'⟩ := cellK_mk.mp hck
                        have : m2 = m' := by omega
                        subst this
                        rw [epk2] at ep'
                        cases ep'
                        exact takes_make rfl (takesL_of _ _ (by rw [lnfs2, cellsK_len hcs']; exact Nat.le_refl _) fun i f c h1 _ => takes_leaf (hnfs2 f (List.mem_of_getElem? h1)) c)
                      · exact takes_leaf (hnfs f (List.mem_of_getElem? h1)) c
              · rintro σ H7 ⟨fs3, x18, x19, rfl, F7, hsub3, hlen3, hcov3⟩
                have ep7 := F7.but _ _ epH np
                have eli7 := F7.but _ _ eliH nli
                refine ⟨_, rfl, _, rfl, li, _, rfl, .inl (SqL.of eli7), _, _, rfl, rfl, hnx _ _ ⟨fs3, _, _, _, _, _, _, _, _, _, rfl, F7, ep7, hsub3, by omega, fun hw m cs hcs hm => ?_⟩⟩
                have hw' : ms2.length ≤ cut := by
                  have := of_decide_eq_false hw
                  omega
                obtain ⟨c, ec, hc⟩ := cellsK_get hcs e3
                obtain ⟨n, c2⟩ := c
                obtain ⟨m', ps', em', ep', hcs'⟩ := cellK_mk.mp hc
                subst em'
                refine hcov3 m cs m' c2 hcs hm ?_ ec hc
                unfold partsOf at ep'
                rw [ems2] at ep'
                have := (List.getElem?_eq_some_iff.mp ep').1
                omega
          · rintro σ H5 ⟨fs3, wh, x12, x13, x14, x15, x16, x17, x18, x19, rfl, F5, ep5, hsub3, hlen3, hwh⟩
            have cov : ∀ (fs4 : List Form), (∀ f ∈ fs3, f ∈ fs4) → (∀ m cs, CellsK kinds cs ps → m = (mk : Int) → ∃ f ∈ fs4, takes f (.mk m cs) = true) → ∀ m cs, CellK kinds (.mk m cs) k → (∃ j, j < i + 1 ∧ m = (((st + j) % ms.length : Nat) : Int)) → ∃ f ∈ fs4, takes f (.mk m cs) = true := by
              rintro fs4 h4 hc4 m cs hc ⟨j, hj, hm⟩
              by_cases hji : j < i
              · obtain ⟨f, hf, ht⟩ := hcov m cs hc ⟨j, hji, hm⟩
                exact ⟨f, h4 _ (hsub3 _ (hsub _ hf)), ht⟩
              · have : j = i := by omega
                subst this
                rw [hmkd] at hm
                obtain ⟨m', ps', em', ep', hcs'⟩ := cellK_mk.mp hc
                have : mk = m' := by omega
                subst this
                rw [epk] at ep'
                cases ep'
                exact hc4 m cs hcs' hm
            cases wh with
            | false =>
              exact ⟨_, rfl, _, rfl, iteF ⟨fs3, _, _, _, _, _, _, _, _, _, _, _, _, _, rfl, F5, by omega, cov fs3 (fun f hf => hf) (hwh rfl)⟩⟩
            | true =>
              refine ⟨_, rfl, _, rfl, iteT ?_⟩
              obtain ⟨us, eD, hus⟩ := F5.at_
              have lus := F5.len eD
              refine ⟨_, rfl, .inl ⟨rfl, _, SqL.of eD⟩, ?_⟩
              refine ⟨_, rfl, _, rfl, lp, rfl, ⟨_, SqL.of ep5⟩, fun D2 hD2 => lc_any (K := K) (i := 13) (fun y H' Q hd hk => ⟨_, rfl, dk, rfl, hd, hk⟩) (fun y => rfl) ep5 np F5.deck hD2 hpl (fun H6 ws nfs b6 d6 eD2 nd2 hws hl hlen6 => ?_)⟩
              refine ⟨D2, ws, rfl, .inl ⟨SqL.of eD2, fun q2 hq2 => ⟨sl_le (by show 3 ≤ 10000000; decide), fun r hr => ?_⟩⟩⟩
              have s3 := same_new (o := .tup ws) hq2
              have s4 := same_new (o := .tup [.str "make", .int (mk : Int), .ref q2]) hr
              have s34 := s3.trans s4
              have F6 := (F5.to b6 d6).same s34
              have eD6 := s34 _ _ (b6 _ _ eD F5.nd)
              refine ⟨D, us, _, rfl, rfl, eD6, sl_lt (by omega), ?_⟩
              have P := F6.push eD6 (f := .make mk (Forms.of nfs)) (tr_make (SqT.of upd_same) (SqT.of (s4 _ _ upd_same)) (hws.same s34)) (by rw [FormK]; exact ⟨ps, epk, leafs_kind hl hlen6⟩) (Nat.le_trans (dep_make (n := 1) fun f hf => by rw [dep_leaf (hl f hf)]; omega) (by omega))
              refine ⟨_, _, _, _, _, _, _, _, _, _, _, _, _, _, rfl, P, by rw [List.length_append, List.length_singleton]; omega, cov _ (fun f hf => List.mem_append_left _ hf) fun m cs hcs hm => ?_⟩
              exact ⟨_, List.mem_append_right _ List.mem_cons_self, takes_make hm (takesL_of _ _ (by rw [hlen6, cellsK_len hcs]; exact Nat.le_refl _) fun i f c h1 _ => takes_leaf (hl f (List.mem_of_getElem? h1)) c)⟩
    · rintro σ H3 ⟨fs, x7, x8, x9, x10, x11, x12, x13, x14, x15, x16, x17, x18, x19, rfl, F, hlen, hcov⟩
      obtain ⟨us, eD, hus⟩ := F.at_
      have lus := F.len eD
      refine ⟨_, rfl, _, rfl, _, _, rfl, rfl, _, rfl, ite2 (fun z => ?_) (fun z => ?_)⟩
      · refine ⟨_, rfl, .inl ⟨rfl, _, SqL.of eD⟩, _, rfl, dk, rfl, F.deck, fun f v H4 hf b4 d4 hv4 => ?_⟩
        have eD4 := b4 _ _ eD F.nd
        have F4 := F.to b4 d4
        refine ⟨D, us, _, rfl, rfl, eD4, sl_lt (by omega), _, rfl, ?_⟩
        have P := F4.push eD4 hv4 (formK_leaf hf) (by rw [dep_leaf hf]; omega)
        obtain ⟨us', eD', hus'⟩ := P.at_
        exact kk D us' _ _ hHD P.but P.deck eD' ndD hus' P.good (by rw [List.length_append, List.length_singleton]; omega) fun c _ => ⟨f, List.mem_append_right _ List.mem_cons_self, takes_leaf hf c⟩
      · refine ⟨_, rfl, kk D us fs _ hHD F.but F.deck eD ndD hus F.good (by omega) fun c hc => ?_⟩
        have hst : stop = ms.length := by
          have : ¬ ((stop : Nat) : Int) < ((vs2.length : Nat) : Int) := fun h => z (decide_eq_true h)
          omega
        obtain ⟨n, cs⟩ := c
        refine hcov n cs hc ?_
        obtain ⟨m', ps', em', ep', hcs'⟩ := cellK_mk.mp hc
        have hm' : m' < ms.length := by
          unfold partsOf at ep'
          rw [ems] at ep'
          exact (List.getElem?_eq_some_iff.mp ep').1
        subst em'
        by_cases h : st ≤ m'
        · refine ⟨m' - st, by omega, ?_⟩
          rw [show st + (m' - st) = m' by omega, Nat.mod_eq_of_lt hm']
        · refine ⟨m' + ms.length - st, by omega, ?_⟩
          rw [show st + (m' + ms.length - st) = m' + ms.length by omega, Nat.add_mod_right, Nat.mod_eq_of_lt hm']
end
end K87

set_option Elab.async false
set_option linter.all false
set_option maxRecDepth 100000
set_option maxHeartbeats 2000000
/-! Tolds that are drawn: how deep and how wide, of which kind. -/
namespace K87
open PySem PySem.Spec PyProof.Rows L2 Ru Rp Mch
mutual
def Tr.slim : Tr → Prop
  | .i _ => True
  | .s _ => True
  | .t xs => xs.length ≤ 1000 ∧ slims xs
def slims : List Tr → Prop
  | [] => True
  | c :: r => c.slim ∧ slims r
end
theorem slims_mem {c : Tr} : ∀ {l : List Tr}, slims l → c ∈ l → c.slim
  | d :: r, h, hc => by
    rw [slims] at h
    rcases List.mem_cons.mp hc with rfl | hc
    · exact h.1
    · exact slims_mem h.2 hc
theorem slims_of : ∀ {l : List Tr}, (∀ c ∈ l, c.slim) → slims l
  | [], _ => by rw [slims]; trivial
  | d :: r, h => by
    rw [slims]
    exact ⟨h d List.mem_cons_self, slims_of fun c hc => h c (List.mem_cons_of_mem _ hc)⟩
def Tr.fit (n : Nat) (c : Tr) : Prop := c.dep ≤ n ∧ c.slim
theorem fit_s {n : Nat} {z : Str} : Tr.fit n (.s z) := ⟨by rw [Tr.dep]; omega, by rw [Tr.slim]; trivial⟩
theorem fit_i {n : Nat} {z : Int} : Tr.fit n (.i z) := ⟨by rw [Tr.dep]; omega, by rw [Tr.slim]; trivial⟩
theorem Tr.fit.mono {n m : Nat} {c : Tr} (h : Tr.fit n c) (g : n ≤ m) : Tr.fit m c := ⟨Nat.le_trans h.1 g, h.2⟩
theorem fit_t {n : Nat} {xs : List Tr} (hl : xs.length ≤ 1000) (h : ∀ c ∈ xs, Tr.fit n c) : Tr.fit (n + 1) (.t xs) := by
  refine ⟨?_, ?_⟩
  · rw [Tr.dep]
    have := depsT_le fun c hc => (h c hc).1
    omega
  · rw [Tr.slim]
    exact ⟨hl, slims_of fun c hc => (h c hc).2⟩
theorem all1 {α : Type} {p : α → Prop} {a : α} (h : p a) : ∀ c ∈ [a], p c := fun c hc => by rw [List.mem_singleton.mp hc]; exact h
theorem allc {α : Type} {p : α → Prop} {a : α} {l : List α} (h : p a) (g : ∀ c ∈ l, p c) : ∀ c ∈ a :: l, p c := fun c hc => by
  rcases List.mem_cons.mp hc with rfl | hc
  · exact h
  · exact g c hc
theorem fit_pair {n k : Nat} : Tr.fit (n + 1) (pairT k) := by
  refine Tr.fit.mono (n := 1) ?_ (by omega)
  unfold pairT
  have h0 : Tr.fit 1 (.t []) := fit_t (by simp) (fun c hc => by cases hc)
  have h2 : ∀ a b : Str, Tr.fit 1 (.t [.s a, .s b]) := fun a b => fit_t (by simp) (allc fit_s (all1 fit_s))
  match k with
  | 0 => exact h2 _ _
  | 1 => exact h2 _ _
  | 2 => exact h2 _ _
  | 3 => exact h2 _ _
  | _ + 4 => exact h0
section
variable {kinds : Kinds}
mutual
theorem form_slim (h : KindsOk kinds) : ∀ (f : Form) (k : Nat), FormK kinds f k → (formT f).slim
  | .any, k, _ => (fit_t (n := 0) (by simp) (all1 fit_s)).2
  | .bind, k, _ => (fit_t (n := 0) (by simp) (all1 fit_s)).2
  | .make m fs, k, hf => by
    rw [FormK] at hf
    obtain ⟨ps, e, hfs⟩ := hf
    have hl := (h.parts k m ps e).1
    have e1 := forms_slim h fs ps hfs
    have e2 := formsK_len hfs
    rw [formT, Tr.slim, slims, slims, slims, slims, Tr.slim, Tr.slim, Tr.slim]
    refine ⟨by simp, trivial, trivial, ⟨?_, e1⟩, trivial⟩
    rw [formsT_list, List.length_map, e2]
    omega
theorem forms_slim (h : KindsOk kinds) : ∀ (fs : Forms) (ps : List Nat), FormsK kinds fs ps → slims (formsT fs)
  | .nil, ps, _ => by rw [formsT, slims]; trivial
  | .cons f r, ps, hf => by
    rw [FormsK] at hf
    obtain ⟨k, q, rfl, h1, h2⟩ := hf
    rw [formsT, slims]
    exact ⟨form_slim h f k h1, forms_slim h r q h2⟩
end
end
def Tolds.of {N : Type} : List (Told N) → Tolds N
  | [] => .nil
  | f :: r => .cons f (Tolds.of r)
theorem Tolds.of_list {N : Type} : ∀ (l : List (Told N)), (Tolds.of l).list = l
  | [] => rfl
  | f :: r => by rw [Tolds.of, Tolds.list, Tolds.of_list r]
theorem toldsT_of (l : List (Told Nm)) : toldsT (Tolds.of l) = l.map toldT := by rw [toldsT_list, Tolds.of_list]
section
variable {N : Type} {kinds : Kinds} {dkn : N → List Nat → Nat → Prop} {G : List Nat}
theorem toldsK_nil : ToldsK kinds dkn (Tolds.of []) G [] := by rw [Tolds.of, ToldsK]
theorem toldsK_snoc {f : Told N} {k : Nat} : ∀ {fs : List (Told N)} {qs : List Nat}, ToldsK kinds dkn (Tolds.of fs) G qs → ToldK kinds dkn f G k → ToldsK kinds dkn (Tolds.of (fs ++ [f])) G (qs ++ [k])
  | [], qs, h, g => by
    rw [Tolds.of, ToldsK] at h
    subst h
    show ToldsK kinds dkn (Tolds.of [f]) G [k]
    rw [Tolds.of, ToldsK]
    exact ⟨k, [], rfl, g, by rw [Tolds.of, ToldsK]⟩
  | e :: r, qs, h, g => by
    rw [Tolds.of, ToldsK] at h
    obtain ⟨k', q, rfl, h1, h2⟩ := h
    show ToldsK kinds dkn (Tolds.of (e :: (r ++ [f]))) G (k' :: (q ++ [k]))
    rw [Tolds.of, ToldsK]
    exact ⟨k', _, rfl, h1, toldsK_snoc h2 g⟩
theorem toldsK_len : ∀ {fs : List (Told N)} {qs : List Nat}, ToldsK kinds dkn (Tolds.of fs) G qs → fs.length = qs.length
  | [], qs, h => by rw [Tolds.of, ToldsK] at h; subst h; rfl
  | e :: r, qs, h => by
    rw [Tolds.of, ToldsK] at h
    obtain ⟨k', q, rfl, h1, h2⟩ := h
    simp [toldsK_len h2]
theorem cntTs_le {n : Nat} : ∀ {fs : List (Told N)}, (∀ t ∈ fs, cnt t ≤ n) → cntTs (Tolds.of fs) ≤ fs.length * n
  | [], _ => by rw [Tolds.of, cntTs]; simp
  | e :: r, h => by
    rw [Tolds.of, cntTs, List.length_cons, Nat.add_mul, Nat.one_mul]
    have h1 := h e List.mem_cons_self
    have h2 := cntTs_le fun t ht => h t (List.mem_cons_of_mem _ ht)
    omega
end
def Arms.of {N : Type} : List (Form × Told N) → Arms N
  | [] => .nil
  | p :: r => .cons p.1 p.2 (Arms.of r)
theorem Arms.of_list {N : Type} : ∀ (l : List (Form × Told N)), (Arms.of l).list = l
  | [] => rfl
  | f :: r => by rw [Arms.of, Arms.list, Arms.of_list r]
def armT (p : Form × Told Nm) : Tr := .t [formT p.1, toldT p.2]
theorem armsT_of (l : List (Form × Told Nm)) : armsT (Arms.of l) = l.map armT := by rw [armsT_list, Arms.of_list]; rfl
theorem armsK_of {N : Type} {kinds : Kinds} {dkn : N → List Nat → Nat → Prop} {G : List Nat} {kk k : Nat} : ∀ {l : List (Form × Told N)}, (∀ p ∈ l, FormK kinds p.1 kk ∧ ToldK kinds dkn p.2 (G ++ boundK kinds p.1 kk) k) → ArmsK kinds dkn (Arms.of l) G kk k
  | [], _ => by rw [Arms.of, ArmsK]; trivial
  | p :: r, h => by
    rw [Arms.of, ArmsK]
    exact ⟨(h p List.mem_cons_self).1, (h p List.mem_cons_self).2, armsK_of fun q hq => h q (List.mem_cons_of_mem _ hq)⟩
/-- a told that is drawn -/
structure TOk (K : PySem.W.Frag) (H : Hp) (kinds : Kinds) (defs : List Df) (G : List Nat) (k m : Nat) (left : Int) (u : V) (t : Told Nm) : Prop where
  tr : TrAt K H u (toldT t)
  kd : ToldK kinds (dkOf defs) t G k
  fit : Tr.fit (3 * m + 10) (toldT t)
  few : left ≤ 0 → cnt t ≤ 4 ^ (k + 1)
/-- what a drawing of a told asks -/
structure Asks (K : PySem.W.Frag) (H : Hp) (dk : Addr) (v ev : V) (kinds : Kinds) (k : Nat) (G : List Nat) (defs : List Df) (left : Int) (m : Nat) : Prop where
  deck : DeckAt H dk
  kat : KindsAt H dk v kinds
  env : EnvAt K H dk ev G defs
  ok : KindsOk kinds
  dok : DefsOk defs
  k4 : k < 4
  len : G.length + 300 * m ≤ 10000
  meas : 4 * left.toNat + k ≤ m
theorem Asks.to {K : PySem.W.Frag} {H H' : Hp} {dk : Addr} {v ev : V} {kinds : Kinds} {k k' : Nat} {G : List Nat} {defs : List Df} {left left' : Int} {m m' : Nat} (h : Asks K H dk v ev kinds k G defs left m) (b : But1 H H' dk) (d : DeckAt H' dk) (hk : k' < 4) (hm : m' ≤ m) (hl : 4 * left'.toNat + k' ≤ m') : Asks K H' dk v ev kinds k' G defs left' m' :=
  ⟨d, h.kat.to b, h.env.to (h.deck.tex b) b, h.ok, h.dok, hk, by have := h.len; omega, hl⟩
end K87

set_option Elab.async false
set_option linter.all false
set_option maxRecDepth 100000
set_option maxHeartbeats 4000000
namespace K87
open PySem PySem.Spec PyProof.Rows L2 Ru Rp Mch
section
variable {P : Program} {w : World} {K : PySem.W.Frag} {mg : Str → Option Value} {base : Heap}
def spCore (K : PySem.W.Frag) (m : Nat) : Sp := fun vs H Q _ => ∃ (dk : Addr) (v ev : V) (kinds : Kinds) (k : Nat) (G : List Nat) (defs : List Df) (left : Int), vs = [.ref dk, v, .int (k : Int), ev, .int left] ∧ Asks K H dk v ev kinds k G defs left m ∧
  ∀ (u : V) (t : Told Nm) (H' : Hp), But1 H H' dk → DeckAt H' dk → TOk K H' kinds defs G k m left u t → Q u H'
/-- tuple([_law_core(deck, kinds, part, env, left) for part in parts]) -/
theorem lc_told {H1 : Hp} {dk D lp : Addr} {ps : List Nat} {Qd : Hp → Prop} {te : TE} {i m : Nat} {σ : L2.St} {kinds : Kinds} {defs : List Df} {G : List Nat} {left : Int}
    (hte : ∀ (y : Nat) (H : Hp) (Q : VK), y ∈ ps → But1 H1 H dk → DeckAt H dk → (∀ (u : V) (t : Told Nm) (H' : Hp), But1 H H' dk → DeckAt H' dk → TOk K H' kinds defs G y m left u t → Q u H') → te ((wipe σ [i]).set i (some (.int (y : Int)))) H Q)
    (hw : ∀ y, wipe ((wipe σ [i]).set i (some y)) [i] = wipe σ [i]) (hp : H1 lp = some (.lst (natVs ps))) (np : lp ≠ dk) (hd : DeckAt H1 dk) (hD : H1 D = none) (hps : ps.length ≤ 3)
    (k : ∀ (H2 : Hp) (ws : List V) (ts : List (Told Nm)), But1 H1 H2 dk → DeckAt H2 dk → H2 D = some (.lst ws) → TrsAt K H2 ws (ts.map toldT) → ToldsK kinds (dkOf defs) (Tolds.of ts) G ps → (∀ t ∈ ts, Tr.fit (3 * m + 10) (toldT t)) → (left ≤ 0 → ∀ t ∈ ts, ∃ p ∈ ps, cnt t ≤ 4 ^ (p + 1)) → Qd H2) :
    ∃ W : Nat → Nat → Hp → Prop, (∃ m, W 0 m (upd H1 D (.lst []))) ∧ ∀ j m H, W j m H →
      ((Itl K lp).stop j H ∧ Qd H) ∨ ((Itl K lp).go j H ∧ ∃ Nx : Hp → Prop, (∀ H', Nx H' → ∃ m', m' < m ∧ W (j + 1) m' H') ∧ ∀ x H', (Itl K lp).yld j H x H' → gName i x (wipe σ [i]) H' fun σ2 H2 => wipe σ2 [i] = wipe σ [i] ∧ tYes σ2 H2 fun b H3 =>
        if b = true then te σ2 H3 fun y H4 => ∃ acc, H4 D = some (.lst acc) ∧ acc.length < sizeLine ∧ Nx (upd H4 D (.lst (acc ++ [y]))) else Nx H3) := by
  have ndD : D ≠ dk := fun z => (hd.ne_new hD) z.symm
  refine lc_list (K := K) (a := lp) (xs := natVs ps) (fun j H' => ∃ (ws : List V) (ts : List (Told Nm)), But1 H1 H' dk ∧ DeckAt H' dk ∧ H' D = some (.lst ws) ∧ TrsAt K H' ws (ts.map toldT) ∧ ToldsK kinds (dkOf defs) (Tolds.of ts) G (ps.take j) ∧ (∀ t ∈ ts, Tr.fit (3 * m + 10) (toldT t)) ∧ (left ≤ 0 → ∀ t ∈ ts, ∃ p ∈ ps, cnt t ≤ 4 ^ (p + 1)))
    ⟨[], [], But1.of_same (same_new hD), hd.same (same_new hD), upd_same, trs_nil.mpr rfl, by rw [List.take_zero]; exact toldsK_nil, fun f h => (by cases h), fun _ f h => (by cases h)⟩ (fun j H' _ ⟨ws, cs, b, _⟩ => SqL.of (b _ _ hp np)) ?_ ?_
  · rintro j y H3 hy ⟨ws, ts, b3, d3, eD, hws, hts, hft, hct⟩
    have hj : j < ps.length := by
      have := (List.getElem?_eq_some_iff.mp hy).1
      rw [natVs_len] at this
      omega
    rw [natVs_at (List.getElem?_eq_getElem hj)] at hy
    cases hy
    refine ⟨hw _, ?_⟩
    refine hte ps[j] H3 _ (List.getElem_mem hj) b3 d3 fun v t H4 b4 d4 hv => ?_
    have eD4 := b4 _ _ eD ndD
    have lw := trs_len hws
    have lt := toldsK_len hts
    rw [List.length_map] at lw
    rw [List.length_take] at lt
    have tt := d3.tex b4
    have t2 := TEx.upd_lst (ys := ws ++ [v]) eD4
    refine ⟨ws, eD4, sl_lt (by omega), ws ++ [v], ts ++ [t], fun b o e n => ?_, d4.but (fun z => ndD z.symm) (fun b o e n => by rw [upd_ne n]; exact e), upd_same, ?_, ?_, ?_, ?_⟩
    · rw [upd_ne (ne_of_none e hD)]
      exact b4 _ _ (b3 _ _ e n) n
    · rw [List.map_append]
      exact trs_snoc ((hws.to tt).to t2) (hv.tr.to t2)
    · rw [List.take_succ, List.getElem?_eq_getElem hj]
      exact toldsK_snoc hts hv.kd
    · intro t' ht'
      rcases List.mem_append.mp ht' with ht' | ht'
      · exact hft _ ht'
      · rw [List.mem_singleton.mp ht']; exact hv.fit
    · intro hl t' ht'
      rcases List.mem_append.mp ht' with ht' | ht'
      · exact hct hl _ ht'
      · rw [List.mem_singleton.mp ht']; exact ⟨ps[j], List.getElem_mem hj, hv.few hl⟩
  · rintro H3 ⟨ws, ts, b3, d3, eD, hws, hts, hft, hct⟩
    rw [natVs_len, List.take_length] at hts
    exact k H3 ws ts b3 d3 eD hws hts hft hct
abbrev N__law_made : List Str := ["deck", "kinds", "kind", "env", "left", "maker", "parts", "part"]
theorem sc__law_made : FnScope N__law_made ["deck", "kinds", "kind", "env", "left"] (defScope s__law_made) := ⟨rfl, rfl, rfl, by decide +kernel, rfl, by decide +kernel, by decide +kernel⟩
theorem ok_made0 (T : Txt K mg) (m c : Nat) (hc : 1 ≤ c) {sp' : Sp} (G__law_core : FnOk P w K mg base CX0 c T.f__law_core T.fd__law_core ["deck", "kinds", "kind", "env", "left"] sp') (hsp : ∀ g, m = g + 1 → sp' = spCore K g) : FnOk P w K mg base CX0 (c + 1) T.f__law_made T.fd__law_made ["deck", "kinds", "kind", "env", "left"] (spCore K m) := by
  refine T.F__law_made.ok sc__law_made (fun vs H Q E h => ?_) (fun cdv A outer sh H vs Q E hr h => ?_)
  · obtain ⟨dk, v, ev, kinds, k, G, defs, left, rfl, _⟩ := h
    rfl
  · obtain ⟨dk, v, ev, kinds, k, G, defs, left, rfl, hA, kk⟩ := h
    have nd := sc__law_made.nd
    have hr__law_core : Room c _ := hr
    have G__law_take : FnOk P w K mg base CX0 1 T.f__law_take T.fd__law_take ["deck", "many"] spTake := ok_take T
    have hr__law_take : Room 1 _ := hr.mono (by omega)
    have G__law_pair : FnOk P w K mg base CX0 1 T.f__law_pair T.fd__law_pair ["kind"] (spPair K) := ok_pair T
    have hr__law_pair : Room 1 _ := hr.mono (by omega)
    refine ⟨_, (pss_cons (ps_set (i := 5) nd rfl (Or.inl rfl) (pe_call G__law_take hr__law_take rfl T.g__law_take T.k__law_take T.b__law_take .nil pass0 (pa_cons (pv 0) (pa_cons (pe_callB call_len_seq (by rfl) T.z_len (by decide +kernel) (pa_cons (pe_ix ix_list (pv 1) (pv 2) (fun _ _ => rfl)) pa_nil)) pa_nil))))
          (pss_cons (ps_set (i := 6) nd rfl (Or.inl rfl) (pe_ix ix_list (pe_ix ix_list (pv 1) (pv 2) (fun _ _ => rfl)) (pv 5) (fun _ _ => rfl)))
          (pss_one (ps_ret (pe_tup (pa_cons pe_str (pa_cons (pe_call G__law_pair hr__law_pair rfl T.g__law_pair T.k__law_pair T.b__law_pair .nil pass0 (pa_cons (pv 2) pa_nil)) (pa_cons (pv 5) (pa_cons (pe_callTy call_tuple_of (by rfl) T.z_tuple (by decide +kernel) (pa_cons (pe_lc (own := [("part", 7)]) (g := gName 7) (tt := tYes) rfl nd (pi_list (pv 6)) (blkOk_by (own := [("part", 7)]) (N := N__law_made) (sc := defScope s__law_made) (by decide +kernel)) (fun _ _ _ _ _ => pg_name (i := 7) nd rfl (Or.inl rfl)) (fun _ _ _ _ _ => pts_nil) (fun _ _ _ _ _ => (pe_call G__law_core hr__law_core rfl T.g__law_core T.k__law_core T.b__law_core .nil pass0 (pa_cons (pv 0) (pa_cons (pv 1) (pa_cons (pv 7) (pa_cons (pv 3) (pa_cons (pe_op op_sub (pv 4) pe_int) pa_nil)))))))) pa_nil)) pa_nil))))))))), ?_⟩
    obtain ⟨ms, ems, mp, mq⟩ := hA.ok.at hA.k4
    obtain ⟨l, vs, l2, vs2, rfl, ex, el, el2, nl, nl2, lv2⟩ := kinds_path1 hA.kat ems
    refine ⟨_, rfl, _, rfl, _, rfl, l, vs, _, _, rfl, rfl, SqL.of el, atI_nat ex, l2, _, rfl, .inl (SqL.of el2), dk, vs2.length, rfl, by omega, hA.deck, fun mk H1 hmk b1 d1 => ?_⟩
    have hmk' : mk < ms.length := by omega
    obtain ⟨l', vs', l3, vs3, lp, e', ex', ey, elH, el3H, epH, nl', nl3, np, lv3⟩ := kinds_path hA.kat ems (List.getElem?_eq_getElem hmk')
    cases e'
    have epk := parts_of ems (List.getElem?_eq_getElem hmk')
    obtain ⟨hpl, hpk⟩ := hA.ok.parts k mk _ epk
    generalize ms[mk] = ps at *
    refine ⟨_, rfl, _, rfl, l, vs', _, _, rfl, rfl, SqL.of (b1 _ _ elH nl), atI_nat ex', _, rfl, l3, vs3, _, _, rfl, rfl, SqL.of (b1 _ _ el3H nl3), atI_nat ey, ?_⟩
    dsimp only [gName, tRet]
    refine ⟨_, rfl, k, rfl, hA.k4, fun pv H2 s2 hpv => ?_⟩
    have ep2 := s2 _ _ (b1 _ _ epH np)
    have d2 := d1.same s2
    have b2 := b1.same s2
    refine ⟨_, rfl, _, rfl, lp, rfl, ⟨_, SqL.of ep2⟩, fun D hD => lc_told (K := K) (i := 7) (m := m - 1) (left := left - 1) (kinds := kinds) (defs := defs) (G := G) ?_ (fun y => rfl) ep2 np d2 hD hpl ?_⟩
    · rintro y H3 Q3 hy b3 d3 k3
      have hyk := hpk y hy
      obtain ⟨g, rfl⟩ : ∃ g, m = g + 1 := ⟨m - 1, by have := hA.meas; omega⟩
      cases hsp g rfl
      refine ⟨_, rfl, _, rfl, _, rfl, _, rfl, _, rfl, _, _, rfl, rfl, dk, _, _, kinds, y, G, defs, left - 1, rfl, hA.to (b2.trans b3) d3 (by have := hA.k4; omega) (by omega) (by have := hA.meas; omega), k3⟩
    · rintro H3 ws ts b3 d3 eD hws hts hft hct
      refine ⟨D, ws, rfl, .inl ⟨SqL.of eD, fun q hq => ⟨sl_le (by show 4 ≤ 10000000; decide), fun r hr => ?_⟩⟩⟩
      have s3 := same_new (o := .tup ws) hq
      have s4 := same_new (o := .tup [.str "make", pv, .int (mk : Int), .ref q]) hr
      have s34 := s3.trans s4
      have lts := toldsK_len hts
      refine kk (.ref r) (.make k mk (Tolds.of ts)) _ ((b2.trans b3).same s34) (d3.same s34) ⟨?_, ?_, ?_, ?_⟩
      · exact tr_t.mpr ⟨r, _, rfl, SqT.of upd_same, trs_cons.mpr ⟨_, _, rfl, tr_s.mpr rfl, trs_cons.mpr ⟨_, _, rfl, (hpv.to (d2.tex b3)).same s34, trs_cons.mpr ⟨_, _, rfl, tr_i.mpr rfl, trs_one (tr_t.mpr ⟨q, ws, rfl, SqT.of (s4 _ _ upd_same), by rw [toldsT_of]; exact hws.same s34⟩)⟩⟩⟩⟩
      · rw [ToldK]
        exact ⟨rfl, ps, epk, hts⟩
      · have h1 : Tr.fit (3 * (m - 1) + 11) (.t (toldsT (Tolds.of ts))) := by
          rw [toldsT_of]
          refine fit_t (by rw [List.length_map]; omega) fun c hc => ?_
          obtain ⟨t, ht, rfl⟩ := List.mem_map.mp hc
          exact hft t ht
        rw [toldT]
        by_cases hm : m = 0
        · have hk0 : k = 0 := by have := hA.meas; omega
          have hts0 : ts = [] := by
            cases ps with
            | nil => exact List.length_eq_zero_iff.mp lts
            | cons p r => have := hpk p List.mem_cons_self; omega
          subst hts0
          refine Tr.fit.mono (n := 3) (fit_t (by simp) (allc fit_s (allc fit_pair (allc fit_i (all1 (Tr.fit.mono (n := 1) (fit_t (n := 0) (by simp [Tolds.of, toldsT]) (fun c hc => by simp [Tolds.of, toldsT] at hc)) (by omega))))))) (by omega)
        · exact Tr.fit.mono (fit_t (by simp) (allc fit_s (allc fit_pair (allc fit_i (all1 h1))))) (by omega)
      · intro hl
        have h2 : ∀ t ∈ ts, cnt t ≤ 4 ^ k := by
          intro t ht
          obtain ⟨p, hp, hc⟩ := hct (by omega) t ht
          have := hpk p hp
          exact Nat.le_trans hc (Nat.pow_le_pow_right (by omega) (by omega))
        have h3 := cntTs_le h2
        have h4 : ts.length * 4 ^ k ≤ 3 * 4 ^ k := Nat.mul_le_mul_right _ (by omega)
        have h5 : 1 ≤ 4 ^ k := Nat.one_le_pow _ _ (by omega)
        rw [cnt, Nat.pow_succ]
        omega
end
end K87

set_option Elab.async false
set_option linter.all false
set_option maxRecDepth 100000
set_option maxHeartbeats 4000000
namespace K87
open PySem PySem.Spec PyProof.Rows L2 Ru Rp Mch
section
variable {P : Program} {w : World} {K : PySem.W.Frag} {mg : Str → Option Value} {base : Heap}
theorem paired_snoc {α β : Type} {F : α → β → Prop} {a : α} {b : β} : ∀ {l₁ : List α} {l₂ : List β}, Paired F l₁ l₂ → F a b → Paired F (l₁ ++ [a]) (l₂ ++ [b])
  | _, _, .nil, h => .cons h .nil
  | _, _, .cons g r, h => .cons g (paired_snoc r h)
abbrev N__law_call : List Str := ["deck", "kinds", "kind", "env", "left", "fits", "one", "part"]
theorem sc__law_call : FnScope N__law_call ["deck", "kinds", "kind", "env", "left"] (defScope s__law_call) := ⟨rfl, rfl, rfl, by decide +kernel, rfl, by decide +kernel, by decide +kernel⟩
def spCall (K : PySem.W.Frag) (m : Nat) : Sp := fun vs H Q _ => ∃ (dk : Addr) (v ev : V) (kinds : Kinds) (k : Nat) (G : List Nat) (defs : List Df) (left : Int), vs = [.ref dk, v, .int (k : Int), ev, .int left] ∧ 0 < left ∧ Asks K H dk v ev kinds k G defs left m ∧
  ∀ (u : V) (t : Told Nm) (H' : Hp), But1 H H' dk → DeckAt H' dk → TOk K H' kinds defs G k m left u t → Q u H'
theorem ok_call0 (T : Txt K mg) (m c : Nat) (hc : 1 ≤ c) {sp' : Sp} (G__law_core : FnOk P w K mg base CX0 c T.f__law_core T.fd__law_core ["deck", "kinds", "kind", "env", "left"] sp') (hsp : ∀ g, m = g + 1 → sp' = spCore K g) (G__law_made : FnOk P w K mg base CX0 (c + 1) T.f__law_made T.fd__law_made ["deck", "kinds", "kind", "env", "left"] (spCore K m)) : FnOk P w K mg base CX0 (c + 2) T.f__law_call T.fd__law_call ["deck", "kinds", "kind", "env", "left"] (spCall K m) := by
  refine T.F__law_call.ok sc__law_call (fun vs H Q E h => ?_) (fun cdv A outer sh H vs Q E hr h => ?_)
  · obtain ⟨dk, v, ev, kinds, k, G, defs, left, rfl, _⟩ := h
    rfl
  · obtain ⟨dk, v, ev, kinds, k, G, defs, left, rfl, hleft, hA, kk⟩ := h
    have nd := sc__law_call.nd
    have hr__law_core : Room c _ := hr.mono (by omega)
    have hr__law_made : Room (c + 1) _ := hr
    have G__law_take : FnOk P w K mg base CX0 1 T.f__law_take T.fd__law_take ["deck", "many"] spTake := ok_take T
    have hr__law_take : Room 1 _ := hr.mono (by omega)
    refine ⟨_, (pss_cons (ps_setLc (i := 5) (own := [("one", 6)]) (g := gName 6) (tt := _) rfl nd rfl rfl (sw_true rfl rfl rfl (by decide +kernel)) (pi_list (pe_ix ix_tup (pv 3) pe_int (fun _ _ => rfl))) (blkOk_by (own := [("one", 6)]) (N := N__law_call) (sc := defScope s__law_call) (by decide +kernel)) (fun _ _ _ _ _ => pg_name (i := 6) nd rfl (Or.inl rfl)) (fun _ _ _ _ _ => (pts_one (pt_cmpR op_eq (pe_ix (show IxR _ (rIxT K) from ix_tup) (pv 6) pe_int (fun _ _ => rfl)) (pv 2) (nomark _)))) (fun _ _ _ _ _ => (pv 6)))
          (pss_cons (ps_if (pt_cmpR op_eq (pe_callB call_len_seq (by rfl) T.z_len (by decide +kernel) (pa_cons (pv 5) pa_nil)) pe_int (nomark _))
            (pss_one (ps_ret (pe_call G__law_made hr__law_made rfl T.g__law_made T.k__law_made T.b__law_made .nil pass0 (pa_cons (pv 0) (pa_cons (pv 1) (pa_cons (pv 2) (pa_cons (pv 3) (pa_cons (pv 4) pa_nil))))))))
            pss_nil)
          (pss_cons (ps_set (i := 6) nd rfl (Or.inl rfl) (pe_ix ix_list (pv 5) (pe_call G__law_take hr__law_take rfl T.g__law_take T.k__law_take T.b__law_take .nil pass0 (pa_cons (pv 0) (pa_cons (pe_callB call_len_seq (by rfl) T.z_len (by decide +kernel) (pa_cons (pv 5) pa_nil)) pa_nil))) (fun _ _ => rfl)))
          (pss_one (ps_ret (pe_tup (pa_cons pe_str (pa_cons (pe_ix ix_tup (pv 6) pe_int (fun _ _ => rfl)) (pa_cons (pe_ix ix_tup (pv 6) pe_int (fun _ _ => rfl)) (pa_cons (pe_callTy call_tuple_of (by rfl) T.z_tuple (by decide +kernel) (pa_cons (pe_lc (own := [("part", 7)]) (g := gName 7) (tt := tYes) rfl nd (pi_list (pe_ix ix_tup (pv 6) pe_int (fun _ _ => rfl))) (blkOk_by (own := [("part", 7)]) (N := N__law_call) (sc := defScope s__law_call) (by decide +kernel)) (fun _ _ _ _ _ => pg_name (i := 7) nd rfl (Or.inl rfl)) (fun _ _ _ _ _ => pts_nil) (fun _ _ _ _ _ => (pe_call G__law_core hr__law_core rfl T.g__law_core T.k__law_core T.b__law_core .nil pass0 (pa_cons (pv 0) (pa_cons (pv 1) (pa_cons (pv 7) (pa_cons (pv 3) (pa_cons (pe_op op_sub (pv 4) pe_int) pa_nil)))))))) pa_nil)) pa_nil)))))))))), ?_⟩
    obtain ⟨a, gv, dv, rfl, hae, hG, hdv⟩ := hA.env
    obtain ⟨ld, dvs, rfl, eld, nld, pd⟩ := hdv
    have lpd := Paired.length pd
    refine seq_of (fun σ H' => ∃ (D : Addr) (fvs : List V) (fds : List Df) (x6 x7 : Option V), σ = [some (.ref dk), some v, some (.int (k : Int)), some (.ref a), some (.int left), some (.ref D), x6, x7] ∧ Same H H' ∧ H' D = some (.lst fvs) ∧ H D = none ∧ Paired (DfAt K H dk) fvs fds ∧ (∀ d ∈ fds, d ∈ defs ∧ d.kind = k) ∧ fvs.length ≤ 4) (fun nx hnx => ?_) ?_
    · refine ⟨_, rfl, a, _, _, _, rfl, rfl, hae, rfl, ld, rfl, ⟨_, SqL.of eld⟩, fun D hD => lc_list (K := K) (a := ld) (xs := dvs) (fun i H' => ∃ (fvs : List V) (fds : List Df), Same H H' ∧ H' D = some (.lst fvs) ∧ Paired (DfAt K H dk) fvs fds ∧ (∀ d ∈ fds, d ∈ defs ∧ d.kind = k) ∧ fvs.length ≤ i)
        ⟨[], [], same_new hD, upd_same, .nil, fun d h => (by cases h), Nat.le_refl _⟩ (fun i H' _ ⟨_, _, s, _⟩ => SqL.of (s _ _ eld)) ?_ ?_⟩
      · rintro i y H1 hy ⟨fvs, fds, s1, eD, pf, hf, hl⟩
        have hi : i < defs.length := by
          have := (List.getElem?_eq_some_iff.mp hy).1
          omega
        obtain ⟨y', e1, e2⟩ := paired_get pd (List.getElem?_eq_getElem hi)
        rw [hy] at e1
        cases e1
        have hdi : defs[i] ∈ defs := List.getElem_mem hi
        generalize defs[i] = d at *
        obtain ⟨p, lg, rfl, hs, eg, ng⟩ := id e2
        refine ⟨rfl, _, rfl, p, _, _, _, rfl, rfl, sqt_same s1 hs, rfl, _, rfl, rfl, _, rfl, ?_⟩
        by_cases hk : d.kind = k
        · refine isT (by rw [hk]) ⟨_, rfl, fvs, eD, sl_lt (by have := hA.dok.len; omega), fvs ++ [.ref p], fds ++ [d], fun b o e => ?_, upd_same, ?_, ?_, by simp; omega⟩
          · rw [upd_ne (ne_of_none e hD)]
            exact s1 _ _ e
          · exact paired_snoc pf e2
          · intro d' hd'
            rcases List.mem_append.mp hd' with hd' | hd'
            · exact hf _ hd'
            · rw [List.mem_singleton.mp hd']; exact ⟨hdi, hk⟩
        · exact isF (fun z => hk (by injection z with z; omega)) ⟨fvs, fds, s1, eD, pf, hf, by omega⟩
      · rintro H1 ⟨fvs, fds, s1, eD, pf, hf, hl⟩
        exact hnx _ _ ⟨D, fvs, fds, _, _, rfl, s1, eD, hD, pf, hf, by have := hA.dok.len; omega⟩
    · rintro σ H1 ⟨D, fvs, fds, x6, x7, rfl, s1, eD, hHD, pf, hf, hl⟩
      have A1 := hA.to (but1_same s1) (hA.deck.same s1) hA.k4 (Nat.le_refl _) hA.meas
      have lpf := Paired.length pf
      refine ⟨_, rfl, D, _, rfl, .inl (SqL.of eD), rfl, _, rfl, ?_⟩
      by_cases h0 : fvs.length = 0
      · refine isT (by rw [h0]; rfl) ⟨_, rfl, _, rfl, _, rfl, _, rfl, _, rfl, dk, _, _, kinds, k, G, defs, left, rfl, A1, fun u t H2 b2 d2 ht => kk u t H2 ((but1_same s1).trans b2) d2 ht⟩
      · refine isF (fun z => h0 (by injection z with z; omega)) ?_
        have nDdk : D ≠ dk := fun z => (hA.deck.ne_new hHD) z.symm
        refine ⟨_, rfl, _, rfl, _, rfl, D, _, rfl, .inl (SqL.of eD), dk, fvs.length, rfl, by omega, A1.deck, fun r H2 hr2 b2 d2 => ?_⟩
        have eD2 := b2 _ _ eD nDdk
        obtain ⟨y, ey, hy⟩ := paired_get pf (List.getElem?_eq_getElem (show r < fds.length by omega))
        have hdi : fds[r] ∈ fds := List.getElem_mem _
        obtain ⟨hdm, hdk⟩ := hf _ hdi
        generalize fds[r] = d at *
        obtain ⟨p, lg, rfl, hs, eg, ng⟩ := hy
        have b12 := (but1_same (l := dk) s1).trans b2
        have hs2 := (A1.deck.tex b2).sq (sqt_same s1 hs)
        have eg2 := b12 _ _ eg ng
        obtain ⟨hdk4, hgl, hg4⟩ := hA.dok.kinds d hdm
        refine ⟨D, fvs, _, _, rfl, rfl, SqL.of eD2, atI_nat ey, ?_⟩
        dsimp only [gName, tRet]
        refine ⟨_, rfl, p, _, _, _, rfl, rfl, hs2, rfl, _, rfl, p, _, _, _, rfl, rfl, hs2, rfl, _, rfl, p, _, _, _, rfl, rfl, hs2, rfl, lg, rfl, ⟨_, SqL.of eg2⟩, fun D2 hD2 => lc_told (K := K) (i := 7) (m := m - 1) (left := left - 1) (kinds := kinds) (defs := defs) (G := G) ?_ (fun y => rfl) eg2 ng d2 hD2 hgl ?_⟩
        · rintro y H3 Q3 hy b3 d3 k3
          have hyk := hg4 y hy
          obtain ⟨g, rfl⟩ : ∃ g, m = g + 1 := ⟨m - 1, by have := hA.meas; omega⟩
          cases hsp g rfl
          refine ⟨_, rfl, _, rfl, _, rfl, _, rfl, _, rfl, _, _, rfl, rfl, dk, _, _, kinds, y, G, defs, left - 1, rfl, hA.to (b12.trans b3) d3 hyk (by omega) (by have := hA.meas; omega), k3⟩
        · rintro H3 ws ts b3 d3 eD3 hws hts hft hct
          refine ⟨D2, ws, rfl, .inl ⟨SqL.of eD3, fun q hq => ⟨sl_le (by show 4 ≤ 10000000; decide), fun r hr => ?_⟩⟩⟩
          have s3 := same_new (o := .tup ws) hq
          have s4 := same_new (o := .tup [.str "call", .str d.mo, .str d.na, .ref q]) hr
          have s34 := s3.trans s4
          have lts := toldsK_len hts
          refine kk (.ref r) (.call (d.mo, d.na) (Tolds.of ts)) _ ((b12.trans b3).same s34) (d3.same s34) ⟨?_, ?_, ?_, fun hl => by omega⟩
          · exact tr_t.mpr ⟨r, _, rfl, SqT.of upd_same, trs_cons.mpr ⟨_, _, rfl, tr_s.mpr rfl, trs_cons.mpr ⟨_, _, rfl, tr_s.mpr rfl, trs_cons.mpr ⟨_, _, rfl, tr_s.mpr rfl, trs_one (tr_t.mpr ⟨q, ws, rfl, SqT.of (s4 _ _ upd_same), by rw [toldsT_of]; exact hws.same s34⟩)⟩⟩⟩⟩
          · rw [ToldK]
            exact ⟨d.givens, ⟨d, hdm, rfl, rfl, hdk⟩, hts⟩
          · have h1 : Tr.fit (3 * (m - 1) + 11) (.t (toldsT (Tolds.of ts))) := by
              rw [toldsT_of]
              refine fit_t (by rw [List.length_map]; omega) fun c hc => ?_
              obtain ⟨t, ht, rfl⟩ := List.mem_map.mp hc
              exact hft t ht
            rw [toldT]
            exact Tr.fit.mono (fit_t (by simp) (allc fit_s (allc fit_s (allc fit_s (all1 h1))))) (by have := hA.meas; omega)
end
end K87

set_option Elab.async false
set_option linter.all false
set_option maxRecDepth 100000
set_option maxHeartbeats 4000000
namespace K87
open PySem PySem.Spec PyProof.Rows L2 Ru Rp Mch
section
variable {P : Program} {w : World} {K : PySem.W.Frag} {mg : Str → Option Value} {base : Heap}
def PureT (tt : TT) (σ : L2.St) (H : Hp) : Prop := ∀ Q : Bool → Hp → Prop, (∀ b, Q b H) → tt σ H Q
theorem pure_or {a b : TT} {σ : L2.St} {H : Hp} (h : PureT a σ H) (g : PureT b σ H) : PureT (tOr a b) σ H := fun Q q => h _ fun c => by
  cases c with
  | false => exact iteF (g Q q)
  | true => exact iteT (q true)
theorem pure_and {a b : TT} {σ : L2.St} {H : Hp} (h : PureT a σ H) (g : PureT b σ H) : PureT (tAnd a b) σ H := fun Q q => h _ fun c => by
  cases c with
  | false => exact iteF (q false)
  | true => exact iteT (g Q q)
abbrev N__law_core : List Str := ["deck", "kinds", "kind", "env", "left", "way", "fits", "n", "other", "first", "second", "arms", "form", "within"]
theorem sc__law_core : FnScope N__law_core ["deck", "kinds", "kind", "env", "left"] (defScope s__law_core) := ⟨rfl, rfl, rfl, by decide +kernel, rfl, by decide +kernel, by decide +kernel⟩
theorem ok_core0 (T : Txt K mg) (m c : Nat) (hc : 7 ≤ c) {sp' : Sp} (G__law_core : FnOk P w K mg base CX0 c T.f__law_core T.fd__law_core ["deck", "kinds", "kind", "env", "left"] sp') (hsp : ∀ g, m = g + 1 → sp' = spCore K g) : FnOk P w K mg base CX0 (c + 3) T.f__law_core T.fd__law_core ["deck", "kinds", "kind", "env", "left"] (spCore K m) := by
  have G__law_made : FnOk P w K mg base CX0 (c + 1) T.f__law_made T.fd__law_made ["deck", "kinds", "kind", "env", "left"] (spCore K m) := ok_made0 T m c (by omega) G__law_core hsp
  have G__law_call : FnOk P w K mg base CX0 (c + 2) T.f__law_call T.fd__law_call ["deck", "kinds", "kind", "env", "left"] (spCall K m) := ok_call0 T m c (by omega) G__law_core hsp G__law_made
  refine T.F__law_core.ok sc__law_core (fun vs H Q E h => ?_) (fun cdv A outer sh H vs Q E hr h => ?_)
  · obtain ⟨dk, v, ev, kinds, k, G, defs, left, rfl, _⟩ := h
    rfl
  · obtain ⟨dk, v, ev, kinds, k, G, defs, left, rfl, hA, kk⟩ := h
    have nd := sc__law_core.nd
    have hr__law_core : Room c _ := hr.mono (by omega)
    have hr__law_made : Room (c + 1) _ := hr.mono (by omega)
    have hr__law_call : Room (c + 2) _ := hr
    have G__law_take : FnOk P w K mg base CX0 1 T.f__law_take T.fd__law_take ["deck", "many"] spTake := ok_take T
    have hr__law_take : Room 1 _ := hr.mono (by omega)
    have G__law_pair : FnOk P w K mg base CX0 1 T.f__law_pair T.fd__law_pair ["kind"] (spPair K) := ok_pair T
    have hr__law_pair : Room 1 _ := hr.mono (by omega)
    have G__law_forms : FnOk P w K mg base CX0 8 T.f__law_forms T.fd__law_forms ["deck", "kinds", "kind"] (spForms K) := ok_forms T
    have hr__law_forms : Room 8 _ := hr.mono (by omega)
    have G__law_bound : FnOk P w K mg base CX0 9 T.f__law_bound T.fd__law_bound ["kinds", "kind", "form"] (spBound K 7) := ok_bound T 7
    have hr__law_bound : Room 9 _ := hr.mono (by omega)
    refine ⟨_, (pss_cons (ps_set (i := 5) nd rfl (Or.inl rfl) (pe_call G__law_take hr__law_take rfl T.g__law_take T.k__law_take T.b__law_take .nil pass0 (pa_cons (pv 0) (pa_cons pe_int pa_nil))))
          (pss_cons (ps_setLc (i := 6) (own := [("n", 7)]) (g := gName 7) (tt := _) rfl nd rfl rfl (sw_true rfl rfl rfl (by decide +kernel)) (pi_range1 rfl T.z_range (pa_cons (pe_callB call_len_seq (by rfl) T.z_len (by decide +kernel) (pa_cons (pe_ix ix_tup (pv 3) pe_int (fun _ _ => rfl)) pa_nil)) pa_nil)) (blkOk_by (own := [("n", 7)]) (N := N__law_core) (sc := defScope s__law_core) (by decide +kernel)) (fun _ _ _ _ _ => pg_name (i := 7) nd rfl (Or.inl rfl)) (fun _ _ _ _ _ => (pts_one (pt_cmpR op_eq (pe_ix (show IxR _ (rIxL K) from ix_list) (pe_ix (show IxR _ (rIxT K) from ix_tup) (pv 3) pe_int (fun _ _ => rfl)) (pv 7) (fun _ _ => rfl)) (pv 2) (nomark _)))) (fun _ _ _ _ _ => (pv 7)))
          (pss_cons (ps_if (PW.pt (pw_and (pt_cmpR op_gt (pe_callB call_len_seq (by rfl) T.z_len (by decide +kernel) (pa_cons (pv 6) pa_nil)) pe_int (nomark _)) (pw_and1 (PW.pt (pw_or (pt_cmpR op_le (pv 4) pe_int (nomark _)) (pw_or (pt_cmpR op_eq (pv 5) pe_int (nomark _)) (pw_or1 (PW.pt (pw_and (pt_cmpR op_eq (pv 4) pe_int (nomark _)) (pw_and1 (pt_cmpR op_lt (pv 5) pe_int (nomark _))))))))))))
            (pss_one (ps_ret (pe_tup (pa_cons pe_str (pa_cons (pe_ix ix_list (pv 6) (pe_op op_sub (pe_op op_sub (pe_callB call_len_seq (by rfl) T.z_len (by decide +kernel) (pa_cons (pv 6) pa_nil)) pe_int) (pe_call G__law_take hr__law_take rfl T.g__law_take T.k__law_take T.b__law_take .nil pass0 (pa_cons (pv 0) (pa_cons (pe_callB call_len_seq (by rfl) T.z_len (by decide +kernel) (pa_cons (pv 6) pa_nil)) pa_nil)))) (fun _ _ => rfl)) pa_nil)))))
            pss_nil)
          (pss_cons (ps_if (pt_cmpR op_le (pv 4) pe_int (nomark _))
            (pss_one (ps_ret (pe_call G__law_made hr__law_made rfl T.g__law_made T.k__law_made T.b__law_made .nil pass0 (pa_cons (pv 0) (pa_cons (pv 1) (pa_cons (pv 2) (pa_cons (pv 3) (pa_cons (pv 4) pa_nil))))))))
            pss_nil)
          (pss_cons (ps_set (i := 8) nd rfl (Or.inl rfl) (pe_ix ix_list (pe_lst (pa_cons pe_int (pa_cons pe_int (pa_cons pe_int (pa_cons pe_int (pa_cons pe_int (pa_cons pe_int pa_nil))))))) (pe_call G__law_take hr__law_take rfl T.g__law_take T.k__law_take T.b__law_take .nil pass0 (pa_cons (pv 0) (pa_cons pe_int pa_nil))) (fun _ _ => rfl)))
          (pss_cons (ps_if (pt_cmpR op_lt (pv 5) pe_int (nomark _))
            (pss_cons (ps_set (i := 9) nd rfl (Or.inl rfl) (pe_call G__law_core hr__law_core rfl T.g__law_core T.k__law_core T.b__law_core .nil pass0 (pa_cons (pv 0) (pa_cons (pv 1) (pa_cons (pv 8) (pa_cons (pv 3) (pa_cons (pe_op op_sub (pv 4) pe_int) pa_nil)))))))
            (pss_one (ps_ret (pe_tup (pa_cons pe_str (pa_cons (pv 9) (pa_cons (pe_call G__law_core hr__law_core rfl T.g__law_core T.k__law_core T.b__law_core .nil pass0 (pa_cons (pv 0) (pa_cons (pv 1) (pa_cons (pv 2) (pa_cons (pe_tup (pa_cons (pe_op op_cat (pe_ix ix_tup (pv 3) pe_int (fun _ _ => rfl)) (pe_lst (pa_cons (pv 8) pa_nil))) (pa_cons (pe_ix ix_tup (pv 3) pe_int (fun _ _ => rfl)) pa_nil))) (pa_cons (pe_op op_sub (pv 4) pe_int) pa_nil)))))) pa_nil)))))))
            pss_nil)
          (pss_cons (ps_if (pt_cmpR op_eq (pv 5) pe_int (nomark _))
            (pss_cons (ps_set (i := 9) nd rfl (Or.inl rfl) (pe_call G__law_core hr__law_core rfl T.g__law_core T.k__law_core T.b__law_core .nil pass0 (pa_cons (pv 0) (pa_cons (pv 1) (pa_cons pe_int (pa_cons (pv 3) (pa_cons (pe_op op_sub (pv 4) pe_int) pa_nil)))))))
            (pss_cons (ps_set (i := 10) nd rfl (Or.inl rfl) (pe_call G__law_core hr__law_core rfl T.g__law_core T.k__law_core T.b__law_core .nil pass0 (pa_cons (pv 0) (pa_cons (pv 1) (pa_cons (pv 2) (pa_cons (pv 3) (pa_cons (pe_op op_sub (pv 4) pe_int) pa_nil)))))))
            (pss_one (ps_ret (pe_tup (pa_cons pe_str (pa_cons (pv 9) (pa_cons (pv 10) (pa_cons (pe_call G__law_core hr__law_core rfl T.g__law_core T.k__law_core T.b__law_core .nil pass0 (pa_cons (pv 0) (pa_cons (pv 1) (pa_cons (pv 2) (pa_cons (pv 3) (pa_cons (pe_op op_sub (pv 4) pe_int) pa_nil)))))) pa_nil)))))))))
            pss_nil)
          (pss_cons (ps_if (PW.pt (pw_and (pt_cmpR op_eq (pv 2) pe_int (nomark _)) (pw_and1 (PW.pt (pw_or (pt_cmpR op_eq (pv 5) pe_int (nomark _)) (pw_or1 (pt_cmpR op_gt (pv 5) pe_int (nomark _))))))))
            (pss_cons (ps_set (i := 9) nd rfl (Or.inl rfl) (pe_call G__law_core hr__law_core rfl T.g__law_core T.k__law_core T.b__law_core .nil pass0 (pa_cons (pv 0) (pa_cons (pv 1) (pa_cons (pv 8) (pa_cons (pv 3) (pa_cons (pe_op op_sub (pv 4) pe_int) pa_nil)))))))
            (pss_one (ps_ret (pe_tup (pa_cons pe_str (pa_cons (pe_call G__law_pair hr__law_pair rfl T.g__law_pair T.k__law_pair T.b__law_pair .nil pass0 (pa_cons (pv 8) pa_nil)) (pa_cons (pv 9) (pa_cons (pe_call G__law_core hr__law_core rfl T.g__law_core T.k__law_core T.b__law_core .nil pass0 (pa_cons (pv 0) (pa_cons (pv 1) (pa_cons (pv 8) (pa_cons (pv 3) (pa_cons (pe_op op_sub (pv 4) pe_int) pa_nil)))))) pa_nil))))))))
            pss_nil)
          (pss_cons (ps_if (pt_cmpR op_lt (pv 5) pe_int (nomark _))
            (pss_cons (ps_set (i := 9) nd rfl (Or.inl rfl) (pe_call G__law_core hr__law_core rfl T.g__law_core T.k__law_core T.b__law_core .nil pass0 (pa_cons (pv 0) (pa_cons (pv 1) (pa_cons (pv 8) (pa_cons (pv 3) (pa_cons (pe_op op_sub (pv 4) pe_int) pa_nil)))))))
            (pss_cons (ps_set (i := 11) nd rfl (Or.inl rfl) (pe_lst pa_nil))
            (pss_cons (ps_for PassesOwn.never rfl (pi_list (pe_call G__law_forms hr__law_forms rfl T.g__law_forms T.k__law_forms T.b__law_forms .nil pass0 (pa_cons (pv 0) (pa_cons (pv 1) (pa_cons (pv 8) pa_nil))))) (pg_name (i := 12) nd rfl (Or.inl rfl))
              (pss_cons (ps_set (i := 13) nd rfl (Or.inl rfl) (pe_tup (pa_cons (pe_op op_cat (pe_ix ix_tup (pv 3) pe_int (fun _ _ => rfl)) (pe_call G__law_bound hr__law_bound rfl T.g__law_bound T.k__law_bound T.b__law_bound .nil pass0 (pa_cons (pv 1) (pa_cons (pv 8) (pa_cons (pv 12) pa_nil))))) (pa_cons (pe_ix ix_tup (pv 3) pe_int (fun _ _ => rfl)) pa_nil))))
              (pss_one (ps_expr (pe_bm PySem.F.plainAttrs_list PySem.F.slot_list_append PySem.F.type_list_append mt_append (pv 11) (pa_cons (pe_tup (pa_cons (pv 12) (pa_cons (pe_call G__law_core hr__law_core rfl T.g__law_core T.k__law_core T.b__law_core .nil pass0 (pa_cons (pv 0) (pa_cons (pv 1) (pa_cons (pv 2) (pa_cons (pv 13) (pa_cons (pe_op op_sub (pe_op op_sub (pv 4) pe_int) (pe_op op_mod (pe_callB call_len_seq (by rfl) T.z_len (by decide +kernel) (pa_cons (pv 11) pa_nil)) pe_int)) pa_nil)))))) pa_nil))) pa_nil))))))
            (pss_one (ps_ret (pe_tup (pa_cons pe_str (pa_cons (pe_call G__law_pair hr__law_pair rfl T.g__law_pair T.k__law_pair T.b__law_pair .nil pass0 (pa_cons (pv 8) pa_nil)) (pa_cons (pv 9) (pa_cons (pe_callTy call_tuple_of (by rfl) T.z_tuple (by decide +kernel) (pa_cons (pv 11) pa_nil)) pa_nil))))))))))
            pss_nil)
          (pss_cons (ps_if (pt_cmpR op_lt (pv 5) pe_int (nomark _))
            (pss_one (ps_ret (pe_call G__law_call hr__law_call rfl T.g__law_call T.k__law_call T.b__law_call .nil pass0 (pa_cons (pv 0) (pa_cons (pv 1) (pa_cons (pv 2) (pa_cons (pv 3) (pa_cons (pv 4) pa_nil))))))))
            pss_nil)
          (pss_one (ps_ret (pe_call G__law_made hr__law_made rfl T.g__law_made T.k__law_made T.b__law_made .nil pass0 (pa_cons (pv 0) (pa_cons (pv 1) (pa_cons (pv 2) (pa_cons (pv 3) (pa_cons (pv 4) pa_nil)))))))))))))))))), ?_⟩
    have hrec : 0 < left → ∀ (k' : Nat) (ev' : V) (G' : List Nat) (left' : Int) (H' : Hp) (Q' : VK) (E' : XK), k' < 4 → left' ≤ left - 1 → G'.length ≤ G.length + 256 → EnvAt K H' dk ev' G' defs → But1 H H' dk → DeckAt H' dk →
        (∀ (u : V) (t : Told Nm) (H'' : Hp), But1 H' H'' dk → DeckAt H'' dk → TOk K H'' kinds defs G' k' (m - 1) left' u t → Q' u H'') → sp' [.ref dk, v, .int (k' : Int), ev', .int left'] H' Q' E' := by
      intro hl k' ev' G' left' H' Q' E' hk' hl' hG' he' b' d' kk'
      have hme := hA.meas
      have hle := hA.len
      obtain ⟨g, rfl⟩ : ∃ g, m = g + 1 := ⟨m - 1, by omega⟩
      cases hsp g rfl
      exact ⟨dk, v, ev', kinds, k', G', defs, left', rfl, ⟨d', hA.kat.to b', he', hA.ok, hA.dok, hk', by omega, by omega⟩, kk'⟩
    obtain ⟨a, gv, dv, rfl, hae, hG, hdv⟩ := id hA.env
    obtain ⟨lg, rfl, elg, nlg⟩ := id hG
    refine seq_of (fun σ H' => ∃ (way : Nat), way < 14 ∧ σ = [some (.ref dk), some v, some (.int (k : Int)), some (.ref a), some (.int left), some (.int (way : Int)), none, none, none, none, none, none, none, none] ∧ But1 H H' dk ∧ DeckAt H' dk) (fun nx hnx => ⟨_, rfl, dk, 14, rfl, by decide, hA.deck, fun r H1 hr1 b1 d1 => hnx _ _ ⟨r, hr1, rfl, b1, d1⟩⟩) ?_
    rintro σ H1 ⟨way, hway, rfl, b1, d1⟩
    refine seq_of (fun σ H' => ∃ (D : Addr) (ns : List Nat) (x7 : Option V), σ = [some (.ref dk), some v, some (.int (k : Int)), some (.ref a), some (.int left), some (.int (way : Int)), some (.ref D), x7, none, none, none, none, none, none] ∧ But1 H H' dk ∧ DeckAt H' dk ∧ H' D = some (.lst (natVs ns)) ∧ D ≠ dk ∧ (∀ n ∈ ns, G[n]? = some k)) (fun nx hnx => ?_) ?_
    · have elg1 := b1 _ _ elg nlg
      have t1 := hA.deck.tex b1
      refine ⟨_, rfl, a, _, _, _, rfl, rfl, t1.sq hae, rfl, lg, _, rfl, .inl (SqL.of elg1), _, rfl, by rw [natVs_len]; have := hA.len; omega, by rw [natVs_len]; have := hA.len; omega, fun D hD => lc_range (lo := 0) (n := (natVs G).length) (fun j H' => ∃ (ns : List Nat), Same H1 H' ∧ H' D = some (.lst (natVs ns)) ∧ ns.length ≤ j ∧ (∀ n ∈ ns, G[n]? = some k)) ⟨[], same_new hD, upd_same, Nat.le_refl _, fun n h => (by cases h)⟩ ?_ ?_⟩
      · rintro j H2 hj ⟨ns, s2, eD, ln, hns⟩
        rw [natVs_len] at hj
        have ejj : (0 : Int) + (j : Int) = ((j : Nat) : Int) := by omega
        rw [ejj]
        have ej := List.getElem?_eq_getElem hj
        refine ⟨rfl, _, rfl, a, _, _, _, rfl, rfl, sqt_same s2 (t1.sq hae), rfl, _, rfl, lg, _, _, _, rfl, rfl, SqL.of (s2 _ _ elg1), atI_nat (natVs_at ej), _, rfl, rfl, _, rfl, ?_⟩
        by_cases hk : G[j] = k
        · refine isT (by rw [hk]) ⟨_, rfl, natVs ns, eD, sl_lt (by rw [natVs_len]; have := hA.len; omega), ns ++ [j], fun b o e => ?_, by rw [upd_same, natVs_snoc], by simp; omega, ?_⟩
          · rw [upd_ne (ne_of_none e hD)]
            exact s2 _ _ e
          · intro n hn
            rcases List.mem_append.mp hn with hn | hn
            · exact hns _ hn
            · rw [List.mem_singleton.mp hn, ej, hk]
        · exact isF (fun z => hk (by injection z with z; omega)) ⟨ns, s2, eD, by omega, hns⟩
      · rintro H2 ⟨ns, s2, eD, ln, hns⟩
        exact hnx _ _ ⟨D, ns, _, rfl, b1.same s2, d1.same s2, eD, fun z => (d1.ne_new hD) z.symm, hns⟩
    rintro σ H2 ⟨D, ns, x7, rfl, b2, d2, eD, nDdk, hns⟩
    refine seq_of (fun σ H' => σ = [some (.ref dk), some v, some (.int (k : Int)), some (.ref a), some (.int left), some (.int (way : Int)), some (.ref D), x7, none, none, none, none, none, none] ∧ H' = H2) (fun nx hnx => ?_) ?_
    · refine ⟨_, rfl, D, _, rfl, .inl (SqL.of eD), _, _, rfl, rfl, _, rfl, ite2 (fun z => ?_) (fun z => iteF (hnx _ _ ⟨rfl, rfl⟩))⟩
      have hn0 : 0 < ns.length := by
        have := of_decide_eq_true z
        rw [natVs_len] at this
        omega
      refine pure_or (fun Q q => ⟨_, rfl, _, _, rfl, rfl, _, rfl, q _⟩) (pure_or (fun Q q => ⟨_, rfl, rfl, _, rfl, q _⟩) (pure_and (fun Q q => ⟨_, rfl, rfl, _, rfl, q _⟩) (fun Q q => ⟨_, rfl, _, _, rfl, rfl, _, rfl, q _⟩))) _ (fun b => ?_)
      cases b with
      | false => exact iteF (hnx _ _ ⟨rfl, rfl⟩)
      | true =>
        refine iteT ?_
        refine ⟨_, rfl, _, rfl, D, _, rfl, .inl (SqL.of eD), _, _, rfl, rfl, _, rfl, _, rfl, D, _, rfl, .inl (SqL.of eD), dk, (natVs ns).length, rfl, by rw [natVs_len]; exact hn0, d2, fun r H3 hr3 b3 d3 => ?_⟩
        rw [natVs_len] at hr3
        have eD3 := b3 _ _ eD nDdk
        have hix : ns.length - 1 - r < ns.length := by omega
        have ei := List.getElem?_eq_getElem hix
        have hgn := hns _ (List.getElem_mem hix)
        generalize ns[ns.length - 1 - r] = n at *
        have ev := natVs_at ei
        have ez : ((natVs ns).length : Int) - 1 - (r : Int) = ((ns.length - 1 - r : Nat) : Int) := by rw [natVs_len]; omega
        refine ⟨_, _, rfl, rfl, D, _, _, V.int (n : Int), rfl, rfl, SqL.of eD3, by rw [ez]; exact atI_nat ev, sl_le (by show 2 ≤ 10000000; decide), fun p hp => ?_⟩
        have s4 := same_new (o := .tup [.str "local", .int (n : Int)]) hp
        refine kk (.ref p) (.loc n) _ ((b2.trans b3).same s4) (d3.same s4) ⟨?_, ?_, ?_, fun _ => ?_⟩
        · exact tr_t.mpr ⟨p, _, rfl, SqT.of upd_same, trs_cons.mpr ⟨_, _, rfl, tr_s.mpr rfl, trs_one (tr_i.mpr rfl)⟩⟩
        · rw [ToldK]
          exact hgn
        · rw [toldT]
          exact Tr.fit.mono (n := 1) (fit_t (by simp) (allc fit_s (all1 fit_i))) (by omega)
        · rw [cnt]
          exact Nat.one_le_pow _ _ (by omega)
    rintro σ H' ⟨rfl, rfl⟩
    refine ⟨_, rfl, _, _, rfl, rfl, _, rfl, ite2 (fun z => ?_) (fun z => ?_)⟩
    · exact ⟨_, rfl, _, rfl, _, rfl, _, rfl, _, rfl, dk, _, _, kinds, k, G, defs, left, rfl, hA.to b2 d2 hA.k4 (Nat.le_refl _) hA.meas, fun u t H3 b3 d3 ht => kk u t H3 (b2.trans b3) d3 ht⟩
    have hleft : 0 < left := by
      have : ¬ left ≤ 0 := fun h => z (decide_eq_true h)
      omega
    dsimp only [tNext]
    refine seq_of (fun σ H' => ∃ (o : Nat), o < 4 ∧ σ = [some (.ref dk), some v, some (.int (k : Int)), some (.ref a), some (.int left), some (.int (way : Int)), some (.ref D), x7, some (.int (o : Int)), none, none, none, none, none] ∧ But1 H H' dk ∧ DeckAt H' dk) (fun nx hnx => ?_) ?_
    · refine ⟨sl_le (by show 6 ≤ 10000000; decide), fun L hL => ?_⟩
      have sL := same_new (o := .lst [.int 2, .int 3, .int 2, .int 3, .int 1, .int 0]) hL
      have nL : L ≠ dk := fun z => (d2.ne_new hL) z.symm
      refine ⟨_, rfl, dk, 6, rfl, by decide, d2.same sL, fun r H3 hr3 b3 d3 => ?_⟩
      have eL := b3 _ _ upd_same nL
      obtain ⟨o, ho, eo⟩ : ∃ o : Nat, o < 4 ∧ ([.int 2, .int 3, .int 2, .int 3, .int 1, .int 0] : List V)[r]? = some (.int (o : Int)) := by
        match r, hr3 with
        | 0, _ => exact ⟨2, by decide, rfl⟩
        | 1, _ => exact ⟨3, by decide, rfl⟩
        | 2, _ => exact ⟨2, by decide, rfl⟩
        | 3, _ => exact ⟨3, by decide, rfl⟩
        | 4, _ => exact ⟨1, by decide, rfl⟩
        | 5, _ => exact ⟨0, by decide, rfl⟩
      exact ⟨L, _, _, _, rfl, rfl, SqL.of eL, atI_nat eo, hnx _ _ ⟨o, ho, rfl, (b2.same sL).trans b3, d3⟩⟩
    rintro σ H3 ⟨o, ho, rfl, b3, d3⟩
    have fmake : Asks K H3 dk v (.ref a) kinds k G defs left m := hA.to b3 d3 hA.k4 (Nat.le_refl _) hA.meas
    -- let
    refine seq_of (fun σ H' => σ = [some (.ref dk), some v, some (.int (k : Int)), some (.ref a), some (.int left), some (.int (way : Int)), some (.ref D), x7, some (.int (o : Int)), none, none, none, none, none] ∧ H3 = H') (fun nx hnx => ?_) ?_
    · refine ⟨_, rfl, _, _, rfl, rfl, _, rfl, ite2 (fun z => ?_) (fun z => hnx _ _ ⟨rfl, rfl⟩)⟩
      refine ⟨_, rfl, _, rfl, _, rfl, _, rfl, _, rfl, _, _, rfl, rfl, hrec hleft o _ G (left - 1) H3 _ _ ho (Int.le_refl _) (by omega) fmake.env b3 d3 fun u t H4 b4 d4 ht => ?_⟩
      have t4 := d3.tex b4
      refine ⟨_, rfl, _, rfl, _, rfl, _, rfl, _, rfl, a, _, _, _, rfl, rfl, t4.sq ((hA.deck.tex b3).sq hae), rfl, _, rfl, ?_⟩
      refine ⟨sl_le (by show 1 ≤ 10000000; decide), fun p hp => ?_⟩
      have s5 := same_new (o := .lst [.int (o : Int)]) hp
      have b34 := b3.trans b4
      have t34 := hA.deck.tex b34
      have elg5 := s5 _ _ (b34 _ _ elg nlg)
      refine ⟨lg, p, _, _, rfl, rfl, elg5, upd_same, sl_le (by rw [natVs_len]; have := hA.len; show G.length + 1 ≤ 10000000; omega), fun L hL => ?_⟩
      have s6 := same_new (o := .lst (natVs G ++ [.int (o : Int)])) hL
      have s56 := s5.trans s6
      have hae6 := sqt_same s56 (t34.sq hae)
      refine ⟨_, rfl, a, _, _, _, rfl, rfl, hae6, rfl, sl_le (by show 2 ≤ 10000000; decide), fun q hq => ?_⟩
      have s7 := same_new (o := .tup [.ref L, dv]) hq
      have s57 := s56.trans s7
      have nL : L ≠ dk := fun z => ((d4.same s5).ne_new hL) z.symm
      have b7 := b34.same s57
      have d7 := d4.same s57
      have henv : EnvAt K _ dk (.ref q) (G ++ [o]) defs := ⟨q, .ref L, dv, rfl, SqT.of upd_same, ⟨L, rfl, (s7 _ _ upd_same).trans (by rw [natVs_snoc]), nL⟩, hdv.to (hA.deck.tex b7) b7⟩
      refine ⟨_, rfl, _, _, rfl, rfl, hrec hleft k _ (G ++ [o]) (left - 1) _ _ _ hA.k4 (Int.le_refl _) (by rw [List.length_append]; show G.length + 1 ≤ _; omega) henv b7 d7 fun u2 t2 H8 b8 d8 ht2 => ?_⟩
      refine ⟨sl_le (by show 3 ≤ 10000000; decide), fun r hr => ?_⟩
      have s9 := same_new (o := .tup [.str "let", u, u2]) hr
      refine kk (.ref r) (.letT t t2) _ ((b7.trans b8).same s9) (d8.same s9) ⟨?_, ?_, ?_, fun z => by omega⟩
      · exact tr_t.mpr ⟨r, _, rfl, SqT.of upd_same, trs_cons.mpr ⟨_, _, rfl, tr_s.mpr rfl, trs_cons.mpr ⟨_, _, rfl, ((ht.tr.same s57).to (d7.tex b8)).same s9, trs_one (ht2.tr.same s9)⟩⟩⟩
      · rw [ToldK]
        exact ⟨o, ht.kd, ht2.kd⟩
      · rw [toldT]
        exact Tr.fit.mono (fit_t (by simp) (allc fit_s (allc ht.fit (all1 ht2.fit)))) (by have := hA.meas; omega)
    rintro σ H' ⟨rfl, rfl⟩
    -- if
    refine seq_of (fun σ H' => σ = [some (.ref dk), some v, some (.int (k : Int)), some (.ref a), some (.int left), some (.int (way : Int)), some (.ref D), x7, some (.int (o : Int)), none, none, none, none, none] ∧ H3 = H') (fun nx hnx => ?_) ?_
    · refine ⟨_, rfl, rfl, _, rfl, ite2 (fun z => ?_) (fun z => hnx _ _ ⟨rfl, rfl⟩)⟩
      refine ⟨_, rfl, _, rfl, _, rfl, _, rfl, _, _, rfl, rfl, hrec hleft 0 _ G (left - 1) H3 _ _ (by omega) (Int.le_refl _) (by omega) fmake.env b3 d3 fun u t H4 b4 d4 ht => ?_⟩
      have A4 := fmake.to b4 d4 hA.k4 (Nat.le_refl _) hA.meas
      refine ⟨_, rfl, _, rfl, _, rfl, _, rfl, _, rfl, _, _, rfl, rfl, hrec hleft k _ G (left - 1) H4 _ _ hA.k4 (Int.le_refl _) (by omega) A4.env (b3.trans b4) d4 fun u2 t2 H5 b5 d5 ht2 => ?_⟩
      have A5 := A4.to b5 d5 hA.k4 (Nat.le_refl _) hA.meas
      refine ⟨_, rfl, _, rfl, _, rfl, _, rfl, _, rfl, _, rfl, _, rfl, _, _, rfl, rfl, hrec hleft k _ G (left - 1) H5 _ _ hA.k4 (Int.le_refl _) (by omega) A5.env ((b3.trans b4).trans b5) d5 fun u3 t3 H6 b6 d6 ht3 => ?_⟩
      refine ⟨sl_le (by show 4 ≤ 10000000; decide), fun r hr => ?_⟩
      have s9 := same_new (o := .tup [.str "if", u, u2, u3]) hr
      refine kk (.ref r) (.ifT t t2 t3) _ ((((b3.trans b4).trans b5).trans b6).same s9) (d6.same s9) ⟨?_, ?_, ?_, fun z => by omega⟩
      · exact tr_t.mpr ⟨r, _, rfl, SqT.of upd_same, trs_cons.mpr ⟨_, _, rfl, tr_s.mpr rfl, trs_cons.mpr ⟨_, _, rfl, ((ht.tr.to (d4.tex b5)).to (d5.tex b6)).same s9, trs_cons.mpr ⟨_, _, rfl, (ht2.tr.to (d5.tex b6)).same s9, trs_one (ht3.tr.same s9)⟩⟩⟩⟩
      · rw [ToldK]
        exact ⟨ht.kd, ht2.kd, ht3.kd⟩
      · rw [toldT]
        exact Tr.fit.mono (fit_t (by simp) (allc fit_s (allc ht.fit (allc ht2.fit (all1 ht3.fit))))) (by have := hA.meas; omega)
    rintro σ H' ⟨rfl, rfl⟩
    -- same
    refine seq_of (fun σ H' => σ = [some (.ref dk), some v, some (.int (k : Int)), some (.ref a), some (.int left), some (.int (way : Int)), some (.ref D), x7, some (.int (o : Int)), none, none, none, none, none] ∧ H3 = H') (fun nx hnx => ?_) ?_
    · refine ⟨_, rfl, rfl, _, rfl, ?_⟩
      by_cases hk0 : k = 0
      · subst hk0
        refine isT rfl (pure_or (fun Q q => ⟨_, rfl, rfl, _, rfl, q _⟩) (fun Q q => ⟨_, rfl, _, _, rfl, rfl, _, rfl, q _⟩) _ (fun b => ?_))
        cases b with
        | false => exact iteF (hnx _ _ ⟨rfl, rfl⟩)
        | true =>
          refine iteT ?_
          refine ⟨_, rfl, _, rfl, _, rfl, _, rfl, _, rfl, _, _, rfl, rfl, hrec hleft o _ G (left - 1) H3 _ _ ho (Int.le_refl _) (by omega) fmake.env b3 d3 fun u t H4 b4 d4 ht => ?_⟩
          have A4 := fmake.to b4 d4 hA.k4 (Nat.le_refl _) hA.meas
          refine ⟨_, rfl, o, rfl, ho, fun pv H5 s5 hpv => ?_⟩
          have A5 := A4.to (but1_same s5) (d4.same s5) hA.k4 (Nat.le_refl _) hA.meas
          have b35 := (b3.trans b4).same s5
          refine ⟨_, rfl, _, rfl, _, rfl, _, rfl, _, rfl, _, rfl, _, _, rfl, rfl, hrec hleft o _ G (left - 1) H5 _ _ ho (Int.le_refl _) (by omega) A5.env b35 (d4.same s5) fun u2 t2 H6 b6 d6 ht2 => ?_⟩
          refine ⟨sl_le (by show 4 ≤ 10000000; decide), fun r hr => ?_⟩
          have s9 := same_new (o := .tup [.str "same", pv, u, u2]) hr
          have t56 := (d4.same s5).tex b6
          refine kk (.ref r) (.same o t t2) _ ((b35.trans b6).same s9) (d6.same s9) ⟨?_, ?_, ?_, fun z => by omega⟩
          · exact tr_t.mpr ⟨r, _, rfl, SqT.of upd_same, trs_cons.mpr ⟨_, _, rfl, tr_s.mpr rfl, trs_cons.mpr ⟨_, _, rfl, (hpv.to t56).same s9, trs_cons.mpr ⟨_, _, rfl, ((ht.tr.same s5).to t56).same s9, trs_one (ht2.tr.same s9)⟩⟩⟩⟩
          · rw [ToldK]
            exact ⟨rfl, ht.kd, ht2.kd⟩
          · rw [toldT]
            exact Tr.fit.mono (fit_t (by simp) (allc fit_s (allc fit_pair (allc ht.fit (all1 ht2.fit))))) (by have := hA.meas; omega)
      · exact isF (fun z => hk0 (by injection z with z; omega)) (iteF (hnx _ _ ⟨rfl, rfl⟩))
    rintro σ H' ⟨rfl, rfl⟩
    -- case
    refine seq_of (fun σ H' => σ = [some (.ref dk), some v, some (.int (k : Int)), some (.ref a), some (.int left), some (.int (way : Int)), some (.ref D), x7, some (.int (o : Int)), none, none, none, none, none] ∧ H3 = H') (fun nx hnx => ?_) ?_
    · refine ⟨_, rfl, _, _, rfl, rfl, _, rfl, ite2 (fun z => ?_) (fun z => hnx _ _ ⟨rfl, rfl⟩)⟩
      refine ⟨_, rfl, _, rfl, _, rfl, _, rfl, _, rfl, _, _, rfl, rfl, hrec hleft o _ G (left - 2) H3 _ _ ho (by omega) (by omega) fmake.env b3 d3 fun u t H4 b4 d4 ht => ?_⟩
      dsimp only [gName]
      refine ⟨sl_le (by show 0 ≤ 10000000; decide), fun Da hDa => ?_⟩
      have nDa : Da ≠ dk := fun z => (d4.ne_new hDa) z.symm
      have s5 := same_new (o := .lst []) hDa
      have b35 := (b3.trans b4).same s5
      have A4 := fmake.to b4 d4 ho (Nat.le_refl _) (by have := hA.meas; omega : 4 * (0 : Int).toNat + o ≤ m)
      dsimp only [gName]
      refine seq_of (fun σ H' => ∃ (avs : List V) (arms : List (Form × Told Nm)) (fs : List Form) (x12 x13 : Option V), σ = [some (.ref dk), some v, some (.int (k : Int)), some (.ref a), some (.int left), some (.int (way : Int)), some (.ref D), x7, some (.int (o : Int)), some u, none, some (.ref Da), x12, x13] ∧ But1 H4 H' dk ∧ DeckAt H' dk ∧ H' Da = some (.lst avs) ∧ TrsAt K H' avs (arms.map armT) ∧ arms.map Prod.fst = fs ∧ fs.length ≤ 30 ∧ (∀ p ∈ arms, Tr.fit (3 * (m - 1) + 11) (armT p) ∧ FormK kinds p.1 o ∧ ToldK kinds (dkOf defs) p.2 (G ++ boundK kinds p.1 o) k) ∧ ∀ c, CellK kinds c o → ∃ f ∈ fs, takes f c = true) (fun nx hnx => ?_) ?_
      · refine ⟨_, rfl, _, rfl, _, rfl, dk, _, kinds, o, rfl, d4.same s5, hA.kat.to b35, hA.ok, ho, fun l us fs H6 hl b6 d6 el6 nl hus hgood hlen hcov => ?_⟩
        have eDa6 := b6 _ _ upd_same nDa
        have nlDa : l ≠ Da := fun z => by rw [z, upd_same] at hl; cases hl
        have lus := trs_len hus
        rw [List.length_map] at lus
        refine ⟨l, rfl, ⟨_, SqL.of el6⟩, for_list (K := K) (a := l) (xs := us) (fun i σ H' => ∃ (avs : List V) (arms : List (Form × Told Nm)) (x12 x13 : Option V), σ = [some (.ref dk), some v, some (.int (k : Int)), some (.ref a), some (.int left), some (.int (way : Int)), some (.ref D), x7, some (.int (o : Int)), some u, none, some (.ref Da), x12, x13] ∧ But1 H4 H' dk ∧ DeckAt H' dk ∧ H' l = some (.lst us) ∧ TEx H6 H' ∧ H' Da = some (.lst avs) ∧ TrsAt K H' avs (arms.map armT) ∧ arms.map Prod.fst = fs.take i ∧ (∀ p ∈ arms, Tr.fit (3 * (m - 1) + 11) (armT p) ∧ FormK kinds p.1 o ∧ ToldK kinds (dkOf defs) p.2 (G ++ boundK kinds p.1 o) k)) ⟨[], [], none, none, rfl, (But1.of_same s5).trans b6, d6, el6, TEx.refl _, eDa6, trs_nil.mpr rfl, rfl, fun p h => (by cases h)⟩ (fun i σ H' _ ⟨_, _, _, _, _, _, _, e, _⟩ => SqL.of e) ?_ ?_⟩
        · rintro i y σ H7 hy ⟨avs, arms, x12, x13, rfl, b7, d7, el7, t7, eDa7, havs, hfst, harms⟩
          have hi : i < fs.length := by
            have := (List.getElem?_eq_some_iff.mp hy).1
            omega
          have ef := List.getElem?_eq_getElem hi
          obtain ⟨y', ey', hy'⟩ := trs_at hus (by rw [List.getElem?_map, ef]; rfl : (fs.map formT)[i]? = some (formT fs[i]))
          rw [hy] at ey'
          cases ey'
          have hfk := hgood.kind _ (List.getElem_mem hi)
          have hfd := hgood.dep _ (List.getElem_mem hi)
          have b07 := (b3.trans b4).trans b7
          have t07 := hA.deck.tex b07
          have elg7 := b07 _ _ elg nlg
          dsimp only [gName]
          refine ⟨_, rfl, a, _, _, _, rfl, rfl, t07.sq hae, rfl, _, rfl, _, rfl, _, rfl, dk, _, _, kinds, o, fs[i], rfl, hA.kat.to b07, hA.ok, ho, hy'.to t7, hfk, hfd, fun lb H8 hlb s8 elb => ?_⟩
          have hbl := bound_256 hA.ok hfk ho
          refine ⟨lg, lb, _, _, rfl, rfl, s8 _ _ elg7, elb, sl_le (by rw [natVs_len, natVs_len]; have := hA.len; omega), fun L hL => ?_⟩
          have s9 := same_new (o := .lst (natVs G ++ natVs (boundK kinds fs[i] o))) hL
          have s89 := s8.trans s9
          have hae9 := sqt_same s89 (t07.sq hae)
          refine ⟨_, rfl, a, _, _, _, rfl, rfl, hae9, rfl, sl_le (by show 2 ≤ 10000000; decide), fun q hq => ?_⟩
          have s10 := same_new (o := .tup [.ref L, dv]) hq
          have s810 := s89.trans s10
          have nL : L ≠ dk := fun z => ((d7.same s8).ne_new hL) z.symm
          have b10 := b07.same s810
          have d10 := d7.same s810
          have henv : EnvAt K _ dk (.ref q) (G ++ boundK kinds fs[i] o) defs := ⟨q, .ref L, dv, rfl, SqT.of upd_same, ⟨L, rfl, (s10 _ _ upd_same).trans (by simp [natVs]), nL⟩, hdv.to (hA.deck.tex b10) b10⟩
          dsimp only [gName]
          have eDa10 := s810 _ _ eDa7
          refine ⟨_, rfl, .inl ⟨rfl, _, SqL.of eDa10⟩, ?_⟩
          refine ⟨_, rfl, _, rfl, _, rfl, _, rfl, _, rfl, _, rfl, _, _, rfl, rfl, _, rfl, Da, _, rfl, .inl (SqL.of eDa10), _, _, rfl, rfl, (show (0 : Int) < 2 by decide), _, _, rfl, rfl, ?_⟩
          refine hrec hleft k _ (G ++ boundK kinds fs[i] o) (left - 1 - (avs.length : Int) % 2) _ _ _ hA.k4 (by have := Int.emod_nonneg (avs.length : Int) (show (2 : Int) ≠ 0 by decide); omega) (by rw [List.length_append]; omega) henv b10 d10 fun u2 t2 H11 b11 d11 ht2 => ?_
          have eDa11 := b11 _ _ eDa10 nDa
          have el11 := b11 _ _ (s810 _ _ el7) nl
          refine ⟨sl_le (by show 2 ≤ 10000000; decide), fun r hr => ?_⟩
          have s12 := same_new (o := .tup [y, u2]) hr
          have eDa12 := s12 _ _ eDa11
          have lav := trs_len havs
          have lar : arms.length = i := by
            have := congrArg List.length hfst
            rw [List.length_map, List.length_take] at this
            omega
          rw [List.length_map] at lav
          refine ⟨Da, avs, _, rfl, rfl, eDa12, sl_lt (by omega), ?_⟩
          have t13 := TEx.upd_lst (ys := avs ++ [.ref r]) eDa12
          have t711 := (TEx.of_same s810).trans (d10.tex b11)
          have t713 := (t711.trans (TEx.of_same s12)).trans t13
          have hfit : Tr.fit (3 * (m - 1) + 11) (armT (fs[i], t2)) := fit_t (by simp) (allc ⟨by show (formT fs[i]).dep ≤ _; omega, form_slim hA.ok _ _ hfk⟩ (all1 ht2.fit))
          refine ⟨avs ++ [.ref r], arms ++ [(fs[i], t2)], _, _, rfl, ?_, (d11.same s12).but (fun z => nDa z.symm) (fun b o e n => by rw [upd_ne n]; exact e), by rw [upd_ne nlDa]; exact s12 _ _ el11, t7.trans t713, upd_same, ?_, ?_, ?_⟩
          · intro c o' ec n
            rw [upd_ne (ne_of_none ec hDa)]
            exact s12 _ _ (b11 _ _ (s810 _ _ (b7 _ _ ec n)) n)
          · rw [List.map_append]
            refine trs_snoc (havs.to t713) (tr_t.mpr ⟨r, _, rfl, t13.sq (SqT.of upd_same), trs_cons.mpr ⟨_, _, rfl, (hy'.to t7).to t713, trs_one ((ht2.tr.same s12).to t13)⟩⟩)
          · rw [List.map_append, hfst, List.take_succ, ef]
            rfl
          · intro p hp
            rcases List.mem_append.mp hp with hp | hp
            · exact harms _ hp
            · rw [List.mem_singleton.mp hp]; exact ⟨hfit, hfk, ht2.kd⟩
        · rintro σ H7 ⟨avs, arms, x12, x13, rfl, b7, d7, el7, t7, eDa7, havs, hfst, harms⟩
          rw [lus, List.take_length] at hfst
          exact hnx _ _ ⟨avs, arms, fs, _, _, rfl, b7, d7, eDa7, havs, hfst, hlen, harms, hcov⟩
      · rintro σ H6 ⟨avs, arms, fs, x12, x13, rfl, b6, d6, eDa, havs, hfst, hlen, harms, hcov⟩
        have lar : arms.length = fs.length := by rw [← hfst, List.length_map]
        have b36 := (b3.trans b4).trans b6
        refine ⟨_, rfl, o, rfl, ho, fun pv H7 s7 hpv => ?_⟩
        refine ⟨_, rfl, _, rfl, Da, avs, rfl, .inl ⟨SqL.of (s7 _ _ eDa), fun q hq => ⟨sl_le (by show 4 ≤ 10000000; decide), fun r hr => ?_⟩⟩⟩
        have s8 := same_new (o := .tup avs) hq
        have s9 := same_new (o := .tup [.str "case", pv, u, .ref q]) hr
        have s79 := s7.trans (s8.trans s9)
        refine kk (.ref r) (.case o t (Arms.of arms)) _ (b36.same s79) (d6.same s79) ⟨?_, ?_, ?_, fun z => by omega⟩
        · refine tr_t.mpr ⟨r, _, rfl, SqT.of upd_same, trs_cons.mpr ⟨_, _, rfl, tr_s.mpr rfl, trs_cons.mpr ⟨_, _, rfl, hpv.same (s8.trans s9), trs_cons.mpr ⟨_, _, rfl, (ht.tr.to (d4.tex b6)).same s79, trs_one (tr_t.mpr ⟨q, avs, rfl, SqT.of (s9 _ _ upd_same), ?_⟩)⟩⟩⟩⟩
          rw [armsT_of]
          exact havs.same s79
        · rw [ToldK]
          refine ⟨ht.kd, armsK_of fun p hp => (harms p hp).2, fun c hc => ?_⟩
          obtain ⟨f, hf, htk⟩ := hcov c hc
          rw [← hfst] at hf
          obtain ⟨p, hp, rfl⟩ := List.mem_map.mp hf
          exact ⟨p, by rw [Arms.of_list]; exact hp, htk⟩
        · have h1 : Tr.fit (3 * (m - 1) + 12) (.t (armsT (Arms.of arms))) := by
            rw [armsT_of]
            refine fit_t (by rw [List.length_map]; omega) fun c hc => ?_
            obtain ⟨p, hp, rfl⟩ := List.mem_map.mp hc
            exact (harms p hp).1
          rw [toldT]
          exact Tr.fit.mono (fit_t (by simp) (allc fit_s (allc fit_pair (allc (ht.fit.mono (by omega)) (all1 h1))))) (by have := hA.meas; omega)
    rintro σ H' ⟨rfl, rfl⟩
    refine seq_of (fun σ H' => σ = [some (.ref dk), some v, some (.int (k : Int)), some (.ref a), some (.int left), some (.int (way : Int)), some (.ref D), x7, some (.int (o : Int)), none, none, none, none, none] ∧ H3 = H') (fun nx hnx => ?_) ?_
    · refine ⟨_, rfl, _, _, rfl, rfl, _, rfl, ite2 (fun z => ?_) (fun z => hnx _ _ ⟨rfl, rfl⟩)⟩
      exact ⟨_, rfl, _, rfl, _, rfl, _, rfl, _, rfl, dk, _, _, kinds, k, G, defs, left, rfl, hleft, fmake, fun u t H4 b4 d4 ht => kk u t H4 (b3.trans b4) d4 ht⟩
    rintro σ H' ⟨rfl, rfl⟩
    exact ⟨_, rfl, _, rfl, _, rfl, _, rfl, _, rfl, dk, _, _, kinds, k, G, defs, left, rfl, fmake, fun u t H4 b4 d4 ht => kk u t H4 (b3.trans b4) d4 ht⟩
theorem ok_core (T : Txt K mg) : ∀ m, FnOk P w K mg base CX0 (3 * m + 10) T.f__law_core T.fd__law_core ["deck", "kinds", "kind", "env", "left"] (spCore K m)
  | 0 => ok_core0 T 0 7 (by omega) (sp' := spNo) (T.F__law_core.ok sc__law_core (fun vs H Q E h => h.elim) (fun cdv A outer sh H vs Q E hr h => h.elim)) (fun m e => by cases e)
  | f + 1 => ok_core0 T (f + 1) (3 * f + 10) (by omega) (ok_core T f) (fun m e => by cases e; rfl)
end
end K87

set_option Elab.async false
set_option linter.all false
set_option maxRecDepth 100000
set_option maxHeartbeats 4000000
namespace K87
open PySem PySem.Spec PyProof.Rows L2 Ru Rp Mch
section
variable {P : Program} {w : World} {K : PySem.W.Frag} {mg : Str → Option Value} {base : Heap}
inductive Cnt : Tr → Nat → Prop
  | told (t : Told Nm) : Cnt (toldT t) (cnt t)
  | form (f : Form) : Cnt (formT f) (cntF f)
theorem fit_inv {n : Nat} {xs : List Tr} (h : Tr.fit n (.t xs)) : ∃ g, n = g + 1 ∧ xs.length ≤ 1000 ∧ ∀ c ∈ xs, Tr.fit g c := by
  obtain ⟨h1, h2⟩ := h
  rw [Tr.dep] at h1
  rw [Tr.slim] at h2
  refine ⟨n - 1, by omega, h2.1, fun c hc => ⟨?_, slims_mem h2.2 hc⟩⟩
  have := depsT_mem hc
  omega
theorem cnt_tolds : ∀ (ps : Tolds Nm), Paired Cnt (toldsT ps) (ps.list.map cnt) ∧ cntTs ps = (ps.list.map cnt).sum
  | .nil => ⟨.nil, rfl⟩
  | .cons t r => by
    obtain ⟨h1, h2⟩ := cnt_tolds r
    refine ⟨.cons (.told t) h1, ?_⟩
    rw [cntTs, h2]
    rfl
theorem cnt_forms : ∀ (ps : Forms), Paired Cnt (formsT ps) (ps.list.map cntF) ∧ cntFs ps = (ps.list.map cntF).sum
  | .nil => ⟨.nil, rfl⟩
  | .cons t r => by
    obtain ⟨h1, h2⟩ := cnt_forms r
    refine ⟨.cons (.form t) h1, ?_⟩
    rw [cntFs, h2]
    rfl
theorem cut1 {x : V} {ws : List V} : cutV (x :: ws) (some 1) none = ws := by
  unfold cutV
  rw [show (some (1 : Int)) = some ((1 : Nat) : Int) from rfl, HT.sIx_nat, HT.sIx_none, List.length_cons, Nat.min_eq_left (by omega)]
  simp
theorem cut2 {x y : V} {ws : List V} : cutV (x :: y :: ws) (some 2) none = ws := by
  unfold cutV
  rw [show (some (2 : Int)) = some ((2 : Nat) : Int) from rfl, HT.sIx_nat, HT.sIx_none, List.length_cons, List.length_cons, Nat.min_eq_left (by omega)]
  simp
theorem cut_ne1 {x : V} {ws : List V} : ¬ HT.sIx (x :: ws).length 0 (some 1) = 0 := by
  rw [show (some (1 : Int)) = some ((1 : Nat) : Int) from rfl, HT.sIx_nat, List.length_cons]
  omega
theorem cut_ne2 {x y : V} {ws : List V} : ¬ HT.sIx (x :: y :: ws).length 0 (some 2) = 0 := by
  rw [show (some (2 : Int)) = some ((2 : Nat) : Int) from rfl, HT.sIx_nat, List.length_cons, List.length_cons]
  omega
inductive Shape : Str → List Tr → Nat → Prop
  | cut (w : Str) (cs : List Tr) (zs : List Nat) (hw : w = "let" ∨ w = "if") (h : Paired Cnt cs zs) : Shape w cs (1 + zs.sum)
  | same (p : Tr) (cs : List Tr) (zs : List Nat) (h : Paired Cnt cs zs) : Shape "same" (p :: cs) (1 + zs.sum)
  | case (p : Tr) (t : Told Nm) (arms : Arms Nm) : Shape "case" [p, toldT t, .t (armsT arms)] (1 + (cnt t + cntArms arms))
  | last (w : Str) (ini cs : List Tr) (zs : List Nat) (hw : w = "make" ∨ w = "call") (h : Paired Cnt cs zs) : Shape w (ini ++ [.t cs]) (1 + zs.sum)
theorem cnt_shape {c : Tr} {z : Nat} (h : Cnt c z) : ∃ (w : Str) (rest : List Tr), c = .t (.s w :: rest) ∧ ((w = "local" ∨ w = "any" ∨ w = "bind") ∧ z = 1 ∨ (¬ w = "local" ∧ ¬ w = "any" ∧ ¬ w = "bind") ∧ Shape w rest z) := by
  cases h with
  | told t =>
    cases t with
    | loc n => exact ⟨"local", _, rfl, .inl ⟨.inl rfl, rfl⟩⟩
    | letT a b => exact ⟨"let", _, rfl, .inr ⟨⟨by decide +kernel, by decide +kernel, by decide +kernel⟩, .cut _ _ [cnt a, cnt b] (.inl rfl) (.cons (.told a) (.cons (.told b) .nil))⟩⟩
    | ifT a b c =>
      refine ⟨"if", _, rfl, .inr ⟨⟨by decide +kernel, by decide +kernel, by decide +kernel⟩, ?_⟩⟩
      have := Shape.cut "if" _ [cnt a, cnt b, cnt c] (.inr rfl) (.cons (.told a) (.cons (.told b) (.cons (.told c) .nil)))
      rw [show 1 + [cnt a, cnt b, cnt c].sum = cnt (Told.ifT a b c) by rw [cnt]; simp; omega] at this
      exact this
    | same k a b => exact ⟨"same", _, rfl, .inr ⟨⟨by decide +kernel, by decide +kernel, by decide +kernel⟩, .same _ _ [cnt a, cnt b] (.cons (.told a) (.cons (.told b) .nil))⟩⟩
    | case k a arms => exact ⟨"case", _, rfl, .inr ⟨⟨by decide +kernel, by decide +kernel, by decide +kernel⟩, .case _ a arms⟩⟩
    | call f ps =>
      refine ⟨"call", _, rfl, .inr ⟨⟨by decide +kernel, by decide +kernel, by decide +kernel⟩, ?_⟩⟩
      obtain ⟨h1, h2⟩ := cnt_tolds ps
      rw [cnt, h2]
      exact .last _ [.s f.1, .s f.2] _ _ (.inr rfl) h1
    | make k m ps =>
      refine ⟨"make", _, rfl, .inr ⟨⟨by decide +kernel, by decide +kernel, by decide +kernel⟩, ?_⟩⟩
      obtain ⟨h1, h2⟩ := cnt_tolds ps
      rw [cnt, h2]
      exact .last _ [pairT k, .i (m : Int)] _ _ (.inl rfl) h1
  | form f =>
    cases f with
    | any => exact ⟨"any", _, rfl, .inl ⟨.inr (.inl rfl), rfl⟩⟩
    | bind => exact ⟨"bind", _, rfl, .inl ⟨.inr (.inr rfl), rfl⟩⟩
    | make m fs =>
      refine ⟨"make", _, rfl, .inr ⟨⟨by decide +kernel, by decide +kernel, by decide +kernel⟩, ?_⟩⟩
      obtain ⟨h1, h2⟩ := cnt_forms fs
      rw [cntF, h2]
      exact .last _ [.i (m : Int)] _ _ (.inl rfl) h1
def armsFlat (l : List (Form × Told Nm)) : List Tr := l.flatMap fun p => [formT p.1, toldT p.2]
def armsCnts (l : List (Form × Told Nm)) : List Nat := l.flatMap fun p => [cntF p.1, cnt p.2]
theorem armsFlat_snoc (l : List (Form × Told Nm)) (p : Form × Told Nm) : armsFlat (l ++ [p]) = armsFlat l ++ [formT p.1, toldT p.2] := by simp [armsFlat]
theorem arms_paired : ∀ (l : List (Form × Told Nm)), Paired Cnt (armsFlat l) (armsCnts l)
  | [] => .nil
  | p :: r => .cons (.form p.1) (.cons (.told p.2) (arms_paired r))
theorem arms_sum : ∀ (as : Arms Nm), (armsCnts as.list).sum = cntArms as
  | .nil => rfl
  | .cons f t r => by
    have := arms_sum r
    rw [cntArms, Arms.list, armsCnts, List.flatMap_cons]
    unfold armsCnts at this
    simp [this]
    omega
theorem armsFlat_len (l : List (Form × Told Nm)) : (armsFlat l).length = 2 * l.length := by
  induction l with
  | nil => rfl
  | cons p r ih =>
    show (formT p.1 :: toldT p.2 :: armsFlat r).length = _
    simp [ih]
    omega
abbrev N__law_count : List Str := ["told", "within", "arm", "one"]
theorem sc__law_count : FnScope N__law_count ["told"] (defScope s__law_count) := ⟨rfl, rfl, rfl, by decide +kernel, rfl, by decide +kernel, by decide +kernel⟩
def spCount (K : PySem.W.Frag) (n : Nat) : Sp := fun vs H Q _ => ∃ (u : V) (c : Tr) (z : Nat), vs = [u] ∧ Cnt c z ∧ Tr.fit n c ∧ TrAt K H u c ∧ ∀ (H' : Hp), Same H H' → Q (.int (z : Int)) H'
theorem ok_count0 (T : Txt K mg) (n : Nat) {sp' : Sp} (G__law_count : FnOk P w K mg base CX0 (n + 1) T.f__law_count T.fd__law_count ["told"] sp') (hsp : ∀ g, n = g + 1 → sp' = spCount K g) : FnOk P w K mg base CX0 (n + 2) T.f__law_count T.fd__law_count ["told"] (spCount K n) := by
  refine T.F__law_count.ok sc__law_count (fun vs H Q E h => ?_) (fun cdv A outer sh H vs Q E hr h => ?_)
  · obtain ⟨u, c, z, rfl, _⟩ := h
    rfl
  · obtain ⟨u, c, z, rfl, hc, hfit, hu, kk⟩ := h
    have nd := sc__law_count.nd
    have hr__law_count : Room (n + 1) _ := hr
    refine ⟨_, (pss_cons (ps_if (PW.pt (pw_or (pt_cmpR op_eq (pe_ix ix_tup (pv 0) pe_int (fun _ _ => rfl)) pe_str (nomark _)) (pw_or (pt_cmpR op_eq (pe_ix ix_tup (pv 0) pe_int (fun _ _ => rfl)) pe_str (nomark _)) (pw_or1 (pt_cmpR op_eq (pe_ix ix_tup (pv 0) pe_int (fun _ _ => rfl)) pe_str (nomark _))))))
            (pss_one (ps_ret pe_int))
            pss_nil)
          (pss_cons (ps_set (i := 1) nd rfl (Or.inl rfl) (pe_lst pa_nil))
          (pss_cons (ps_if (PW.pt (pw_or (pt_cmpR op_eq (pe_ix ix_tup (pv 0) pe_int (fun _ _ => rfl)) pe_str (nomark _)) (pw_or1 (pt_cmpR op_eq (pe_ix ix_tup (pv 0) pe_int (fun _ _ => rfl)) pe_str (nomark _)))))
            (pss_one (ps_set (i := 1) nd rfl (Or.inl rfl) (pe_callTy call_list_of (by rfl) T.z_list (by decide +kernel) (pa_cons (pe_slice sl_tupA (pv 0) (po_some pe_int) po_none) pa_nil))))
            (pss_one (ps_if (pt_cmpR op_eq (pe_ix ix_tup (pv 0) pe_int (fun _ _ => rfl)) pe_str (nomark _))
              (pss_one (ps_set (i := 1) nd rfl (Or.inl rfl) (pe_callTy call_list_of (by rfl) T.z_list (by decide +kernel) (pa_cons (pe_slice sl_tupA (pv 0) (po_some pe_int) po_none) pa_nil))))
              (pss_one (ps_if (pt_cmpR op_eq (pe_ix ix_tup (pv 0) pe_int (fun _ _ => rfl)) pe_str (nomark _))
                (pss_cons (ps_set (i := 1) nd rfl (Or.inl rfl) (pe_lst (pa_cons (pe_ix ix_tup (pv 0) pe_int (fun _ _ => rfl)) pa_nil)))
                (pss_one (ps_for PassesOwn.never rfl (pi_tup (pe_ix ix_tup (pv 0) pe_int (fun _ _ => rfl))) (pg_name (i := 2) nd rfl (Or.inl rfl))
                  (pss_one (ps_expr (pe_bm PySem.F.plainAttrs_list PySem.F.slot_list_extend PySem.F.type_list_extend mt_extend (pv 1) (pa_cons (pe_lst (pa_cons (pe_ix ix_tup (pv 2) pe_int (fun _ _ => rfl)) (pa_cons (pe_ix ix_tup (pv 2) pe_int (fun _ _ => rfl)) pa_nil))) pa_nil)))))))
                (pss_one (ps_set (i := 1) nd rfl (Or.inl rfl) (pe_callTy call_list_of (by rfl) T.z_list (by decide +kernel) (pa_cons (pe_ix ix_tup (pv 0) (pe_un un_neg pe_int) (fun _ _ => rfl)) pa_nil)))))))))
          (pss_one (ps_ret (pe_op op_add pe_int (pe_callB (cr_sum rfl) (by rfl) T.z_sum (by decide +kernel) (pa_cons (pe_lc (own := [("one", 3)]) (g := gName 3) (tt := tYes) rfl nd (pi_list (pv 1)) (blkOk_by (own := [("one", 3)]) (N := N__law_count) (sc := defScope s__law_count) (by decide +kernel)) (fun _ _ _ _ _ => pg_name (i := 3) nd rfl (Or.inl rfl)) (fun _ _ _ _ _ => pts_nil) (fun _ _ _ _ _ => (pe_call G__law_count hr__law_count rfl T.g__law_count T.k__law_count T.b__law_count .nil pass0 (pa_cons (pv 3) pa_nil)))) pa_nil)))))))), ?_⟩
    obtain ⟨w, rest, rfl, hsh⟩ := cnt_shape hc
    obtain ⟨a, vs0, rfl, ha, hvs⟩ := tr_t.mp hu
    obtain ⟨w0, ws, rfl, g0, hws⟩ := trs_cons.mp hvs
    obtain rfl := tr_s.mp g0
    obtain ⟨g, rfl, hlen, hfc⟩ := fit_inv hfit
    have hfr : ∀ c ∈ rest, Tr.fit g c := fun c hc => hfc c (List.mem_cons_of_mem _ hc)
    refine seq_of (fun σ H' => σ = [some (.ref a), none, none, none] ∧ H = H' ∧ Shape w rest z) (fun nx hnx => ?_) ?_
    · rcases hsh with ⟨hw, rfl⟩ | ⟨⟨n1, n2, n3⟩, hs⟩
      · refine ⟨_, rfl, a, _, _, _, rfl, rfl, ha, atI_hd, rfl, _, rfl, ?_⟩
        by_cases c1 : w = "local"
        · exact isT (by rw [c1]) (iteT (kk H (Same.refl H)))
        refine isF (nstr c1) ⟨_, rfl, a, _, _, _, rfl, rfl, ha, atI_hd, rfl, _, rfl, ?_⟩
        by_cases c2 : w = "any"
        · exact isT (by rw [c2]) (iteT (kk H (Same.refl H)))
        refine isF (nstr c2) ⟨_, rfl, a, _, _, _, rfl, rfl, ha, atI_hd, rfl, _, rfl, ?_⟩
        have c3 : w = "bind" := by rcases hw with h | h | h; exact absurd h c1; exact absurd h c2; exact h
        exact isT (by rw [c3]) (kk H (Same.refl H))
      · exact ⟨_, rfl, a, _, _, _, rfl, rfl, ha, atI_hd, rfl, _, rfl, isF (nstr n1) ⟨_, rfl, a, _, _, _, rfl, rfl, ha, atI_hd, rfl, _, rfl, isF (nstr n2) ⟨_, rfl, a, _, _, _, rfl, rfl, ha, atI_hd, rfl, _, rfl, isF (nstr n3) (hnx _ _ ⟨rfl, rfl, hs⟩)⟩⟩⟩
    rintro σ H' ⟨rfl, rfl, hs⟩
    clear hsh hu hvs hc g0
    refine ⟨sl_le (by show 0 ≤ 10000000; decide), fun L0 hL0 => ?_⟩
    have s0 := same_new (o := .lst []) hL0
    have ha0 := sqt_same s0 ha
    have hws0 := hws.same s0
    dsimp only [gName]
    refine seq_of (fun σ H' => ∃ (L : Addr) (x2 x3 : Option V) (us : List V) (cs : List Tr) (zs : List Nat), σ = [some (.ref a), some (.ref L), x2, x3] ∧ Same H H' ∧ H' L = some (.lst us) ∧ TrsAt K H' us cs ∧ Paired Cnt cs zs ∧ (∀ c ∈ cs, Tr.fit g c) ∧ z = 1 + zs.sum ∧ cs.length ≤ 5000) (fun nx hnx => ?_) ?_
    · cases hs with
      | cut _ _ zs hw hp =>
        refine ⟨_, rfl, a, _, _, _, rfl, rfl, ha0, atI_hd, rfl, _, rfl, ?_⟩
        have body : ∀ p l, (upd H L0 (.lst [])) p = none → (upd (upd H L0 (.lst [])) p (.tup (cutV (.str w :: ws) (some 1) none))) l = none → nx [some (.ref a), some (.ref l), none, none] (upd (upd (upd H L0 (.lst [])) p (.tup (cutV (.str w :: ws) (some 1) none))) l (.lst (cutV (.str w :: ws) (some 1) none))) := by
          intro p l hp' hl'
          have s12 := (same_new (o := .tup (cutV (.str w :: ws) (some 1) none)) hp').trans (same_new (o := .lst (cutV (.str w :: ws) (some 1) none)) hl')
          exact hnx _ _ ⟨l, _, _, ws, rest, zs, rfl, s0.trans s12, upd_same.trans (by rw [cut1]), hws0.same s12, hp, hfr, rfl, by rw [List.length_cons] at hlen; omega⟩
        by_cases c1 : w = "let"
        · refine isT (by rw [c1]) (iteT ⟨_, rfl, _, rfl, a, _, rfl, ha0, fun h => absurd h.1 cut_ne1, fun _ p hp' => ⟨p, _, rfl, .inr (SqT.of upd_same), fun l hl' => body p l hp' hl'⟩⟩)
        · have c2 : w = "if" := by rcases hw with h | h; exact absurd h c1; exact h
          refine isF (nstr c1) ⟨_, rfl, a, _, _, _, rfl, rfl, ha0, atI_hd, rfl, _, rfl, isT (by rw [c2]) ⟨_, rfl, _, rfl, a, _, rfl, ha0, fun h => absurd h.1 cut_ne1, fun _ p hp' => ⟨p, _, rfl, .inr (SqT.of upd_same), fun l hl' => body p l hp' hl'⟩⟩⟩
      | same p cs zs hp =>
        obtain ⟨v1, ws1, rfl, h1, hws1⟩ := trs_cons.mp hws
        refine ⟨_, rfl, a, _, _, _, rfl, rfl, ha0, atI_hd, rfl, _, rfl, isF (nstr (by decide +kernel)) ⟨_, rfl, a, _, _, _, rfl, rfl, ha0, atI_hd, rfl, _, rfl, isF (nstr (by decide +kernel)) ⟨_, rfl, a, _, _, _, rfl, rfl, ha0, atI_hd, rfl, _, rfl, isT rfl ?_⟩⟩⟩
        refine ⟨_, rfl, _, rfl, a, _, rfl, ha0, fun h => absurd h.1 cut_ne2, fun _ p' hp' => ⟨p', _, rfl, .inr (SqT.of upd_same), fun l hl' => ?_⟩⟩
        have s12 := (same_new (o := .tup (cutV (.str "same" :: v1 :: ws1) (some 2) none)) hp').trans (same_new (o := .lst (cutV (.str "same" :: v1 :: ws1) (some 2) none)) hl')
        exact hnx _ _ ⟨l, _, _, ws1, cs, zs, rfl, s0.trans s12, upd_same.trans (by rw [cut2]), hws1.same (s0.trans s12), hp, fun c hc => hfr c (List.mem_cons_of_mem _ hc), rfl, by rw [List.length_cons, List.length_cons] at hlen; omega⟩
      | case p t arms =>
        obtain ⟨v1, r1, rfl, h1, hr1⟩ := trs_cons.mp hws
        obtain ⟨v2, r2, rfl, h2, hr2⟩ := trs_cons.mp hr1
        obtain ⟨v3, r3, rfl, h3, hr3⟩ := trs_cons.mp hr2
        obtain rfl := trs_nil.mp hr3
        obtain ⟨b, bs, rfl, hb, hbs⟩ := tr_t.mp h3
        refine ⟨_, rfl, a, _, _, _, rfl, rfl, ha0, atI_hd, rfl, _, rfl, isF (nstr (by decide +kernel)) ⟨_, rfl, a, _, _, _, rfl, rfl, ha0, atI_hd, rfl, _, rfl, isF (nstr (by decide +kernel)) ⟨_, rfl, a, _, _, _, rfl, rfl, ha0, atI_hd, rfl, _, rfl, isF (nstr (by decide +kernel)) ⟨_, rfl, a, _, _, _, rfl, rfl, ha0, atI_hd, rfl, _, rfl, isT rfl ?_⟩⟩⟩⟩
        obtain ⟨g1, rfl, hl1, hf1⟩ := fit_inv (hfr (.t (armsT arms)) (by simp))
        have hfa : ∀ q ∈ arms.list, Tr.fit g1 (formT q.1) ∧ Tr.fit g1 (toldT q.2) := by
          intro q hq
          have := hf1 (.t [formT q.1, toldT q.2]) (by rw [armsT_list]; exact List.mem_map.mpr ⟨q, hq, rfl⟩)
          obtain ⟨g2, rfl, _, hf2⟩ := fit_inv this
          exact ⟨(hf2 _ (by simp)).mono (by omega), (hf2 _ (by simp)).mono (by omega)⟩
        have hla : arms.list.length ≤ 1000 := by rw [armsT_list, List.length_map] at hl1; exact hl1
        refine ⟨_, rfl, a, _, _, _, rfl, rfl, ha0, rfl, sl_le (by show 1 ≤ 10000000; decide), fun L hL => ?_⟩
        have s1 := same_new (o := .lst [v2]) hL
        have s01 := s0.trans s1
        have hbs1 := hbs.same s01
        have lbs := trs_len hbs
        rw [armsT_list, List.length_map] at lbs
        have hLH : H L = none := by
          cases e : H L with
          | none => rfl
          | some o =>
            have := s0 _ _ e
            rw [hL] at this
            cases this
        dsimp only [gName]
        refine ⟨_, rfl, a, _, _, _, rfl, rfl, sqt_same s1 ha0, rfl, b, rfl, ⟨_, sqt_same s01 hb⟩, for_tup (K := K) (a := b) (xs := bs) (fun i σ H' => ∃ (x2 : Option V) (us : List V), σ = [some (.ref a), some (.ref L), x2, none] ∧ Same H H' ∧ H' L = some (.lst us) ∧ TrsAt K H' us (toldT t :: armsFlat (arms.list.take i))) ⟨none, [v2], rfl, s01, upd_same, trs_one (h2.same s01)⟩ (fun i σ H' _ ⟨_, _, _, s, _⟩ => sqt_same s hb) ?_ ?_⟩
        · rintro i y σ H2 hy ⟨x2, us, rfl, s2, eL, hus⟩
          have hi : i < arms.list.length := by
            have := (List.getElem?_eq_some_iff.mp hy).1
            omega
          have eq := List.getElem?_eq_getElem hi
          obtain ⟨c, ec, hyc⟩ := trs_get hbs hy
          rw [armsT_list, List.getElem?_map, eq] at ec
          cases ec
          obtain ⟨pa, ps, rfl, hpa, hps⟩ := tr_t.mp hyc
          obtain ⟨w1, r1, rfl, k1, hr1⟩ := trs_cons.mp hps
          obtain ⟨w2, r2, rfl, k2, hr2⟩ := trs_cons.mp hr1
          obtain rfl := trs_nil.mp hr2
          have lus := trs_len hus
          rw [List.length_cons, armsFlat_len, List.length_take] at lus
          dsimp only [gName]
          refine ⟨_, rfl, .inl ⟨rfl, _, SqL.of eL⟩, _, rfl, pa, _, _, _, rfl, rfl, sqt_same s2 hpa, rfl, _, rfl, pa, _, _, _, rfl, rfl, sqt_same s2 hpa, rfl, sl_le (by show 2 ≤ 10000000; decide), fun L2 hL2 => ?_⟩
          have s3 := same_new (o := .lst [w1, w2]) hL2
          refine ⟨L, L2, us, _, rfl, rfl, s3 _ _ eL, upd_same, sl_le (by show us.length + 2 ≤ 10000000; omega), ?_⟩
          have t4 := TEx.upd_lst (ys := us ++ [w1, w2]) (s3 _ _ eL)
          refine ⟨_, us ++ [w1, w2], rfl, fun b o e => ?_, upd_same, ?_⟩
          · rw [upd_ne (ne_of_none e hLH)]
            exact s3 _ _ (s2 _ _ e)
          · rw [List.take_succ, eq, Option.toList_some, armsFlat_snoc]
            exact trs_append ((hus.same s3).to t4) (trs_cons.mpr ⟨_, _, rfl, (k1.same (s2.trans s3)).to t4, trs_one ((k2.same (s2.trans s3)).to t4)⟩)
        · rintro σ H2 ⟨x2, us, rfl, s2, eL, hus⟩
          rw [lbs, List.take_length] at hus
          refine hnx _ _ ⟨L, _, _, us, _, cnt t :: armsCnts arms.list, rfl, s2, eL, hus, .cons (.told t) (arms_paired _), fun c hc => ?_, by rw [List.sum_cons, arms_sum], by rw [List.length_cons, armsFlat_len]; omega⟩
          rcases List.mem_cons.mp hc with rfl | hc
          · exact hfr _ (by simp)
          · unfold armsFlat at hc
            obtain ⟨q, hq, hcq⟩ := List.mem_flatMap.mp hc
            have := hfa q hq
            rcases List.mem_cons.mp hcq with rfl | hcq
            · exact this.1.mono (by omega)
            · rw [List.mem_singleton.mp hcq]; exact this.2.mono (by omega)
      | last _ ini cs zs hw hp =>
        have e0 : ∀ s : Str, ¬ s = "make" → ¬ s = "call" → ¬ V.str w = V.str s := fun s n1 n2 => nstr (fun z => by subst z; rcases hw with h | h; exact n1 h; exact n2 h)
        refine ⟨_, rfl, a, _, _, _, rfl, rfl, ha0, atI_hd, rfl, _, rfl, isF (e0 _ (by decide +kernel) (by decide +kernel)) ⟨_, rfl, a, _, _, _, rfl, rfl, ha0, atI_hd, rfl, _, rfl, isF (e0 _ (by decide +kernel) (by decide +kernel)) ⟨_, rfl, a, _, _, _, rfl, rfl, ha0, atI_hd, rfl, _, rfl, isF (e0 _ (by decide +kernel) (by decide +kernel)) ⟨_, rfl, a, _, _, _, rfl, rfl, ha0, atI_hd, rfl, _, rfl, isF (e0 _ (by decide +kernel) (by decide +kernel)) ?_⟩⟩⟩⟩
        obtain ⟨v, ev, hv⟩ := trs_at hws (show (ini ++ [.t cs])[ini.length]? = some (.t cs) by simp)
        have lws := trs_len hws
        rw [List.length_append, List.length_singleton] at lws
        obtain ⟨b, bs, rfl, hb, hbs⟩ := tr_t.mp hv
        obtain ⟨g1, rfl, hl1, hf1⟩ := fit_inv (hfr (.t cs) (List.mem_append_right _ List.mem_cons_self))
        have eat : atI (.str w :: ws) (-1) = some (.ref b) := by
          have e1 : ws = ws.take ini.length ++ [.ref b] := by
            have := List.take_append_drop ini.length ws
            rw [List.drop_eq_getElem_cons (by omega), List.drop_eq_nil_of_le (by omega)] at this
            rw [List.getElem?_eq_getElem (by omega)] at ev
            injection ev with ev
            rw [ev] at this
            exact this.symm
          rw [e1]
          exact atI_last (.str w :: ws.take ini.length) _
        refine ⟨_, rfl, _, rfl, a, _, _, _, rfl, rfl, ha0, eat, b, _, rfl, .inr (sqt_same s0 hb), fun l hl' => ?_⟩
        have s1 := same_new (o := .lst bs) hl'
        exact hnx _ _ ⟨l, _, _, bs, cs, zs, rfl, s0.trans s1, upd_same, hbs.same (s0.trans s1), hp, fun c hc => (hf1 c hc).mono (by omega), rfl, by omega⟩
    rintro σ H1 ⟨L, x2, x3, us, cs, zs, rfl, s1, eL, hus, hp, hfc1, rfl, hcl⟩
    have lcs := trs_len hus
    have lzs := Paired.length hp
    refine ⟨_, rfl, L, rfl, ⟨_, SqL.of eL⟩, fun D hD => lc_list (K := K) (a := L) (xs := us) (fun i H' => Same H1 H' ∧ H' D = some (.lst (((zs.take i).map fun (n : Nat) => (n : Int)).map V.int))) ⟨same_new hD, upd_same⟩ (fun i H' _ ⟨s, _⟩ => SqL.of (s _ _ eL)) ?_ ?_⟩
    · rintro i y H2 hy ⟨s2, eD⟩
      obtain ⟨c, ec, hyc⟩ := trs_get hus hy
      have hi : i < zs.length := by
        have := (List.getElem?_eq_some_iff.mp ec).1
        omega
      have ez := List.getElem?_eq_getElem hi
      obtain ⟨c', ec', hcz⟩ := paired_get hp ez
      rw [ec] at ec'
      cases ec'
      have hfc' := hfc1 c (List.mem_of_getElem? ec)
      cases hsp g rfl
      refine ⟨rfl, _, rfl, y, c, _, rfl, hcz, hfc', hyc.same s2, fun H3 s3 => ?_⟩
      have eD3 := s3 _ _ eD
      refine ⟨_, eD3, sl_lt (by rw [List.length_map, List.length_map, List.length_take]; omega), fun b o e => ?_, ?_⟩
      · rw [upd_ne (ne_of_none e hD)]
        exact s3 _ _ (s2 _ _ e)
      · rw [upd_same, List.take_succ, ez, Option.toList_some, List.map_append, List.map_append]
        rfl
    · rintro H2 ⟨s2, eD⟩
      refine ⟨D, _, rfl, SqL.of eD, _, _, rfl, rfl, ?_⟩
      rw [show us.length = zs.length by omega, List.take_length]
      have es : ∀ l : List Nat, (l.map fun (n : Nat) => (n : Int)).sum = ((l.sum : Nat) : Int) := by
        intro l
        induction l with
        | nil => rfl
        | cons x r ih => rw [List.map_cons, List.sum_cons, ih, List.sum_cons]; omega
      have := kk H2 (s1.trans s2)
      rw [show ((1 + zs.sum : Nat) : Int) = 1 + ((zs.sum : Nat) : Int) by omega, ← es] at this
      exact this
theorem ok_count (T : Txt K mg) : ∀ n, FnOk P w K mg base CX0 (n + 2) T.f__law_count T.fd__law_count ["told"] (spCount K n)
  | 0 => ok_count0 T 0 (sp' := spNo) (T.F__law_count.ok sc__law_count (fun vs H Q E h => h.elim) (fun cdv A outer sh H vs Q E hr h => h.elim)) (fun m e => by cases e)
  | f + 1 => ok_count0 T (f + 1) (ok_count T f) (fun m e => by cases e; rfl)
end
end K87

set_option Elab.async false
set_option linter.all false
set_option maxRecDepth 100000
set_option maxHeartbeats 4000000
namespace K87
open PySem PySem.Spec PyProof.Rows L2 Ru Rp Mch
section
variable {P : Program} {w : World} {K : PySem.W.Frag} {mg : Str → Option Value} {base : Heap}
abbrev N__law_taken : List Str := ["form", "cell", "found", "k"]
theorem sc__law_taken : FnScope N__law_taken ["form", "cell", "found"] (defScope s__law_taken) := ⟨rfl, rfl, rfl, by decide +kernel, rfl, by decide +kernel, by decide +kernel⟩
def spTaken (K : PySem.W.Frag) (n : Nat) : Sp := fun vs H Q _ => ∃ (L : Addr) (uf uc : V) (kinds : Kinds) (k : Nat) (f : Form) (c : Cell) (xs : List V) (cs : List Cell), vs = [uf, uc, .ref L] ∧ KindsOk kinds ∧ TrAt K H uf (formT f) ∧ CellAt K H uc c ∧ FormK kinds f k ∧ CellK kinds c k ∧ (formT f).dep ≤ n ∧ H L = some (.lst xs) ∧ CellsAt K H xs cs ∧ xs.length + 4 ^ (k + 1) ≤ 5000 ∧
  ∀ (ys : List V) (cs2 : List Cell) (H' : Hp), But1 H H' L → H' L = some (.lst ys) → CellsAt K H' ys cs2 → ys.length ≤ xs.length + 4 ^ (k + 1) → (takes f c = true → cs2 = cs ++ found f c) → Q (.bl (takes f c)) H'
theorem ok_taken0 (T : Txt K mg) (n : Nat) {sp' : Sp} (G__law_taken : FnOk P w K mg base CX0 (n + 1) T.f__law_taken T.fd__law_taken ["form", "cell", "found"] sp') (hsp : ∀ g, n = g + 1 → sp' = spTaken K g) : FnOk P w K mg base CX0 (n + 2) T.f__law_taken T.fd__law_taken ["form", "cell", "found"] (spTaken K n) := by
  refine T.F__law_taken.ok sc__law_taken (fun vs H Q E h => ?_) (fun cdv A outer sh H vs Q E hr h => ?_)
  · obtain ⟨L, uf, uc, kinds, k, f, c, xs, cs, rfl, _⟩ := h
    rfl
  · obtain ⟨L, uf, uc, kinds, k, f, c, xs, cs, rfl, hK, hf, hc, hfk, hck, hn, hL, hxs, hlen, kk⟩ := h
    have nd := sc__law_taken.nd
    have hr__law_taken : Room (n + 1) _ := hr
    refine ⟨_, (pss_cons (ps_if (pt_cmpR op_eq (pe_ix ix_tup (pv 0) pe_int (fun _ _ => rfl)) pe_str (nomark _))
            (pss_one (ps_expr (pe_bm PySem.F.plainAttrs_list PySem.F.slot_list_append PySem.F.type_list_append mt_append (pv 2) (pa_cons (pv 1) pa_nil))))
            pss_nil)
          (pss_cons (ps_if (pt_cmpR op_eq (pe_ix ix_tup (pv 0) pe_int (fun _ _ => rfl)) pe_str (nomark _))
            (pss_cons (ps_if (pt_cmpR op_ne (pe_ix ix_tup (pv 0) pe_int (fun _ _ => rfl)) (pe_ix ix_tup (pv 1) pe_int (fun _ _ => rfl)) (nomark _))
              (pss_one (ps_ret pe_bl))
              pss_nil)
            (pss_one (ps_for PassesOwn.never rfl (pi_range1 rfl T.z_range (pa_cons (pe_callB call_len_seq (by rfl) T.z_len (by decide +kernel) (pa_cons (pe_ix ix_tup (pv 0) pe_int (fun _ _ => rfl)) pa_nil)) pa_nil)) (pg_name (i := 3) nd rfl (Or.inl rfl))
              (pss_one (ps_if (pt_not (pt_val (pe_call G__law_taken hr__law_taken rfl T.g__law_taken T.k__law_taken T.b__law_taken .nil pass0 (pa_cons (pe_ix ix_tup (pe_ix ix_tup (pv 0) pe_int (fun _ _ => rfl)) (pv 3) (fun _ _ => rfl)) (pa_cons (pe_ix ix_tup (pe_ix ix_tup (pv 1) pe_int (fun _ _ => rfl)) (pv 3) (fun _ _ => rfl)) (pa_cons (pv 2) pa_nil))))))
                (pss_one (ps_ret pe_bl))
                pss_nil)))))
            pss_nil)
          (pss_one (ps_ret pe_bl)))), ?_⟩
    obtain ⟨a, rest, rfl, ha⟩ := form_word hf
    obtain ⟨cn, ccs⟩ := c
    obtain ⟨ca, cb, cws, rfl, hca, hcb, hcws⟩ := cellAt_mk.mp hc
    cases f with
    | any =>
      refine ⟨_, rfl, a, _, _, _, rfl, rfl, ha, atI_hd, rfl, _, rfl, isF (nstr (by decide +kernel)) ?_⟩
      refine ⟨_, rfl, a, _, _, _, rfl, rfl, ha, atI_hd, rfl, _, rfl, isF (nstr (by decide +kernel)) ?_⟩
      have := kk xs cs H (fun b o e _ => e) hL hxs (Nat.le_add_right _ _) (fun _ => by rw [found]; simp)
      rw [takes] at this
      exact this
    | bind =>
      refine ⟨_, rfl, a, _, _, _, rfl, rfl, ha, atI_hd, rfl, _, rfl, isT rfl ?_⟩
      have h1 : 1 ≤ 4 ^ (k + 1) := Nat.one_le_pow _ _ (by omega)
      refine ⟨_, rfl, .inl ⟨rfl, _, SqL.of hL⟩, _, rfl, L, xs, _, rfl, rfl, hL, sl_lt (by omega), ?_⟩
      have t1 := TEx.upd_lst (ys := xs ++ [.ref ca]) hL
      refine ⟨_, rfl, a, _, _, _, rfl, rfl, t1.sq ha, atI_hd, rfl, _, rfl, isF (nstr (by decide +kernel)) ?_⟩
      have := kk (xs ++ [.ref ca]) (cs ++ [.mk cn ccs]) _ (fun b o e n => by rw [upd_ne n]; exact e) upd_same (cells_snoc (hxs.to t1) (hc.to t1)) (by rw [List.length_append, List.length_singleton]; omega) (fun _ => by rw [found])
      rw [takes] at this
      exact this
    | make m fs =>
      obtain ⟨a', b, ws, ea, hs, hb, hws⟩ := form_make hf
      cases ea
      rw [FormK] at hfk
      obtain ⟨ps, epk, hfs⟩ := hfk
      obtain ⟨m', ps', em', ep', hccs⟩ := cellK_mk.mp hck
      subst em'
      obtain ⟨hpl, hpk⟩ := hK.parts k m ps epk
      have lfs := formsK_len hfs
      have lws := trs_len hws
      rw [formsT_list, List.length_map] at lws
      refine ⟨_, rfl, a, _, _, _, rfl, rfl, ha, atI_hd, rfl, _, rfl, isF (nstr (a := "make") (b := "bind") (by decide +kernel)) ?_⟩
      refine ⟨_, rfl, a, _, _, _, rfl, rfl, ha, atI_hd, rfl, _, rfl, isT rfl ?_⟩
      refine ⟨_, rfl, a, _, _, _, rfl, rfl, hs, rfl, _, rfl, ca, _, _, _, rfl, rfl, hca, rfl, rfl, _, rfl, ?_⟩
      by_cases hm : m = m'
      · subst hm
        rw [epk] at ep'
        cases ep'
        have lcc := cellsK_len hccs
        have lcw := cells_len hcws
        refine isNF rfl ?_
        refine ⟨_, rfl, a, _, _, _, rfl, rfl, hs, rfl, b, _, rfl, .inr hb, _, rfl, by omega, by omega, for_range (lo := 0) (n := ws.length) (fun j σ H' => ∃ (x3 : Option V) (ys : List V) (cs2 : List Cell), σ = [some (.ref a), some (.ref ca), some (.ref L), x3] ∧ But1 H H' L ∧ H' L = some (.lst ys) ∧ CellsAt K H' ys cs2 ∧ ys.length ≤ xs.length + j * 4 ^ k ∧ takesL fs ccs = takesL (Forms.of (fs.list.drop j)) (ccs.drop j) ∧ (takesL fs ccs = true → cs2 ++ foundL (Forms.of (fs.list.drop j)) (ccs.drop j) = cs ++ foundL fs ccs)) ⟨none, xs, cs, rfl, fun b o e _ => e, hL, hxs, by omega, by rw [List.drop_zero, List.drop_zero, Forms.of_of], fun _ => by rw [List.drop_zero, List.drop_zero, Forms.of_of]⟩ ?_ ?_⟩
        · rintro j σ H2 hj ⟨x3, ys, cs2, rfl, b2, eL, hys, hyl, htk, hfd⟩
          have hjf : j < fs.list.length := by omega
          have hjc : j < ccs.length := by omega
          have hjp : j < ps.length := by omega
          have e1 := List.getElem?_eq_getElem hjf
          have e2 := List.getElem?_eq_getElem hjc
          have e3 := List.getElem?_eq_getElem hjp
          obtain ⟨z, ez, hz⟩ := form_at hws e1
          obtain ⟨y, ey, hy⟩ := cells_get hcws e2
          have hq := hpk _ (List.getElem_mem hjp)
          have hf1 := formsK_at hfs e1 e3
          obtain ⟨c1, ec1, hc1⟩ := cellsK_get hccs e3
          rw [e2] at ec1
          cases ec1
          have hd1 := dep_form (m := m) e1
          obtain ⟨g, rfl⟩ : ∃ g, n = g + 1 := ⟨n - 1, by omega⟩
          cases hsp g rfl
          have t2 : TEx H H2 := TEx.but2 hL hL (fun b o e n _ => b2 b o e n)
          rw [show (0 : Int) + (j : Int) = ((j : Nat) : Int) by omega]
          have h4 : 4 ^ (ps[j] + 1) ≤ 4 ^ k := Nat.pow_le_pow_right (by omega) (by omega)
          have h5 : j * 4 ^ k + 4 ^ k = (j + 1) * 4 ^ k := by rw [Nat.add_mul, Nat.one_mul]
          have h6 : (j + 1) * 4 ^ k ≤ 3 * 4 ^ k := Nat.mul_le_mul_right _ (by omega)
          have h7 : 4 ^ (k + 1) = 4 ^ k * 4 := Nat.pow_succ ..
          dsimp only [gName]
          refine ⟨_, rfl, a, _, _, _, rfl, rfl, t2.sq hs, rfl, _, rfl, b, _, _, _, rfl, rfl, t2.sq hb, atI_nat ez, _, rfl, ca, _, _, _, rfl, rfl, t2.sq hca, rfl, _, rfl, cb, _, _, _, rfl, rfl, t2.sq hcb, atI_nat ey, _, rfl, ?_⟩
          refine ⟨L, z, y, kinds, ps[j], fs.list[j], ccs[j], ys, cs2, rfl, hK, hz.to t2, hy.to t2, hf1, hc1, by omega, eL, hys, by omega, fun ys' cs3 H3 b3 eL3 hys3 hyl3 hfd3 => ⟨_, rfl, ?_⟩⟩
          have ed1 : fs.list.drop j = fs.list[j] :: fs.list.drop (j + 1) := List.drop_eq_getElem_cons hjf
          have ed2 : ccs.drop j = ccs[j] :: ccs.drop (j + 1) := List.drop_eq_getElem_cons hjc
          rw [ed1, ed2, Forms.of, takesL] at htk
          rw [ed1, ed2, Forms.of, foundL] at hfd
          generalize hb0 : takes fs.list[j] ccs[j] = bb at *
          cases bb with
          | false =>
            refine iteT ?_
            rw [Bool.false_and] at htk
            have := kk ys' cs3 H3 (b2.trans b3) eL3 hys3 (by omega) (fun h => by rw [takes, htk] at h; simp at h)
            rw [takes, htk, Bool.and_false] at this
            exact this
          | true =>
            refine iteF ⟨_, ys', cs3, rfl, b2.trans b3, eL3, hys3, by omega, ?_, fun h => ?_⟩
            · rw [htk, Bool.true_and]
            · rw [hfd3 rfl, List.append_assoc]
              exact hfd h
        · rintro σ H2 ⟨x3, ys, cs2, rfl, b2, eL, hys, hyl, htk, hfd⟩
          rw [lws, List.drop_length, Forms.of, takesL] at htk
          rw [lws, List.drop_length, Forms.of, foundL, List.append_nil] at hfd
          have h6 : ws.length * 4 ^ k ≤ 3 * 4 ^ k := Nat.mul_le_mul_right _ (by omega)
          have h7 : 4 ^ (k + 1) = 4 ^ k * 4 := Nat.pow_succ ..
          have := kk ys cs2 H2 b2 eL hys (by omega) (fun _ => by rw [found]; exact hfd htk)
          rw [takes, htk, show decide ((m : Int) = (m : Int)) = true from decide_eq_true rfl, Bool.true_and] at this
          exact this
      · refine isNT (fun z => hm (by injection z with z; omega)) ?_
        have := kk xs cs H (fun b o e _ => e) hL hxs (Nat.le_add_right _ _) (fun h => by
          rw [takes] at h
          simp only [Bool.and_eq_true, decide_eq_true_eq] at h
          exact absurd h.1 (by omega))
        rw [takes, decide_eq_false (by omega), Bool.false_and] at this
        exact this
theorem ok_taken (T : Txt K mg) : ∀ n, FnOk P w K mg base CX0 (n + 2) T.f__law_taken T.fd__law_taken ["form", "cell", "found"] (spTaken K n)
  | 0 => ok_taken0 T 0 (sp' := spNo) (T.F__law_taken.ok sc__law_taken (fun vs H Q E h => h.elim) (fun cdv A outer sh H vs Q E hr h => h.elim)) (fun m e => by cases e)
  | f + 1 => ok_taken0 T (f + 1) (ok_taken T f) (fun m e => by cases e; rfl)
end
end K87

set_option Elab.async false
set_option linter.all false
set_option maxRecDepth 100000
set_option maxHeartbeats 4000000
namespace K87
open PySem PySem.Spec PyProof.Rows L2 Ru Rp Mch
theorem armsK_mem {N : Type} {kinds : Kinds} {dkn : N → List Nat → Nat → Prop} {G : List Nat} {kk k : Nat} : ∀ {as : Arms N}, ArmsK kinds dkn as G kk k → ∀ p ∈ as.list, FormK kinds p.1 kk ∧ ToldK kinds dkn p.2 (G ++ boundK kinds p.1 kk) k
  | .nil, _, p, hp => by simp [Arms.list] at hp
  | .cons f t r, h, p, hp => by
    rw [ArmsK] at h
    rw [Arms.list] at hp
    rcases List.mem_cons.mp hp with rfl | hp
    · exact ⟨h.1, h.2.1⟩
    · exact armsK_mem h.2.2 p hp
theorem Arms.of_of {N : Type} : ∀ (as : Arms N), Arms.of as.list = as
  | .nil => rfl
  | .cons f t r => by rw [Arms.list, Arms.of, Arms.of_of r]
theorem Tolds.of_of {N : Type} : ∀ (as : Tolds N), Tolds.of as.list = as
  | .nil => rfl
  | .cons t r => by rw [Tolds.list, Tolds.of, Tolds.of_of r]
theorem toldsK_at {N : Type} {kinds : Kinds} {dkn : N → List Nat → Nat → Prop} {G : List Nat} : ∀ {ps : Tolds N} {ks : List Nat} {i : Nat} {t : Told N}, ToldsK kinds dkn ps G ks → ps.list[i]? = some t → ∃ k, ks[i]? = some k ∧ ToldK kinds dkn t G k
  | .nil, ks, i, t, h, e => by simp [Tolds.list] at e
  | .cons a r, ks, i, t, h, e => by
    rw [ToldsK] at h
    obtain ⟨k, q, rfl, h1, h2⟩ := h
    cases i with
    | zero =>
      have e' : a = t := by simpa [Tolds.list] using e
      subst e'
      exact ⟨k, rfl, h1⟩
    | succ i => exact toldsK_at (i := i) h2 (by simpa [Tolds.list] using e)
theorem cellK_lt {kinds : Kinds} (h : KindsOk kinds) {c : Cell} {k : Nat} (hc : CellK kinds c k) : k < 4 := by
  obtain ⟨n, cs⟩ := c
  obtain ⟨m, ps, _, e, _⟩ := cellK_mk.mp hc
  unfold partsOf at e
  have hl := h.len
  by_cases hk : k < kinds.length
  · omega
  · rw [List.getElem?_eq_none (by omega)] at e
    cases e
theorem worth_ok {N : Type} {kinds : Kinds} {dk : N → List Nat → Nat → Prop} {D : N → List Cell → Option Cell} (h0 : kinds[0]? = some [[], []]) (hD : ∀ f gs k cs, dk f gs k → CellsK kinds cs gs → ∃ v, D f cs = some v ∧ CellK kinds v k) (hd4 : ∀ c k, CellK kinds c k → c.depth ≤ 100)
    {t : Told N} {G : List Nat} {k : Nat} {env : List Cell} (ht : ToldK kinds dk t G k) (he : CellsK kinds env G) : ∃ v, worth D t env = some v ∧ CellK kinds v k := by
  obtain ⟨v, _, h1, h2, _⟩ := compile_ok h0 hD hd4 ht he
  exact ⟨v, h1, h2⟩
section
variable {P : Program} {w : World} {K : PySem.W.Frag} {mg : Str → Option Value} {base : Heap}
abbrev N__law_worth : List Str := ["told", "env", "kinds", "defs", "word", "chosen", "equal", "cell", "arm", "found", "cells", "one"]
theorem sc__law_worth : FnScope N__law_worth ["told", "env", "kinds", "defs"] (defScope s__law_worth) := ⟨rfl, rfl, rfl, by decide +kernel, rfl, by decide +kernel, by decide +kernel⟩
theorem worths_of {N : Type} {D : N → List Cell → Option Cell} {env : List Cell} : ∀ {ps : Tolds N} {xs : List Cell}, ps.list.length = xs.length → (∀ (i : Nat) t x, ps.list[i]? = some t → xs[i]? = some x → worth D t env = some x) → worths D ps env = some xs
  | .nil, [], _, _ => by rw [worths]
  | .nil, _ :: _, h, _ => by simp [Tolds.list] at h
  | .cons _ _, [], h, _ => by simp [Tolds.list] at h
  | .cons t r, x :: q, h, g => by
    rw [worths, g 0 t x rfl rfl, worths_of (by simpa [Tolds.list] using h) fun i t x h1 h2 => g (i + 1) t x (by simpa [Tolds.list] using h1) (by simpa using h2)]
    rfl
theorem toldsK_len2 {N : Type} {kinds : Kinds} {dkn : N → List Nat → Nat → Prop} {G : List Nat} {ps : Tolds N} {ks : List Nat} (h : ToldsK kinds dkn ps G ks) : ps.list.length = ks.length := by
  rw [← Tolds.of_of ps] at h
  exact toldsK_len h
structure WAsk (K : PySem.W.Frag) (H : Hp) (dk le : Addr) (v vd : V) (kinds : Kinds) (defs : List Df) (G : List Nat) (env : List Cell) (evs : List V) (n : Nat) : Prop where
  kat : KindsAt H dk v kinds
  ok : KindsOk kinds
  dfs : DfsAt K H dk vd defs
  dok : DefsOk defs
  ek : CellsK kinds env G
  el : H le = some (.lst evs)
  ec : CellsAt K H evs env
  len : env.length + 300 * n ≤ 100000
theorem WAsk.same {K : PySem.W.Frag} {H H' : Hp} {dk le : Addr} {v vd : V} {kinds : Kinds} {defs : List Df} {G : List Nat} {env : List Cell} {evs : List V} {n m : Nat} (h : WAsk K H dk le v vd kinds defs G env evs n) (s : Same H H') (hm : m ≤ n) : WAsk K H' dk le v vd kinds defs G env evs m :=
  ⟨h.kat.to (but1_same s), h.ok, h.dfs.to (TEx.of_same s) (but1_same s), h.dok, h.ek, s _ _ h.el, h.ec.to (TEx.of_same s), by have := h.len; omega⟩
theorem WAsk.more {K : PySem.W.Frag} {H : Hp} {dk le L : Addr} {v vd : V} {kinds : Kinds} {defs : List Df} {G gs : List Nat} {env cs : List Cell} {evs vs : List V} {n : Nat} (h : WAsk K H dk le v vd kinds defs G env evs (n + 1)) (hL : H L = some (.lst (evs ++ vs))) (hc : CellsAt K H vs cs) (hk : CellsK kinds cs gs) (hl : cs.length ≤ 256) : WAsk K H dk L v vd kinds defs (G ++ gs) (env ++ cs) (evs ++ vs) n :=
  ⟨h.kat, h.ok, h.dfs, h.dok, cellsK_append h.ek hk, hL, cells_append h.ec hc, by have := h.len; rw [List.length_append]; omega⟩
def spWorth (K : PySem.W.Frag) (n : Nat) : Sp := fun vs H Q _ => ∃ (dk le : Addr) (u v vd : V) (kinds : Kinds) (defs : List Df) (G : List Nat) (env : List Cell) (evs : List V) (t : Told Nm) (k : Nat), vs = [u, .ref le, v, vd] ∧ WAsk K H dk le v vd kinds defs G env evs n ∧ TrAt K H u (toldT t) ∧ Tr.fit n (toldT t) ∧ ToldK kinds (dkOf defs) t G k ∧
  ∀ (u' : V) (x : Cell) (H' : Hp), Same H H' → worth (doesF kinds defs) t env = some x → CellAt K H' u' x → CellK kinds x k → Q u' H'
theorem ok_worth0 (T : Txt K mg) (n : Nat) {sp' : Sp} (G__law_worth : FnOk P w K mg base CX0 (n + 7) T.f__law_worth T.fd__law_worth ["told", "env", "kinds", "defs"] sp') (hsp : ∀ g, n = g + 1 → sp' = spWorth K g) : FnOk P w K mg base CX0 (n + 8) T.f__law_worth T.fd__law_worth ["told", "env", "kinds", "defs"] (spWorth K n) := by
  refine T.F__law_worth.ok sc__law_worth (fun vs H Q E h => ?_) (fun cdv A outer sh H vs Q E hr h => ?_)
  · obtain ⟨dk, le, u, v, vd, kinds, defs, G, env, evs, t, k, rfl, _⟩ := h
    rfl
  · obtain ⟨dk, le, u, v, vd, kinds, defs, G, env, evs, t, k, rfl, hA, hu, hfit, htk, kk⟩ := h
    have nd := sc__law_worth.nd
    have hr__law_worth : Room (n + 7) _ := hr
    have G__law_taken : FnOk P w K mg base CX0 (n + 2) T.f__law_taken T.fd__law_taken ["form", "cell", "found"] (spTaken K n) := ok_taken T n
    have hr__law_taken : Room (n + 2) _ := hr.mono (by omega)
    have G__law_does : FnOk P w K mg base CX0 7 T.f__law_does T.fd__law_does ["kinds", "defs", "module", "name", "cells"] (spDoes K) := ok_does T
    have hr__law_does : Room 7 _ := hr.mono (by omega)
    have hum : (A.deeper (envOfC (Str.ofString "_law_worth") (defScope s__law_worth) sh.heap.objs.size T.f__law_worth cdv)).units + 100 < cLine := by have := hr.un; omega
    refine ⟨_, (pss_cons (ps_set (i := 4) nd rfl (Or.inl rfl) (pe_ix ix_tup (pv 0) pe_int (fun _ _ => rfl)))
          (pss_cons (ps_if (pt_cmpR op_eq (pv 4) pe_str (nomark _))
            (pss_one (ps_ret (pe_ix ix_list (pv 1) (pe_ix ix_tup (pv 0) pe_int (fun _ _ => rfl)) (fun _ _ => rfl))))
            pss_nil)
          (pss_cons (ps_if (pt_cmpR op_eq (pv 4) pe_str (nomark _))
            (pss_one (ps_ret (pe_call G__law_worth hr__law_worth rfl T.g__law_worth T.k__law_worth T.b__law_worth .nil pass0 (pa_cons (pe_ix ix_tup (pv 0) pe_int (fun _ _ => rfl)) (pa_cons (pe_op op_cat (pv 1) (pe_lst (pa_cons (pe_call G__law_worth hr__law_worth rfl T.g__law_worth T.k__law_worth T.b__law_worth .nil pass0 (pa_cons (pe_ix ix_tup (pv 0) pe_int (fun _ _ => rfl)) (pa_cons (pv 1) (pa_cons (pv 2) (pa_cons (pv 3) pa_nil))))) pa_nil))) (pa_cons (pv 2) (pa_cons (pv 3) pa_nil)))))))
            pss_nil)
          (pss_cons (ps_if (pt_cmpR op_eq (pv 4) pe_str (nomark _))
            (pss_cons (ps_set (i := 5) nd rfl (Or.inl rfl) (pe_ifExp (pt_cmpR op_eq (pe_ix ix_tup (pe_call G__law_worth hr__law_worth rfl T.g__law_worth T.k__law_worth T.b__law_worth .nil pass0 (pa_cons (pe_ix ix_tup (pv 0) pe_int (fun _ _ => rfl)) (pa_cons (pv 1) (pa_cons (pv 2) (pa_cons (pv 3) pa_nil))))) pe_int (fun _ _ => rfl)) pe_int (nomark _)) (pe_ix ix_tup (pv 0) pe_int (fun _ _ => rfl)) (pe_ix ix_tup (pv 0) pe_int (fun _ _ => rfl))))
            (pss_one (ps_ret (pe_call G__law_worth hr__law_worth rfl T.g__law_worth T.k__law_worth T.b__law_worth .nil pass0 (pa_cons (pv 5) (pa_cons (pv 1) (pa_cons (pv 2) (pa_cons (pv 3) pa_nil))))))))
            pss_nil)
          (pss_cons (ps_if (pt_cmpR op_eq (pv 4) pe_str (nomark _))
            (pss_cons (ps_set (i := 6) nd rfl (Or.inl rfl) (pe_cmpR (op_eqM hum) (pe_call G__law_worth hr__law_worth rfl T.g__law_worth T.k__law_worth T.b__law_worth .nil pass0 (pa_cons (pe_ix ix_tup (pv 0) pe_int (fun _ _ => rfl)) (pa_cons (pv 1) (pa_cons (pv 2) (pa_cons (pv 3) pa_nil))))) (pe_call G__law_worth hr__law_worth rfl T.g__law_worth T.k__law_worth T.b__law_worth .nil pass0 (pa_cons (pe_ix ix_tup (pv 0) pe_int (fun _ _ => rfl)) (pa_cons (pv 1) (pa_cons (pv 2) (pa_cons (pv 3) pa_nil))))) (nomark _)))
            (pss_one (ps_ret (pe_tup (pa_cons (pe_ifExp (pt_val (pv 6)) pe_int pe_int) (pa_cons (pe_tup pa_nil) pa_nil))))))
            pss_nil)
          (pss_cons (ps_if (pt_cmpR op_eq (pv 4) pe_str (nomark _))
            (pss_cons (ps_set (i := 7) nd rfl (Or.inl rfl) (pe_call G__law_worth hr__law_worth rfl T.g__law_worth T.k__law_worth T.b__law_worth .nil pass0 (pa_cons (pe_ix ix_tup (pv 0) pe_int (fun _ _ => rfl)) (pa_cons (pv 1) (pa_cons (pv 2) (pa_cons (pv 3) pa_nil))))))
            (pss_cons (ps_for PassesOwn.never rfl (pi_tup (pe_ix ix_tup (pv 0) pe_int (fun _ _ => rfl))) (pg_name (i := 8) nd rfl (Or.inl rfl))
              (pss_cons (ps_set (i := 9) nd rfl (Or.inl rfl) (pe_lst pa_nil))
              (pss_one (ps_if (pt_val (pe_call G__law_taken hr__law_taken rfl T.g__law_taken T.k__law_taken T.b__law_taken .nil pass0 (pa_cons (pe_ix ix_tup (pv 8) pe_int (fun _ _ => rfl)) (pa_cons (pv 7) (pa_cons (pv 9) pa_nil)))))
                (pss_one (ps_ret (pe_call G__law_worth hr__law_worth rfl T.g__law_worth T.k__law_worth T.b__law_worth .nil pass0 (pa_cons (pe_ix ix_tup (pv 8) pe_int (fun _ _ => rfl)) (pa_cons (pe_op op_cat (pv 1) (pv 9)) (pa_cons (pv 2) (pa_cons (pv 3) pa_nil)))))))
                pss_nil))))
            (pss_one (ps_ret pe_non))))
            pss_nil)
          (pss_cons (ps_set (i := 10) nd rfl (Or.inl rfl) (pe_callTy call_tuple_of (by rfl) T.z_tuple (by decide +kernel) (pa_cons (pe_lc (own := [("one", 11)]) (g := gName 11) (tt := tYes) rfl nd (pi_tup (pe_ix ix_tup (pv 0) pe_int (fun _ _ => rfl))) (blkOk_by (own := [("one", 11)]) (N := N__law_worth) (sc := defScope s__law_worth) (by decide +kernel)) (fun _ _ _ _ _ => pg_name (i := 11) nd rfl (Or.inl rfl)) (fun _ _ _ _ _ => pts_nil) (fun _ _ _ _ _ => (pe_call G__law_worth hr__law_worth rfl T.g__law_worth T.k__law_worth T.b__law_worth .nil pass0 (pa_cons (pv 11) (pa_cons (pv 1) (pa_cons (pv 2) (pa_cons (pv 3) pa_nil))))))) pa_nil)))
          (pss_cons (ps_if (pt_cmpR op_eq (pv 4) pe_str (nomark _))
            (pss_one (ps_ret (pe_tup (pa_cons (pe_ix ix_tup (pv 0) pe_int (fun _ _ => rfl)) (pa_cons (pv 10) pa_nil)))))
            pss_nil)
          (pss_one (ps_ret (pe_call G__law_does hr__law_does rfl T.g__law_does T.k__law_does T.b__law_does .nil pass0 (pa_cons (pv 2) (pa_cons (pv 3) (pa_cons (pe_ix ix_tup (pv 0) pe_int (fun _ _ => rfl)) (pa_cons (pe_ix ix_tup (pv 0) pe_int (fun _ _ => rfl)) (pa_cons (pv 10) pa_nil)))))))))))))))), ?_⟩
    have D_ok := fun f gs k cs => does_ok hA.ok hA.dok.names (fun d hd => (hA.dok.kinds d hd).1) f gs k cs
    have wok : ∀ {t : Told Nm} {G : List Nat} {k : Nat} {env : List Cell}, ToldK kinds (dkOf defs) t G k → CellsK kinds env G → ∃ x, worth (doesF kinds defs) t env = some x ∧ CellK kinds x k := fun ht he => worth_ok hA.ok.zero D_ok (fun c k h => by have h1 := cellK_depth hA.ok c k h; have h2 := cellK_lt hA.ok h; omega) ht he
    have hrec : ∀ (g : Nat), n = g + 1 → ∀ (t' : Told Nm) (u' : V) (le' : Addr) (G' : List Nat) (env' : List Cell) (evs' : List V) (k' : Nat) (H' : Hp) (Q' : VK) (E' : XK), WAsk K H' dk le' v vd kinds defs G' env' evs' g → TrAt K H' u' (toldT t') → Tr.fit g (toldT t') → ToldK kinds (dkOf defs) t' G' k' →
        (∀ (x : Cell), worth (doesF kinds defs) t' env' = some x → CellK kinds x k' → ∀ (u2 : V) (H2 : Hp), Same H' H2 → CellAt K H2 u2 x → Q' u2 H2) → sp' [u', .ref le', v, vd] H' Q' E' := by
      intro g hg t' u' le' G' env' evs' k' H' Q' E' hA' hu' hf' ht' kk'
      subst hg
      cases hsp g rfl
      exact ⟨dk, le', u', v, vd, kinds, defs, G', env', evs', t', k', rfl, hA', hu', hf', ht', fun u2 x H2 s2 e2 hc2 hk2 => kk' x e2 hk2 u2 H2 s2 hc2⟩
    have hle := hA.len
    have lev := cells_len hA.ec
    cases t with
    | loc i =>
      obtain ⟨a, vs, rfl, ha, hvs⟩ := tr_t.mp hu
      obtain ⟨v0, q0, rfl, g0, r0⟩ := trs_cons.mp hvs
      obtain ⟨v1, q1, rfl, g1, r1⟩ := trs_cons.mp r0
      obtain rfl := tr_s.mp g0
      obtain rfl := tr_i.mp g1
      obtain rfl := trs_nil.mp r1
      rw [ToldK] at htk
      obtain ⟨c, ec, hck⟩ := cellsK_get hA.ek htk
      obtain ⟨y, ey, hy⟩ := cells_get hA.ec ec
      refine ⟨_, rfl, a, _, _, _, rfl, rfl, ha, rfl, ?_⟩
      dsimp only [gName]
      exact ⟨_, rfl, rfl, _, rfl, isT rfl ⟨_, rfl, _, rfl, a, _, _, _, rfl, rfl, ha, rfl, le, evs, _, _, rfl, rfl, SqL.of hA.el, atI_nat ey, kk y c H (Same.refl H) (by rw [worth]; exact ec) hy hck⟩⟩
    | letT t1 t2 =>
      obtain ⟨g, rfl, _, hfc⟩ := fit_inv (by rw [toldT] at hfit; exact hfit)
      obtain ⟨a, vs, rfl, ha, hvs⟩ := tr_t.mp hu
      obtain ⟨v0, q0, rfl, g0, r0⟩ := trs_cons.mp hvs
      obtain ⟨v1, q1, rfl, g1, r1⟩ := trs_cons.mp r0
      obtain ⟨v2, q2, rfl, g2, r2⟩ := trs_cons.mp r1
      obtain rfl := tr_s.mp g0
      obtain rfl := trs_nil.mp r2
      rw [ToldK] at htk
      obtain ⟨ka, hk1, hk2⟩ := htk
      obtain ⟨x1, ex1, cx1⟩ := wok hk1 hA.ek
      refine ⟨_, rfl, a, _, _, _, rfl, rfl, ha, rfl, ?_⟩
      dsimp only [gName]
      refine ⟨_, rfl, rfl, _, rfl, isF (nstr (by decide +kernel)) ⟨_, rfl, rfl, _, rfl, isT rfl ?_⟩⟩
      refine ⟨_, rfl, a, _, _, _, rfl, rfl, ha, rfl, _, rfl, _, rfl, a, _, _, _, rfl, rfl, ha, rfl, _, rfl, _, rfl, _, rfl, ?_⟩
      refine hrec g rfl t1 v1 le G env evs ka H _ _ (hA.same (Same.refl H) (by omega)) g1 (hfc _ (by simp)) hk1 fun y1 ey1 ck1 u1 H1 s1 hc1 => ?_
      refine ⟨sl_le (by show 1 ≤ 10000000; decide), fun p hp => ?_⟩
      have s2 := same_new (o := .lst [u1]) hp
      refine ⟨le, p, evs, _, rfl, rfl, s2 _ _ (s1 _ _ hA.el), upd_same, sl_le (by show evs.length + 1 ≤ 10000000; omega), fun L hL => ?_⟩
      have s3 := same_new (o := .lst (evs ++ [u1])) hL
      have s13 := s1.trans (s2.trans s3)
      refine ⟨_, rfl, _, rfl, ?_⟩
      refine hrec g rfl t2 v2 L (G ++ [ka]) (env ++ [y1]) _ k _ _ _ ((hA.same s13 (Nat.le_refl _)).more upd_same (cells_one ((hc1.to (TEx.of_same (s2.trans s3))))) (cellsK_one ck1) (by simp)) (g2.same s13) (hfc _ (by simp)) hk2 fun y2 ey2 ck2 u2 H2 s4 hc2 => ?_
      exact kk u2 y2 H2 (s13.trans s4) (by rw [worth, ey1]; exact ey2) hc2 ck2
    | ifT t1 t2 t3 =>
      obtain ⟨g, rfl, _, hfc⟩ := fit_inv (by rw [toldT] at hfit; exact hfit)
      obtain ⟨a, vs, rfl, ha, hvs⟩ := tr_t.mp hu
      obtain ⟨v0, q0, rfl, g0, r0⟩ := trs_cons.mp hvs
      obtain ⟨v1, q1, rfl, g1, r1⟩ := trs_cons.mp r0
      obtain ⟨v2, q2, rfl, g2, r2⟩ := trs_cons.mp r1
      obtain ⟨v3, q3, rfl, g3, r3⟩ := trs_cons.mp r2
      obtain rfl := tr_s.mp g0
      obtain rfl := trs_nil.mp r3
      rw [ToldK] at htk
      obtain ⟨hk1, hk2, hk3⟩ := htk
      refine ⟨_, rfl, a, _, _, _, rfl, rfl, ha, rfl, ?_⟩
      dsimp only [gName]
      refine ⟨_, rfl, rfl, _, rfl, isF (nstr (by decide +kernel)) ⟨_, rfl, rfl, _, rfl, isF (nstr (by decide +kernel)) ⟨_, rfl, rfl, _, rfl, isT rfl ?_⟩⟩⟩
      refine ⟨_, rfl, a, _, _, _, rfl, rfl, ha, rfl, _, rfl, _, rfl, _, rfl, ?_⟩
      refine hrec g rfl t1 v1 le G env evs 0 H _ _ (hA.same (Same.refl H) (by omega)) g1 (hfc _ (by simp)) hk1 fun y1 ey1 ck1 u1 H1 s1 hc1 => ?_
      obtain ⟨n1, cs1⟩ := y1
      obtain ⟨ca, cb, cvs, rfl, hca, hcb, hcvs⟩ := cellAt_mk.mp hc1
      have ha1 := sqt_same s1 ha
      have fin : ∀ (t' : Told Nm) (v' : V), TrAt K H v' (toldT t') → Tr.fit g (toldT t') → ToldK kinds (dkOf defs) t' G k → worth (doesF kinds defs) (.ifT t1 t2 t3) env = worth (doesF kinds defs) t' env → sp' [v', .ref le, v, vd] H1 Q E0 := fun t' v' h1 h2 h3 h4 =>
        hrec g rfl t' v' le G env evs k H1 _ _ (hA.same s1 (by omega)) (h1.same s1) h2 h3 fun y2 ey2 ck2 u2 H2 s4 hc2 => kk u2 y2 H2 (s1.trans s4) (by rw [h4]; exact ey2) hc2 ck2
      refine ⟨ca, _, _, _, rfl, rfl, hca, rfl, rfl, _, rfl, ?_⟩
      by_cases hn : n1 = 1
      · refine isT (by rw [hn]) ⟨_, rfl, a, _, _, _, rfl, rfl, ha1, rfl, ?_⟩
        refine ⟨_, rfl, _, rfl, _, rfl, _, rfl, fin t2 v2 g2 (hfc _ (by simp)) hk2 ?_⟩
        rw [worth, ey1]
        exact if_pos hn
      · refine isF (fun z => hn (by injection z)) ⟨_, rfl, a, _, _, _, rfl, rfl, ha1, rfl, ?_⟩
        refine ⟨_, rfl, _, rfl, _, rfl, _, rfl, fin t3 v3 g3 (hfc _ (by simp)) hk3 ?_⟩
        rw [worth, ey1]
        exact if_neg hn
    | same kk1 t1 t2 =>
      obtain ⟨g, rfl, _, hfc⟩ := fit_inv (by rw [toldT] at hfit; exact hfit)
      obtain ⟨a, vs, rfl, ha, hvs⟩ := tr_t.mp hu
      obtain ⟨v0, q0, rfl, g0, r0⟩ := trs_cons.mp hvs
      obtain ⟨v1, q1, rfl, g1, r1⟩ := trs_cons.mp r0
      obtain ⟨v2, q2, rfl, g2, r2⟩ := trs_cons.mp r1
      obtain ⟨v3, q3, rfl, g3, r3⟩ := trs_cons.mp r2
      obtain rfl := tr_s.mp g0
      obtain rfl := trs_nil.mp r3
      rw [ToldK] at htk
      obtain ⟨rfl, hk1, hk2⟩ := htk
      refine ⟨_, rfl, a, _, _, _, rfl, rfl, ha, rfl, ?_⟩
      dsimp only [gName]
      refine ⟨_, rfl, rfl, _, rfl, isF (nstr (by decide +kernel)) ⟨_, rfl, rfl, _, rfl, isF (nstr (by decide +kernel)) ⟨_, rfl, rfl, _, rfl, isF (nstr (by decide +kernel)) ⟨_, rfl, rfl, _, rfl, isT rfl ?_⟩⟩⟩⟩
      refine ⟨_, rfl, a, _, _, _, rfl, rfl, ha, rfl, _, rfl, _, rfl, _, rfl, ?_⟩
      refine hrec g rfl t1 v2 le G env evs kk1 H _ _ (hA.same (Same.refl H) (by omega)) g2 (hfc _ (by simp)) hk1 fun y1 ey1 ck1 u1 H1 s1 hc1 => ?_
      refine ⟨_, rfl, a, _, _, _, rfl, rfl, sqt_same s1 ha, rfl, _, rfl, _, rfl, _, rfl, ?_⟩
      refine hrec g rfl t2 v3 le G env evs kk1 H1 _ _ (hA.same s1 (by omega)) (g3.same s1) (hfc _ (by simp)) hk2 fun y2 ey2 ck2 u2 H2 s2 hc2 => ?_
      have d1 := cell_depth y1
      have d2 := cellK_depth hA.ok y1 kk1 ck1
      have k4 := cellK_lt hA.ok ck1
      refine ⟨_, _, cell_dp y1 u1 (hc1.to (TEx.of_same s2)), cell_dp y2 u2 hc2, cell_can _, cell_can _, by omega, ?_⟩
      rw [cell_eqv]
      have hb := bool_kind (kinds := kinds) hA.ok.zero (y1.eqb y2)
      have hw : worth (doesF kinds defs) (.same kk1 t1 t2) env = some (boolC (y1.eqb y2)) := by
        rw [worth, ey1, Option.bind_some, ey2]
        rfl
      have s12 := s1.trans s2
      generalize y1.eqb y2 = b at *
      have fin : ∀ n : Int, (.mk n [] : Cell) = boolC b → ∀ p q, H2 p = none → upd H2 p (.tup []) q = none → Q (.ref q) (upd (upd H2 p (.tup [])) q (.tup [.int n, .ref p])) := by
        intro n hn p q hp hq
        have s3 := same_new (o := .tup []) hp
        have s4 := same_new (o := .tup [.int n, .ref p]) hq
        refine kk (.ref q) (.mk n []) _ (s12.trans (s3.trans s4)) (by rw [hn]; exact hw) (cellAt_mk.mpr ⟨q, p, [], rfl, SqT.of upd_same, SqT.of (s4 _ _ upd_same), cells_nil.mpr rfl⟩) (by rw [hn]; exact hb)
      cases b with
      | false => exact ⟨_, rfl, _, rfl, iteF ⟨sl_le (by show 0 ≤ 10000000; decide), fun p hp => ⟨sl_le (by show 2 ≤ 10000000; decide), fun q hq => fin 0 rfl p q hp hq⟩⟩⟩
      | true => exact ⟨_, rfl, _, rfl, iteT ⟨sl_le (by show 0 ≤ 10000000; decide), fun p hp => ⟨sl_le (by show 2 ≤ 10000000; decide), fun q hq => fin 1 rfl p q hp hq⟩⟩⟩
    | case kk1 t1 arms =>
      obtain ⟨xw, exw, cxw⟩ := wok htk hA.ek
      obtain ⟨g, rfl, _, hfc⟩ := fit_inv (by rw [toldT] at hfit; exact hfit)
      obtain ⟨a, vs, rfl, ha, hvs⟩ := tr_t.mp hu
      obtain ⟨v0, q0, rfl, g0, r0⟩ := trs_cons.mp hvs
      obtain ⟨v1, q1, rfl, g1, r1⟩ := trs_cons.mp r0
      obtain ⟨v2, q2, rfl, g2, r2⟩ := trs_cons.mp r1
      obtain ⟨v3, q3, rfl, g3, r3⟩ := trs_cons.mp r2
      obtain rfl := tr_s.mp g0
      obtain rfl := trs_nil.mp r3
      obtain ⟨b, bs, rfl, hb, hbs⟩ := tr_t.mp g3
      rw [ToldK] at htk
      obtain ⟨hk1, harm, _⟩ := htk
      have harm' := armsK_mem harm
      obtain ⟨g1', rfl, hlb, hfb⟩ := fit_inv (hfc (.t (armsT arms)) (by simp))
      have lbs := trs_len hbs
      rw [armsT_list, List.length_map] at lbs
      refine ⟨_, rfl, a, _, _, _, rfl, rfl, ha, rfl, ?_⟩
      dsimp only [gName]
      refine ⟨_, rfl, rfl, _, rfl, isF (nstr (by decide +kernel)) ⟨_, rfl, rfl, _, rfl, isF (nstr (by decide +kernel)) ⟨_, rfl, rfl, _, rfl, isF (nstr (by decide +kernel)) ⟨_, rfl, rfl, _, rfl, isF (nstr (by decide +kernel)) ⟨_, rfl, rfl, _, rfl, isT rfl ?_⟩⟩⟩⟩⟩
      refine ⟨_, rfl, a, _, _, _, rfl, rfl, ha, rfl, _, rfl, _, rfl, _, rfl, ?_⟩
      refine hrec _ rfl t1 v2 le G env evs kk1 H _ _ (hA.same (Same.refl H) (by omega)) g2 (hfc _ (by simp)) hk1 fun c ec ck uc H1 s1 hc1 => ?_
      have k4 := cellK_lt hA.ok ck
      dsimp only [gName]
      refine ⟨_, rfl, a, _, _, _, rfl, rfl, sqt_same s1 ha, rfl, b, rfl, ⟨_, sqt_same s1 hb⟩, for_tup (K := K) (a := b) (xs := bs) (fun i σ H' => ∃ (x8 x9 : Option V), σ = [some (.ref a), some (.ref le), some v, some vd, some (.str "case"), none, none, some uc, x8, x9, none, none] ∧ Same H H' ∧ CellAt K H' uc c ∧ worthArms (doesF kinds defs) arms c env = worthArms (doesF kinds defs) (Arms.of (arms.list.drop i)) c env) ⟨none, none, rfl, s1, hc1, by rw [List.drop_zero, Arms.of_of]⟩ (fun i σ H' _ ⟨_, _, _, s, _⟩ => sqt_same s hb) ?_ ?_⟩
      · rintro i y σ H2 hy ⟨x8, x9, rfl, s2, hc2, hwa⟩
        have hi : i < arms.list.length := by
          have := (List.getElem?_eq_some_iff.mp hy).1
          omega
        have e1 := List.getElem?_eq_getElem hi
        obtain ⟨c', ec', hyc⟩ := trs_get hbs hy
        rw [armsT_list, List.getElem?_map, e1] at ec'
        cases ec'
        have hmem := List.getElem_mem hi
        obtain ⟨hfk, htk2⟩ := harm' _ hmem
        obtain ⟨g2', hg2, _, hf2⟩ := fit_inv (hfb _ (by rw [armsT_list]; exact List.mem_map.mpr ⟨_, hmem, rfl⟩))
        have edrop : arms.list.drop i = arms.list[i] :: arms.list.drop (i + 1) := List.drop_eq_getElem_cons hi
        rw [edrop] at hwa
        generalize arms.list[i] = p at *
        obtain ⟨pf, pt⟩ := p
        obtain ⟨pa, pvs, rfl, hpa, hpvs⟩ := tr_t.mp hyc
        obtain ⟨w1, r1, rfl, k1, hr1⟩ := trs_cons.mp hpvs
        obtain ⟨w2, r2, rfl, k2, hr2⟩ := trs_cons.mp hr1
        obtain rfl := trs_nil.mp hr2
        dsimp only [gName]
        refine ⟨sl_le (by show 0 ≤ 10000000; decide), fun Lf hLf => ?_⟩
        have s3 := same_new (o := .lst []) hLf
        have s23 := s2.trans s3
        have hLfH : H Lf = none := by
          cases e : H Lf with
          | none => rfl
          | some o =>
            have := s2 _ _ e
            rw [hLf] at this
            cases this
        have h4 : 4 ^ (kk1 + 1) ≤ 4 ^ 4 := Nat.pow_le_pow_right (by omega) (by omega)
        have h5 : 4 ^ 4 = 256 := by decide
        dsimp only [gName]
        refine ⟨_, rfl, pa, _, _, _, rfl, rfl, sqt_same s23 hpa, rfl, _, rfl, _, rfl, ?_⟩
        refine ⟨Lf, w1, uc, kinds, kk1, pf, c, [], [], rfl, hA.ok, k1.same s23, hc2.to (TEx.of_same s3), hfk, ck, by have := (hf2 (formT pf) (by simp)).1; omega, upd_same, cells_nil.mpr rfl, by simp; omega, fun ys cs2 H3 b3 eLf hys lys hfd => ?_⟩
        have s4 : Same H H3 := fun q o e => b3 _ _ (s23 _ _ e) (ne_of_none e hLfH)
        have t4 : TEx (upd H2 Lf (.lst [])) H3 := TEx.but2 upd_same upd_same (fun b o e n _ => b3 b o e n)
        rw [Arms.of, worthArms] at hwa
        generalize hbb : takes pf c = bb at *
        cases bb with
        | false =>
          refine ⟨_, rfl, iteF ⟨_, _, rfl, s4, (hc2.to (TEx.of_same s3)).to t4, ?_⟩⟩
          rw [hwa]
          exact if_neg (by simp)
        | true =>
          have efd := hfd rfl
          rw [List.nil_append] at efd
          have lcs := cells_len hys
          rw [List.length_nil] at lys
          refine ⟨_, rfl, iteT ?_⟩
          refine ⟨_, rfl, pa, _, _, _, rfl, rfl, sqt_same s4 hpa, rfl, _, rfl, _, rfl, le, Lf, evs, ys, rfl, rfl, s4 _ _ hA.el, eLf, sl_le (by omega), fun L hL => ?_⟩
          have s5 := same_new (o := .lst (evs ++ ys)) hL
          have s45 := s4.trans s5
          refine ⟨_, rfl, _, rfl, ?_⟩
          refine hrec _ rfl pt w2 L (G ++ boundK kinds pf kk1) (env ++ cs2) _ k _ _ _ ((hA.same s45 (Nat.le_refl _)).more upd_same (hys.to (TEx.of_same s5)) (by rw [efd]; exact found_ok pf c kk1 hfk ck hbb) (by omega)) (k2.same s45) ((hf2 (toldT pt) (by simp)).mono (by omega)) htk2 fun x ex cx u2 H6 s6 hc6 => ?_
          refine kk u2 x H6 (s45.trans s6) ?_ hc6 cx
          rw [worth, ec, Option.bind_some, hwa, if_pos rfl, ← efd]
          exact ex
      · rintro σ H2 ⟨x8, x9, rfl, s2, hc2, hwa⟩
        rw [lbs, List.drop_length, Arms.of, worthArms] at hwa
        rw [worth, ec, Option.bind_some, hwa] at exw
        cases exw
    | call f ps =>
      obtain ⟨g, rfl, _, hfc⟩ := fit_inv (by rw [toldT] at hfit; exact hfit)
      obtain ⟨a, vs, rfl, ha, hvs⟩ := tr_t.mp hu
      obtain ⟨v0, q0, rfl, g0, r0⟩ := trs_cons.mp hvs
      obtain ⟨v1, q1, rfl, g1, r1⟩ := trs_cons.mp r0
      obtain ⟨v2, q2, rfl, g2, r2⟩ := trs_cons.mp r1
      obtain ⟨v3, q3, rfl, g3, r3⟩ := trs_cons.mp r2
      obtain rfl := tr_s.mp g0
      obtain rfl := tr_s.mp g1
      obtain rfl := tr_s.mp g2
      obtain rfl := trs_nil.mp r3
      obtain ⟨b, bs, rfl, hb, hbs⟩ := tr_t.mp g3
      rw [ToldK] at htk
      obtain ⟨gs, hdk, htk⟩ := htk
      obtain ⟨g1', rfl, hlb, hfb⟩ := fit_inv (hfc (.t (toldsT ps)) (by simp))
      refine ⟨_, rfl, a, _, _, _, rfl, rfl, ha, rfl, ?_⟩
      dsimp only [gName]
      refine ⟨_, rfl, rfl, _, rfl, isF (nstr (by decide +kernel)) ⟨_, rfl, rfl, _, rfl, isF (nstr (by decide +kernel)) ⟨_, rfl, rfl, _, rfl, isF (nstr (by decide +kernel)) ⟨_, rfl, rfl, _, rfl, isF (nstr (by decide +kernel)) ⟨_, rfl, rfl, _, rfl, isF (nstr (by decide +kernel)) ?_⟩⟩⟩⟩⟩
      dsimp only [tNext]
      refine seq_of (fun σ H' => ∃ (q : Addr) (ws : List V) (xs : List Cell), σ = [some (.ref a), some (.ref le), some v, some vd, some (.str "call"), none, none, none, none, none, some (.ref q), none] ∧ Same H H' ∧ SqT K H' q ws ∧ CellsAt K H' ws xs ∧ worths (doesF kinds defs) ps env = some xs ∧ CellsK kinds xs gs) (fun nx hnx => ?_) ?_
      · have lps := toldsK_len2 htk
        have hlb' : ps.list.length ≤ 1000 := by rw [toldsT_list, List.length_map] at hlb; exact hlb
        have lbs := trs_len hbs
        rw [toldsT_list, List.length_map] at lbs
        refine ⟨_, rfl, a, _, _, _, rfl, rfl, ha, rfl, b, rfl, ⟨_, hb⟩, fun D hD => lc_tup (K := K) (a := b) (xs := bs) (fun j H' => ∃ (ws : List V) (xs : List Cell), Same H H' ∧ H' D = some (.lst ws) ∧ CellsAt K H' ws xs ∧ xs.length = j ∧ (∀ (i : Nat) t x, ps.list[i]? = some t → xs[i]? = some x → worth (doesF kinds defs) t env = some x) ∧ CellsK kinds xs (gs.take j))
          ⟨[], [], same_new hD, upd_same, cells_nil.mpr rfl, rfl, fun i t x _ h => (by simp at h), by rw [List.take_zero]; exact cellsK_nil.mpr rfl⟩ (fun j H' _ ⟨_, _, s, _⟩ => sqt_same s hb) ?_ ?_⟩
        · rintro j y H2 hy ⟨ws, xs, s2, eD, hws, lx, hwx, hxk⟩
          have hj : j < ps.list.length := by
            have := (List.getElem?_eq_some_iff.mp hy).1
            omega
          have e1 := List.getElem?_eq_getElem hj
          obtain ⟨c, ec, hyc⟩ := trs_get hbs hy
          rw [toldsT_list, List.getElem?_map, e1] at ec
          cases ec
          obtain ⟨kj, ekj, htj⟩ := toldsK_at htk e1
          refine ⟨rfl, _, rfl, _, rfl, _, rfl, _, rfl, ?_⟩
          refine hrec _ rfl ps.list[j] y le G env evs kj H2 _ _ (hA.same s2 (by omega)) (hyc.same s2) ((hfb _ (by rw [toldsT_list]; exact List.mem_map.mpr ⟨_, List.getElem_mem hj, rfl⟩)).mono (by omega)) htj fun x ex cx u1 H3 s3 hc1 => ?_
          have eD3 := s3 _ _ eD
          have lws := cells_len hws
          have t4 := TEx.upd_lst (ys := ws ++ [u1]) eD3
          refine ⟨ws, eD3, sl_lt (by omega), ws ++ [u1], xs ++ [x], fun b o e => ?_, upd_same, cells_snoc ((hws.to (TEx.of_same s3)).to t4) (hc1.to t4), by rw [List.length_append, lx]; rfl, ?_, ?_⟩
          · rw [upd_ne (ne_of_none e hD)]
            exact s3 _ _ (s2 _ _ e)
          · intro i t' x' h1 h2
            by_cases hi : i < xs.length
            · rw [List.getElem?_append_left hi] at h2
              exact hwx i t' x' h1 h2
            · have hi' : i < (xs ++ [x]).length := (List.getElem?_eq_some_iff.mp h2).1
              rw [List.length_append, List.length_singleton] at hi'
              have : i = j := by omega
              subst this
              rw [e1] at h1
              cases h1
              rw [List.getElem?_append_right (by omega), show i - xs.length = 0 by omega] at h2
              cases h2
              exact ex
          · rw [List.take_succ, ekj]
            exact cellsK_append hxk (cellsK_one cx)
        · rintro H2 ⟨ws, xs, s2, eD, hws, lx, hwx, hxk⟩
          refine ⟨D, ws, rfl, .inl ⟨SqL.of eD, fun q hq => ?_⟩⟩
          have s3 := same_new (o := .tup ws) hq
          exact hnx _ _ ⟨q, ws, xs, rfl, s2.trans s3, SqT.of upd_same, hws.to (TEx.of_same s3), worths_of (by omega) hwx, by rw [show bs.length = gs.length by omega, List.take_length] at hxk; exact hxk⟩
      rintro σ H1 ⟨q, ws, xs, rfl, s1, hq, hws, hwx, hxk⟩
      refine ⟨_, rfl, rfl, _, rfl, isF (nstr (by decide +kernel)) ?_⟩
      obtain ⟨d, hd, hfe, rfl, rfl⟩ := hdk
      obtain ⟨hdk4, hgl, hg4⟩ := hA.dok.kinds d hd
      obtain ⟨x, ex, cx⟩ := D_ok f d.givens d.kind xs ⟨d, hd, hfe, rfl, rfl⟩ hxk
      have ha1 := sqt_same s1 ha
      have hdp := cellsK_depth hA.ok xs d.givens 4 hxk hg4
      have hsz := cellsK_size hA.ok xs d.givens 4 hxk hg4
      have h4 : d.givens.length * 4 ^ 4 ≤ 3 * 4 ^ 4 := Nat.mul_le_mul_right _ hgl
      refine ⟨_, rfl, _, rfl, _, rfl, a, _, _, _, rfl, rfl, ha1, rfl, _, rfl, a, _, _, _, rfl, rfl, ha1, rfl, _, rfl, dk, q, v, vd, kinds, defs, f.1, f.2, ws, xs, rfl, hA.kat.to (but1_same s1), hA.ok, hA.dfs.to (TEx.of_same s1) (but1_same s1), fun d' hd' => (hA.dok.kinds d' hd').1, hq, hws, hdp, by omega, fun u2 H2 s2 _ hx2 => ?_⟩
      exact kk u2 x H2 (s1.trans s2) (by rw [worth, hwx, Option.bind_some]; exact ex) (hx2 x ex) cx
    | make k1 m ps =>
      obtain ⟨g, rfl, _, hfc⟩ := fit_inv (by rw [toldT] at hfit; exact hfit)
      obtain ⟨a, vs, rfl, ha, hvs⟩ := tr_t.mp hu
      obtain ⟨v0, q0, rfl, g0, r0⟩ := trs_cons.mp hvs
      obtain ⟨v1, q1, rfl, g1, r1⟩ := trs_cons.mp r0
      obtain ⟨v2, q2, rfl, g2, r2⟩ := trs_cons.mp r1
      obtain ⟨v3, q3, rfl, g3, r3⟩ := trs_cons.mp r2
      obtain rfl := tr_s.mp g0
      obtain rfl := tr_i.mp g2
      obtain rfl := trs_nil.mp r3
      obtain ⟨b, bs, rfl, hb, hbs⟩ := tr_t.mp g3
      rw [ToldK] at htk
      obtain ⟨rfl, gs, epk, htk⟩ := htk
      obtain ⟨g1', rfl, hlb, hfb⟩ := fit_inv (hfc (.t (toldsT ps)) (by simp))
      refine ⟨_, rfl, a, _, _, _, rfl, rfl, ha, rfl, ?_⟩
      dsimp only [gName]
      refine ⟨_, rfl, rfl, _, rfl, isF (nstr (by decide +kernel)) ⟨_, rfl, rfl, _, rfl, isF (nstr (by decide +kernel)) ⟨_, rfl, rfl, _, rfl, isF (nstr (by decide +kernel)) ⟨_, rfl, rfl, _, rfl, isF (nstr (by decide +kernel)) ⟨_, rfl, rfl, _, rfl, isF (nstr (by decide +kernel)) ?_⟩⟩⟩⟩⟩
      dsimp only [tNext]
      refine seq_of (fun σ H' => ∃ (q : Addr) (ws : List V) (xs : List Cell), σ = [some (.ref a), some (.ref le), some v, some vd, some (.str "make"), none, none, none, none, none, some (.ref q), none] ∧ Same H H' ∧ SqT K H' q ws ∧ CellsAt K H' ws xs ∧ worths (doesF kinds defs) ps env = some xs ∧ CellsK kinds xs gs) (fun nx hnx => ?_) ?_
      · have lps := toldsK_len2 htk
        have hlb' : ps.list.length ≤ 1000 := by rw [toldsT_list, List.length_map] at hlb; exact hlb
        have lbs := trs_len hbs
        rw [toldsT_list, List.length_map] at lbs
        refine ⟨_, rfl, a, _, _, _, rfl, rfl, ha, rfl, b, rfl, ⟨_, hb⟩, fun D hD => lc_tup (K := K) (a := b) (xs := bs) (fun j H' => ∃ (ws : List V) (xs : List Cell), Same H H' ∧ H' D = some (.lst ws) ∧ CellsAt K H' ws xs ∧ xs.length = j ∧ (∀ (i : Nat) t x, ps.list[i]? = some t → xs[i]? = some x → worth (doesF kinds defs) t env = some x) ∧ CellsK kinds xs (gs.take j))
          ⟨[], [], same_new hD, upd_same, cells_nil.mpr rfl, rfl, fun i t x _ h => (by simp at h), by rw [List.take_zero]; exact cellsK_nil.mpr rfl⟩ (fun j H' _ ⟨_, _, s, _⟩ => sqt_same s hb) ?_ ?_⟩
        · rintro j y H2 hy ⟨ws, xs, s2, eD, hws, lx, hwx, hxk⟩
          have hj : j < ps.list.length := by
            have := (List.getElem?_eq_some_iff.mp hy).1
            omega
          have e1 := List.getElem?_eq_getElem hj
          obtain ⟨c, ec, hyc⟩ := trs_get hbs hy
          rw [toldsT_list, List.getElem?_map, e1] at ec
          cases ec
          obtain ⟨kj, ekj, htj⟩ := toldsK_at htk e1
          refine ⟨rfl, _, rfl, _, rfl, _, rfl, _, rfl, ?_⟩
          refine hrec _ rfl ps.list[j] y le G env evs kj H2 _ _ (hA.same s2 (by omega)) (hyc.same s2) ((hfb _ (by rw [toldsT_list]; exact List.mem_map.mpr ⟨_, List.getElem_mem hj, rfl⟩)).mono (by omega)) htj fun x ex cx u1 H3 s3 hc1 => ?_
          have eD3 := s3 _ _ eD
          have lws := cells_len hws
          have t4 := TEx.upd_lst (ys := ws ++ [u1]) eD3
          refine ⟨ws, eD3, sl_lt (by omega), ws ++ [u1], xs ++ [x], fun b o e => ?_, upd_same, cells_snoc ((hws.to (TEx.of_same s3)).to t4) (hc1.to t4), by rw [List.length_append, lx]; rfl, ?_, ?_⟩
          · rw [upd_ne (ne_of_none e hD)]
            exact s3 _ _ (s2 _ _ e)
          · intro i t' x' h1 h2
            by_cases hi : i < xs.length
            · rw [List.getElem?_append_left hi] at h2
              exact hwx i t' x' h1 h2
            · have hi' : i < (xs ++ [x]).length := (List.getElem?_eq_some_iff.mp h2).1
              rw [List.length_append, List.length_singleton] at hi'
              have : i = j := by omega
              subst this
              rw [e1] at h1
              cases h1
              rw [List.getElem?_append_right (by omega), show i - xs.length = 0 by omega] at h2
              cases h2
              exact ex
          · rw [List.take_succ, ekj]
            exact cellsK_append hxk (cellsK_one cx)
        · rintro H2 ⟨ws, xs, s2, eD, hws, lx, hwx, hxk⟩
          refine ⟨D, ws, rfl, .inl ⟨SqL.of eD, fun q hq => ?_⟩⟩
          have s3 := same_new (o := .tup ws) hq
          exact hnx _ _ ⟨q, ws, xs, rfl, s2.trans s3, SqT.of upd_same, hws.to (TEx.of_same s3), worths_of (by omega) hwx, by rw [show bs.length = gs.length by omega, List.take_length] at hxk; exact hxk⟩
      rintro σ H1 ⟨q, ws, xs, rfl, s1, hq, hws, hwx, hxk⟩
      refine ⟨_, rfl, rfl, _, rfl, isT rfl ?_⟩
      have ha1 := sqt_same s1 ha
      refine ⟨_, rfl, a, _, _, _, rfl, rfl, ha1, rfl, _, rfl, sl_le (by show 2 ≤ 10000000; decide), fun p hp => ?_⟩
      have s2 := same_new (o := .tup [.int (m : Int), .ref q]) hp
      exact kk (.ref p) (.mk (m : Int) xs) _ (s1.trans s2) (by rw [worth, hwx, Option.bind_some]) (cellAt_mk.mpr ⟨p, q, ws, rfl, SqT.of upd_same, sqt_same s2 hq, hws.to (TEx.of_same s2)⟩) (cellK_mk.mpr ⟨m, gs, rfl, epk, hxk⟩)
theorem ok_worth (T : Txt K mg) : ∀ n, FnOk P w K mg base CX0 (n + 8) T.f__law_worth T.fd__law_worth ["told", "env", "kinds", "defs"] (spWorth K n)
  | 0 => ok_worth0 T 0 (sp' := spNo) (T.F__law_worth.ok sc__law_worth (fun vs H Q E h => h.elim) (fun cdv A outer sh H vs Q E hr h => h.elim)) (fun m e => by cases e)
  | f + 1 => ok_worth0 T (f + 1) (ok_worth T f) (fun m e => by cases e; rfl)
end
end K87

set_option Elab.async false
set_option linter.all false
set_option maxRecDepth 100000
set_option maxHeartbeats 4000000
namespace K87
open PySem PySem.Spec PyProof.Rows L2 Ru Rp Mch
section
variable {P : Program} {w : World} {K : PySem.W.Frag} {mg : Str → Option Value} {base : Heap}
theorem ty_tup {K : PySem.W.Frag} {H : Hp} {a : Addr} {xs : List V} (h : SqT K H a xs) : TyX K H (.ref a) (.type "tuple") := by
  rcases h with (h | ⟨o, h⟩) | ⟨o, its, n, e, c, _⟩
  · exact .base (.tup h)
  · exact .fTuple h
  · exact .kTuple e c
abbrev N__law_anew : List Str := ["told", "one"]
theorem sc__law_anew : FnScope N__law_anew ["told"] (defScope s__law_anew) := ⟨rfl, rfl, rfl, by decide +kernel, rfl, by decide +kernel, by decide +kernel⟩
def spAnew (K : PySem.W.Frag) (n : Nat) : Sp := fun vs H Q _ => ∃ (u : V) (c : Tr), vs = [u] ∧ TrAt K H u c ∧ Tr.fit n c ∧ ∀ (u' : V) (H' : Hp), Same H H' → TrAt K H' u' c → Q u' H'
theorem ok_anew0 (T : Txt K mg) (n : Nat) {sp' : Sp} (G__law_anew : FnOk P w K mg base CX0 (n + 1) T.f__law_anew T.fd__law_anew ["told"] sp') (hsp : ∀ g, n = g + 1 → sp' = spAnew K g) : FnOk P w K mg base CX0 (n + 2) T.f__law_anew T.fd__law_anew ["told"] (spAnew K n) := by
  refine T.F__law_anew.ok sc__law_anew (fun vs H Q E h => ?_) (fun cdv A outer sh H vs Q E hr h => ?_)
  · obtain ⟨u, c, rfl, _⟩ := h
    rfl
  · obtain ⟨u, c, rfl, hu, hf, kk⟩ := h
    have nd := sc__law_anew.nd
    have hr__law_anew : Room (n + 1) _ := hr
    refine ⟨_, (pss_cons (ps_if (pt_val (pe_callB call_isi (by rfl) T.z_isinstance (by decide +kernel) (pa_cons (pv 0) (pa_cons (pe_bltn (v := .ty "tuple") (by rfl) T.z_tuple (by decide +kernel) rfl) pa_nil))))
            (pss_one (ps_ret (pe_callTy call_tuple_of (by rfl) T.z_tuple (by decide +kernel) (pa_cons (pe_lc (own := [("one", 1)]) (g := gName 1) (tt := tYes) rfl nd (pi_tup (pv 0)) (blkOk_by (own := [("one", 1)]) (N := N__law_anew) (sc := defScope s__law_anew) (by decide +kernel)) (fun _ _ _ _ _ => pg_name (i := 1) nd rfl (Or.inl rfl)) (fun _ _ _ _ _ => pts_nil) (fun _ _ _ _ _ => (pe_call G__law_anew hr__law_anew rfl T.g__law_anew T.k__law_anew T.b__law_anew .nil pass0 (pa_cons (pv 1) pa_nil)))) pa_nil))))
            pss_nil)
          (pss_one (ps_ret (pv 0)))), ?_⟩
    cases c with
    | i z =>
      obtain rfl := tr_i.mp hu
      exact ⟨_, rfl, _, _, _, _, false, rfl, .ty _, .base (.int z), kit_ty rfl, _, rfl, iteF ⟨_, rfl, kk _ H (Same.refl H) hu⟩⟩
    | s z =>
      obtain rfl := tr_s.mp hu
      exact ⟨_, rfl, _, _, _, _, false, rfl, .ty _, .base (.str z), kit_ty rfl, _, rfl, iteF ⟨_, rfl, kk _ H (Same.refl H) hu⟩⟩
    | t cs =>
      obtain ⟨a, vs, rfl, ha, hvs⟩ := tr_t.mp hu
      obtain ⟨g, rfl, hl, hfc⟩ := fit_inv hf
      cases hsp g rfl
      have lvs := trs_len hvs
      refine ⟨_, rfl, _, _, _, _, true, rfl, .ty _, ty_tup ha, kit_ty rfl, _, rfl, iteT ?_⟩
      refine ⟨_, rfl, a, rfl, ⟨_, ha⟩, fun D hD => lc_tup (K := K) (a := a) (xs := vs) (fun j H' => ∃ (ws : List V), Same H H' ∧ H' D = some (.lst ws) ∧ TrsAt K H' ws (cs.take j)) ⟨[], same_new hD, upd_same, by rw [List.take_zero]; exact trs_nil.mpr rfl⟩ (fun j H' _ ⟨_, s, _⟩ => sqt_same s ha) ?_ ?_⟩
      · rintro j y H2 hy ⟨ws, s2, eD, hws⟩
        obtain ⟨c, ec, hyc⟩ := trs_get hvs hy
        refine ⟨rfl, _, rfl, y, c, rfl, hyc.same s2, hfc _ (List.mem_of_getElem? ec), fun u' H3 s3 hu' => ?_⟩
        have eD3 := s3 _ _ eD
        have lws := trs_len hws
        rw [List.length_take] at lws
        have t4 := TEx.upd_lst (ys := ws ++ [u']) eD3
        refine ⟨ws, eD3, sl_lt (by omega), ws ++ [u'], fun b o e => ?_, upd_same, ?_⟩
        · rw [upd_ne (ne_of_none e hD)]
          exact s3 _ _ (s2 _ _ e)
        · rw [List.take_succ, ec]
          exact trs_snoc ((hws.same s3).to t4) (hu'.to t4)
      · rintro H2 ⟨ws, s2, eD, hws⟩
        rw [lvs, List.take_length] at hws
        refine ⟨D, ws, rfl, .inl ⟨SqL.of eD, fun q hq => ?_⟩⟩
        have s3 := same_new (o := .tup ws) hq
        exact kk _ _ (s2.trans s3) (tr_t.mpr ⟨q, ws, rfl, SqT.of upd_same, hws.same s3⟩)
theorem ok_anew (T : Txt K mg) : ∀ n, FnOk P w K mg base CX0 (n + 2) T.f__law_anew T.fd__law_anew ["told"] (spAnew K n)
  | 0 => ok_anew0 T 0 (sp' := spNo) (T.F__law_anew.ok sc__law_anew (fun vs H Q E h => h.elim) (fun cdv A outer sh H vs Q E hr h => h.elim)) (fun m e => by cases e)
  | f + 1 => ok_anew0 T (f + 1) (ok_anew T f) (fun m e => by cases e; rfl)
end
end K87

set_option Elab.async false
set_option linter.all false
set_option maxRecDepth 100000
set_option maxHeartbeats 4000000
namespace K87
open PySem PySem.Spec PyProof.Rows L2 Ru Rp Mch
def doesB (kinds : Kinds) (defs : List Df) (f : Nm) (cs : List Cell) : Option Cell := if depths cs ≤ 4 ∧ sizes cs ≤ 100000 then doesF kinds defs f cs else none
theorem doesB_some {kinds : Kinds} {defs : List Df} {f : Nm} {cs : List Cell} {v : Cell} (h : doesB kinds defs f cs = some v) : doesF kinds defs f cs = some v ∧ depths cs ≤ 4 ∧ sizes cs ≤ 100000 := by
  unfold doesB at h
  split at h
  · rename_i h1
    exact ⟨h, h1⟩
  · cases h
section
variable {N : Type} {D D' : N → List Cell → Option Cell} (hm : ∀ f cs v, D f cs = some v → D' f cs = some v)
include hm
mutual
theorem worth_mono : ∀ (t : Told N) (env : List Cell) (v : Cell), worth D t env = some v → worth D' t env = some v
  | .loc n, env, v, h => by rw [worth] at h ⊢; exact h
  | .letT a b, env, v, h => by
    rw [worth] at h ⊢
    obtain ⟨x, h1, h2⟩ := Option.bind_eq_some_iff.mp h
    rw [worth_mono a env x h1]
    exact worth_mono b _ v h2
  | .ifT a b c, env, v, h => by
    rw [worth] at h ⊢
    obtain ⟨x, h1, h2⟩ := Option.bind_eq_some_iff.mp h
    rw [worth_mono a env x h1, Option.bind_some]
    split at h2
    · rename_i hx
      rw [if_pos hx]
      exact worth_mono b env v h2
    · rename_i hx
      rw [if_neg hx]
      exact worth_mono c env v h2
  | .same k a b, env, v, h => by
    rw [worth] at h ⊢
    obtain ⟨x, h1, h2⟩ := Option.bind_eq_some_iff.mp h
    obtain ⟨y, h3, h4⟩ := Option.bind_eq_some_iff.mp h2
    rw [worth_mono a env x h1, Option.bind_some, worth_mono b env y h3, Option.bind_some]
    exact h4
  | .call f ps, env, v, h => by
    rw [worth] at h ⊢
    obtain ⟨x, h1, h2⟩ := Option.bind_eq_some_iff.mp h
    rw [worths_mono ps env x h1, Option.bind_some]
    exact hm _ _ _ h2
  | .make k m ps, env, v, h => by
    rw [worth] at h ⊢
    obtain ⟨x, h1, h2⟩ := Option.bind_eq_some_iff.mp h
    rw [worths_mono ps env x h1, Option.bind_some]
    exact h2
  | .case k a arms, env, v, h => by
    rw [worth] at h ⊢
    obtain ⟨x, h1, h2⟩ := Option.bind_eq_some_iff.mp h
    rw [worth_mono a env x h1, Option.bind_some]
    exact worthArms_mono arms x env v h2
theorem worths_mono : ∀ (ps : Tolds N) (env : List Cell) (v : List Cell), worths D ps env = some v → worths D' ps env = some v
  | .nil, env, v, h => by rw [worths] at h ⊢; exact h
  | .cons t r, env, v, h => by
    rw [worths] at h ⊢
    obtain ⟨x, h1, h2⟩ := Option.bind_eq_some_iff.mp h
    obtain ⟨y, h3, h4⟩ := Option.bind_eq_some_iff.mp h2
    rw [worth_mono t env x h1, Option.bind_some, worths_mono r env y h3, Option.bind_some]
    exact h4
theorem worthArms_mono : ∀ (as : Arms N) (c : Cell) (env : List Cell) (v : Cell), worthArms D as c env = some v → worthArms D' as c env = some v
  | .nil, c, env, v, h => by rw [worthArms] at h; cases h
  | .cons f t r, c, env, v, h => by
    rw [worthArms] at h ⊢
    split at h
    · rename_i hx
      rw [if_pos hx]
      exact worth_mono t _ v h
    · rename_i hx
      rw [if_neg hx]
      exact worthArms_mono r c env v h
end
end
theorem Go.le {N : Type} {F : List (Row N)} {D : N → List Cell → Option Cell} {i h s j h2 s2} (g : Go F D i h s j h2 s2) : i ≤ j := by
  induction g with
  | refl => exact Nat.le_refl _
  | step o _ ih => have := o.lt; omega
theorem rows_get {K : PySem.W.Frag} {H : Hp} {vs : List V} {rs : List (Row Nm)} {i : Nat} {r : Row Nm} (h : RowsOf K H vs rs) (e : rs[i]? = some r) : ∃ a, vs[i]? = some (.ref a) ∧ SqT K H a (rowV r) := by
  obtain ⟨v, e1, a, rfl, e2⟩ := paired_get h e
  exact ⟨a, e1, e2⟩
theorem cut_from {xs : List V} {a : Nat} (h : a ≤ xs.length) : cutV xs (some (a : Int)) none = xs.drop a := by
  unfold cutV
  rw [HT.sIx_nat, HT.sIx_none, Nat.min_eq_left h]
  exact List.take_of_length_le (by simp)
theorem cut_to {xs : List V} {a : Nat} (h : a ≤ xs.length) : cutV xs none (some (a : Int)) = xs.take a := by
  unfold cutV
  rw [HT.sIx_nat, HT.sIx_none, Nat.min_eq_left h, List.drop_zero, Nat.sub_zero]
section
variable {P : Program} {w : World} {K : PySem.W.Frag} {mg : Str → Option Value} {base : Heap}
abbrev N__law_machine : List Str := ["rows", "cells", "kinds", "defs", "stack", "known", "cell", "at", "step", "row", "word", "parts", "made", "one", "other"]
theorem sc__law_machine : FnScope N__law_machine ["rows", "cells", "kinds", "defs"] (defScope s__law_machine) := ⟨rfl, rfl, rfl, by decide +kernel, rfl, by decide +kernel, by decide +kernel⟩
/-- the machine's two lists -/
structure MS (K : PySem.W.Frag) (H H' : Hp) (S Kn : Addr) (h s : List Cell) (i : Nat) : Prop where
  same : Same H H'
  hS : H S = none
  hK : H Kn = none
  ne : S ≠ Kn
  st : ∃ vs, H' S = some (.lst vs) ∧ CellsAt K H' vs s.reverse ∧ vs.length ≤ i
  kn : ∃ vs, H' Kn = some (.lst vs) ∧ CellsAt K H' vs h ∧ vs.length ≤ 1000 + i
section
variable {H H' : Hp} {S Kn : Addr} {h s : List Cell} {i : Nat}
theorem MS.mono (M : MS K H H' S Kn h s i) {j : Nat} (hj : i ≤ j) : MS K H H' S Kn h s j := by
  obtain ⟨a, b, c, d, ⟨vs, e1, e2, e3⟩, ⟨ws, g1, g2, g3⟩⟩ := M
  exact ⟨a, b, c, d, ⟨vs, e1, e2, by omega⟩, ⟨ws, g1, g2, by omega⟩⟩
theorem MS.to (M : MS K H H' S Kn h s i) {H2 : Hp} (z : Same H' H2) : MS K H H2 S Kn h s i := by
  obtain ⟨a, b, c, d, ⟨vs, e1, e2, e3⟩, ⟨ws, g1, g2, g3⟩⟩ := M
  exact ⟨a.trans z, b, c, d, ⟨vs, z _ _ e1, CellsAt.same e2 z, e3⟩, ⟨ws, z _ _ g1, CellsAt.same g2 z, g3⟩⟩
theorem MS.setS (M : MS K H H' S Kn h s i) {vs : List V} {s2 : List Cell} {j : Nat} (hc : CellsAt K H' vs s2.reverse) (hl : vs.length ≤ j) (hj : i ≤ j) : MS K H (upd H' S (.lst vs)) S Kn h s2 j := by
  obtain ⟨a, b, c, d, ⟨us, e1, e2, e3⟩, ⟨ws, g1, g2, g3⟩⟩ := M
  have t := TEx.upd_lst (ys := vs) e1
  exact ⟨fun x o e => by rw [upd_ne (ne_of_none e b)]; exact a _ _ e, b, c, d, ⟨vs, upd_same, hc.to t, hl⟩, ⟨ws, by rw [upd_ne d.symm]; exact g1, g2.to t, by omega⟩⟩
theorem MS.setK (M : MS K H H' S Kn h s i) {vs : List V} {h2 : List Cell} {j : Nat} (hc : CellsAt K H' vs h2) (hl : vs.length ≤ 1000 + j) (hj : i ≤ j) : MS K H (upd H' Kn (.lst vs)) S Kn h2 s j := by
  obtain ⟨a, b, c, d, ⟨us, e1, e2, e3⟩, ⟨ws, g1, g2, g3⟩⟩ := M
  have t := TEx.upd_lst (ys := vs) g1
  exact ⟨fun x o e => by rw [upd_ne (ne_of_none e c)]; exact a _ _ e, b, c, d, ⟨us, by rw [upd_ne d]; exact e1, e2.to t, by omega⟩, ⟨vs, upd_same, hc.to t, hl⟩⟩
theorem MS.newS (M : MS K H H' S Kn h s i) {vs : List V} {s2 : List Cell} {j : Nat} {p : Addr} (hp : H' p = none) (hc : CellsAt K H' vs s2.reverse) (hl : vs.length ≤ j) (hj : i ≤ j) : MS K H (upd H' p (.lst vs)) p Kn h s2 j := by
  obtain ⟨a, b, c, d, ⟨us, e1, e2, e3⟩, ⟨ws, g1, g2, g3⟩⟩ := M
  have z := same_new (o := .lst vs) hp
  exact ⟨a.trans z, a.free hp, c, (ne_of_none g1 hp).symm, ⟨vs, upd_same, CellsAt.same hc z, hl⟩, ⟨ws, z _ _ g1, CellsAt.same g2 z, by omega⟩⟩
theorem MS.newK (M : MS K H H' S Kn h s i) {vs : List V} {h2 : List Cell} {j : Nat} {p : Addr} (hp : H' p = none) (hc : CellsAt K H' vs h2) (hl : vs.length ≤ 1000 + j) (hj : i ≤ j) : MS K H (upd H' p (.lst vs)) S p h2 s j := by
  obtain ⟨a, b, c, d, ⟨us, e1, e2, e3⟩, ⟨ws, g1, g2, g3⟩⟩ := M
  have z := same_new (o := .lst vs) hp
  exact ⟨a.trans z, b, a.free hp, ne_of_none e1 hp, ⟨us, z _ _ e1, CellsAt.same e2 z, by omega⟩, ⟨vs, upd_same, CellsAt.same hc z, hl⟩⟩
theorem MS.pop {s0 : List Cell} (M : MS K H H' S Kn h s0 i) {vs : List V} {u : V} {j : Nat} (hc : CellsAt K H' vs s.reverse) (hl : vs.length ≤ j) (hj : i ≤ j) : MS K H (upd H' S (.lst (vs ++ [u]).dropLast)) S Kn h s j := by
  rw [List.dropLast_concat]
  exact M.setS hc hl hj
theorem drop_rev {s : List Cell} {k : Nat} (h : k ≤ s.length) : s.reverse.drop (s.length - k) = (s.take k).reverse := by
  rw [List.drop_reverse, show s.length - (s.length - k) = k by omega]
theorem take_rev {s : List Cell} {k : Nat} (h : k ≤ s.length) : s.reverse.take (s.length - k) = (s.drop k).reverse := by
  rw [List.take_reverse, show s.length - (s.length - k) = k by omega]
/-- the stack's top -/
theorem MS.top {c : Cell} (M : MS K H H' S Kn h (c :: s) i) : ∃ vs u, H' S = some (.lst (vs ++ [u])) ∧ CellsAt K H' vs s.reverse ∧ CellAt K H' u c ∧ vs.length + 1 ≤ i := by
  obtain ⟨vs, e1, e2, e3⟩ := M.st
  rw [List.reverse_cons] at e2
  obtain ⟨q, v, rfl, h1, h2⟩ := cells_last e2
  exact ⟨q, v, e1, h1, h2, by rw [List.length_append, List.length_singleton] at e3; exact e3⟩
end
def spMachine (K : PySem.W.Frag) : Sp := fun vs H Q _ => ∃ (dk lc : Addr) (rv v vd : V) (kinds : Kinds) (defs : List Df) (F : List (Row Nm)) (env env' : List Cell) (evs : List V) (n : Nat) (res : Cell), vs = [rv, .ref lc, v, vd] ∧ RowsAt K H rv F ∧ H lc = some (.lst evs) ∧ CellsAt K H evs env ∧ KindsAt H dk v kinds ∧ KindsOk kinds ∧ DfsAt K H dk vd defs ∧ DefsOk defs ∧ Go F (doesB kinds defs) 0 env [] n env' [res] ∧ F[n]? = some .back ∧ F.length ≤ 10000 ∧ env.length ≤ 1000 ∧
  ∀ (u : V) (H' : Hp), Same H H' → CellAt K H' u res → Q u H'
theorem ok_machine (T : Txt K mg) : FnOk P w K mg base CX0 8 T.f__law_machine T.fd__law_machine ["rows", "cells", "kinds", "defs"] (spMachine K) := by
  refine T.F__law_machine.ok sc__law_machine (fun vs H Q E h => ?_) (fun cdv A outer sh H vs Q E hr h => ?_)
  · obtain ⟨dk, lc, rv, v, vd, kinds, defs, F, env, env', evs, n, res, rfl, _⟩ := h
    rfl
  · obtain ⟨dk, lc, rv, v, vd, kinds, defs, F, env, env', evs, n, res, rfl, hrv, hlc, hev, hv, hK, hvd, hdf, hgo, hback, hFl, hel, kk⟩ := h
    have nd := sc__law_machine.nd
    have G__law_does : FnOk P w K mg base CX0 7 T.f__law_does T.fd__law_does ["kinds", "defs", "module", "name", "cells"] (spDoes K) := ok_does T
    have hr__law_does : Room 7 _ := hr
    have hum : (A.deeper (envOfC (Str.ofString "_law_machine") (defScope s__law_machine) sh.heap.objs.size T.f__law_machine cdv)).units + 210 < cLine := by have := hr.un; omega
    refine ⟨_, (pss_cons (ps_set (i := 4) nd rfl (Or.inl rfl) (pe_lst pa_nil))
          (pss_cons (ps_setLc (i := 5) (own := [("cell", 6)]) (g := gName 6) (tt := tYes) rfl nd rfl rfl (sw_true rfl rfl rfl (by decide +kernel)) (pi_list (pv 1)) (blkOk_by (own := [("cell", 6)]) (N := N__law_machine) (sc := defScope s__law_machine) (by decide +kernel)) (fun _ _ _ _ _ => pg_name (i := 6) nd rfl (Or.inl rfl)) (fun _ _ _ _ _ => pts_nil) (fun _ _ _ _ _ => (pv 6)))
          (pss_cons (ps_set (i := 7) nd rfl (Or.inl rfl) pe_int)
          (pss_cons (ps_for PassesOwn.never rfl (pi_range1 rfl T.z_range (pa_cons (pe_op op_add pe_int (pe_op op_mul pe_int (pe_callB call_len_seq (by rfl) T.z_len (by decide +kernel) (pa_cons (pv 0) pa_nil)))) pa_nil)) (pg_name (i := 8) nd rfl (Or.inl rfl))
            (pss_cons (ps_if (pt_cmpR op_ge (pv 7) (pe_callB call_len_seq (by rfl) T.z_len (by decide +kernel) (pa_cons (pv 0) pa_nil)) (nomark _))
              (pss_one (ps_ret pe_non))
              pss_nil)
            (pss_cons (ps_set (i := 9) nd rfl (Or.inl rfl) (pe_ix ix_tup (pv 0) (pv 7) (fun _ _ => rfl)))
            (pss_cons (ps_set (i := 10) nd rfl (Or.inl rfl) (pe_ix ix_tup (pv 9) pe_int (fun _ _ => rfl)))
            (pss_cons (ps_set (i := 7) nd rfl (Or.inl rfl) (pe_op op_add (pv 7) pe_int))
            (pss_one (ps_if (pt_cmpR op_eq (pv 10) pe_str (nomark _))
              (pss_one (ps_set (i := 7) nd rfl (Or.inl rfl) (pe_ix ix_tup (pv 9) pe_int (fun _ _ => rfl))))
              (pss_one (ps_if (pt_cmpR op_eq (pv 10) pe_str (nomark _))
                (pss_cons (ps_if (pt_cmpR op_ge (pe_ix ix_tup (pv 9) pe_int (fun _ _ => rfl)) (pe_callB call_len_seq (by rfl) T.z_len (by decide +kernel) (pa_cons (pv 5) pa_nil)) (nomark _))
                  (pss_one (ps_ret pe_non))
                  pss_nil)
                (pss_one (ps_expr (pe_bm PySem.F.plainAttrs_list PySem.F.slot_list_append PySem.F.type_list_append mt_append (pv 4) (pa_cons (pe_ix ix_list (pv 5) (pe_ix ix_tup (pv 9) pe_int (fun _ _ => rfl)) (fun _ _ => rfl)) pa_nil)))))
                (pss_one (ps_if (pt_cmpR op_eq (pv 10) pe_str (nomark _))
                  (pss_cons (ps_if (pt_cmpR op_gt (pe_ix ix_tup (pv 9) pe_int (fun _ _ => rfl)) (pe_callB call_len_seq (by rfl) T.z_len (by decide +kernel) (pa_cons (pv 5) pa_nil)) (nomark _))
                    (pss_one (ps_ret pe_non))
                    pss_nil)
                  (pss_one (ps_set (i := 5) nd rfl (Or.inl rfl) (pe_slice sl_list (pv 5) po_none (po_some (pe_op op_sub (pe_callB call_len_seq (by rfl) T.z_len (by decide +kernel) (pa_cons (pv 5) pa_nil)) (pe_ix ix_tup (pv 9) pe_int (fun _ _ => rfl))))))))
                  (pss_one (ps_if (PW.pt (pw_or (pt_cmpR op_eq (pv 10) pe_str (nomark _)) (pw_or1 (pt_cmpR op_eq (pv 10) pe_str (nomark _)))))
                    (pss_cons (ps_if (pt_cmpR op_gt (pe_ix ix_tup (pv 9) (pe_un un_neg pe_int) (fun _ _ => rfl)) (pe_callB call_len_seq (by rfl) T.z_len (by decide +kernel) (pa_cons (pv 4) pa_nil)) (nomark _))
                      (pss_one (ps_ret pe_non))
                      pss_nil)
                    (pss_cons (ps_set (i := 11) nd rfl (Or.inl rfl) (pe_callTy call_tuple_of (by rfl) T.z_tuple (by decide +kernel) (pa_cons (pe_slice sl_list (pv 4) (po_some (pe_op op_sub (pe_callB call_len_seq (by rfl) T.z_len (by decide +kernel) (pa_cons (pv 4) pa_nil)) (pe_ix ix_tup (pv 9) (pe_un un_neg pe_int) (fun _ _ => rfl)))) po_none) pa_nil)))
                    (pss_cons (ps_set (i := 4) nd rfl (Or.inl rfl) (pe_slice sl_list (pv 4) po_none (po_some (pe_op op_sub (pe_callB call_len_seq (by rfl) T.z_len (by decide +kernel) (pa_cons (pv 4) pa_nil)) (pe_ix ix_tup (pv 9) (pe_un un_neg pe_int) (fun _ _ => rfl))))))
                    (pss_cons (ps_set (i := 12) nd rfl (Or.inl rfl) (pe_ifExp (pt_cmpR op_eq (pv 10) pe_str (nomark _)) (pe_tup (pa_cons (pe_ix ix_tup (pv 9) pe_int (fun _ _ => rfl)) (pa_cons (pv 11) pa_nil))) (pe_call G__law_does hr__law_does rfl T.g__law_does T.k__law_does T.b__law_does .nil pass0 (pa_cons (pv 2) (pa_cons (pv 3) (pa_cons (pe_ix ix_tup (pv 9) pe_int (fun _ _ => rfl)) (pa_cons (pe_ix ix_tup (pv 9) pe_int (fun _ _ => rfl)) (pa_cons (pv 11) pa_nil))))))))
                    (pss_cons (ps_if (pt_cmpR op_isN (pv 12) pe_non (nomark _))
                      (pss_one (ps_ret pe_non))
                      pss_nil)
                    (pss_one (ps_expr (pe_bm PySem.F.plainAttrs_list PySem.F.slot_list_append PySem.F.type_list_append mt_append (pv 4) (pa_cons (pv 12) pa_nil)))))))))
                    (pss_one (ps_if (pt_cmpR op_eq (pe_callB call_len_seq (by rfl) T.z_len (by decide +kernel) (pa_cons (pv 4) pa_nil)) pe_int (nomark _))
                      (pss_one (ps_ret pe_non))
                      (pss_one (ps_if (pt_cmpR op_eq (pv 10) pe_str (nomark _))
                        (pss_one (ps_expr (pe_bm PySem.F.plainAttrs_list PySem.F.slot_list_append PySem.F.type_list_append mt_append (pv 5) (pa_cons (pe_bm0 PySem.F.plainAttrs_list PySem.F.slot_list_pop PySem.F.type_list_pop mt_pop (pv 4)) pa_nil))))
                        (pss_one (ps_if (pt_cmpR op_eq (pv 10) pe_str (nomark _))
                          (pss_one (ps_expr (pe_bm0 PySem.F.plainAttrs_list PySem.F.slot_list_pop PySem.F.type_list_pop mt_pop (pv 4))))
                          (pss_one (ps_if (pt_cmpR op_eq (pv 10) pe_str (nomark _))
                            (pss_one (ps_ret (pe_ix ix_list (pv 4) (pe_un un_neg pe_int) (fun _ _ => rfl))))
                            (pss_one (ps_if (pt_cmpR op_eq (pv 10) pe_str (nomark _))
                              (pss_one (ps_if (pt_cmpR op_ne (pe_ix ix_tup (pe_ix ix_list (pv 4) (pe_un un_neg pe_int) (fun _ _ => rfl)) pe_int (fun _ _ => rfl)) (pe_ix ix_tup (pv 9) pe_int (fun _ _ => rfl)) (nomark _))
                                (pss_one (ps_set (i := 7) nd rfl (Or.inl rfl) (pe_ix ix_tup (pv 9) pe_int (fun _ _ => rfl))))
                                pss_nil))
                              (pss_one (ps_if (pt_cmpR op_eq (pv 10) pe_str (nomark _))
                                (pss_cons (ps_set (i := 6) nd rfl (Or.inl rfl) (pe_bm0 PySem.F.plainAttrs_list PySem.F.slot_list_pop PySem.F.type_list_pop mt_pop (pv 4)))
                                (pss_cons (ps_if (pt_cmpR op_ge (pe_ix ix_tup (pv 9) pe_int (fun _ _ => rfl)) (pe_callB call_len_seq (by rfl) T.z_len (by decide +kernel) (pa_cons (pe_ix ix_tup (pv 6) pe_int (fun _ _ => rfl)) pa_nil)) (nomark _))
                                  (pss_one (ps_ret pe_non))
                                  pss_nil)
                                (pss_one (ps_expr (pe_bm PySem.F.plainAttrs_list PySem.F.slot_list_append PySem.F.type_list_append mt_append (pv 4) (pa_cons (pe_ix ix_tup (pe_ix ix_tup (pv 6) pe_int (fun _ _ => rfl)) (pe_ix ix_tup (pv 9) pe_int (fun _ _ => rfl)) (fun _ _ => rfl)) pa_nil))))))
                                (pss_cons (ps_if (pt_cmpR op_lt (pe_callB call_len_seq (by rfl) T.z_len (by decide +kernel) (pa_cons (pv 4) pa_nil)) pe_int (nomark _))
                                  (pss_one (ps_ret pe_non))
                                  pss_nil)
                                (pss_cons (ps_set (i := 13) nd rfl (Or.inl rfl) (pe_bm0 PySem.F.plainAttrs_list PySem.F.slot_list_pop PySem.F.type_list_pop mt_pop (pv 4)))
                                (pss_cons (ps_set (i := 14) nd rfl (Or.inl rfl) (pe_bm0 PySem.F.plainAttrs_list PySem.F.slot_list_pop PySem.F.type_list_pop mt_pop (pv 4)))
                                (pss_one (ps_expr (pe_bm PySem.F.plainAttrs_list PySem.F.slot_list_append PySem.F.type_list_append mt_append (pv 4) (pa_cons (pe_tup (pa_cons (pe_ifExp (pt_cmpR (op_eqM hum) (pv 13) (pv 14) (nomark _)) pe_int pe_int) (pa_cons (pe_tup pa_nil) pa_nil))) pa_nil))))))))))))))))))))))))))))))))
          (pss_one (ps_ret pe_non)))))), ?_⟩
    obtain ⟨rb, rvs, rfl, hrb, hrs⟩ := hrv
    have lrv : rvs.length = F.length := Paired.length hrs
    have lev := cells_len hev
    refine ⟨sl_le (by show 0 ≤ 10000000; decide), fun S hS => ?_⟩
    have s1 := same_new (o := .lst []) hS
    refine ⟨_, rfl, lc, rfl, ⟨_, SqL.of (s1 _ _ hlc)⟩, fun Kn hKn => lc_list (K := K) (a := lc) (xs := evs) (fun j H' => Same (upd H S (.lst [])) H' ∧ H' Kn = some (.lst (evs.take j))) ⟨same_new hKn, upd_same⟩ (fun j H' _ ⟨s2, _⟩ => SqL.of (s2 _ _ (s1 _ _ hlc))) ?_ ?_⟩
    · rintro j y H2 hy ⟨s2, eK⟩
      have hj : j < evs.length := (List.getElem?_eq_some_iff.mp hy).1
      refine ⟨rfl, _, rfl, _, eK, sl_lt (by rw [List.length_take]; omega), fun b o e => ?_, ?_⟩
      · rw [upd_ne (ne_of_none e hKn)]
        exact s2 _ _ e
      · rw [upd_same, List.take_succ, hy]
        rfl
    rintro H2 ⟨s2, eK⟩
    rw [List.take_length] at eK
    have M0 : MS K H H2 S Kn env [] 0 := ⟨s1.trans s2, hS, s1.free hKn, ne_of_none (upd_same (H := H)) hKn, ⟨[], s2 _ _ upd_same, cells_nil.mpr rfl, Nat.le_refl _⟩, ⟨evs, eK, CellsAt.same hev (s1.trans s2), by omega⟩⟩
    clear eK hKn s1 s2
    dsimp only [gName]
    let Iv : Nat → L2.St → Hp → Prop := fun j σ H' => ∃ (S Kn : Addr) (i : Nat) (h s : List Cell) (x6 x8 x9 x10 x11 x12 x13 x14 : Option V), σ = [some (.ref rb), some (.ref lc), some v, some vd, some (.ref S), some (.ref Kn), x6, some (.int (i : Int)), x8, x9, x10, x11, x12, x13, x14] ∧ MS K H H' S Kn h s i ∧ j ≤ i ∧ Go F (doesB kinds defs) i h s n env' [res]
    refine ⟨_, rfl, rb, _, rfl, .inr (sqt_same M0.same hrb), _, _, rfl, rfl, .inl ⟨by decide, by decide⟩, _, _, rfl, rfl, ((1000 + 100 * rvs.length : Nat) : Int), (by show [V.int (1000 + 100 * ((rvs.length : Nat) : Int))] = _; rw [show ((1000 : Int) + 100 * ((rvs.length : Nat) : Int)) = ((1000 + 100 * rvs.length : Nat) : Int) by omega]), by omega, by omega, for_range (lo := 0) (n := 1000 + 100 * rvs.length) Iv ⟨S, Kn, 0, env, [], _, _, _, _, _, _, _, _, rfl, M0, Nat.le_refl _, hgo⟩ ?_ ?_⟩
    · rintro j σ H2 hj ⟨S, Kn, i, h, s, x6, x8, x9, x10, x11, x12, x13, x14, rfl, M, hji, g⟩
      have hin := g.le
      have hnF := (List.getElem?_eq_some_iff.mp hback).1
      have hrb2 := sqt_same M.same hrb
      have row_at : ∀ {r : Row Nm}, F[i]? = some r → ∃ a, rvs[i]? = some (.ref a) ∧ SqT K H2 a (rowV r) := fun e => by
        obtain ⟨a, e1, e2⟩ := rows_get hrs e
        exact ⟨a, e1, sqt_same M.same e2⟩
      obtain ⟨vs, eS, hvs, lvs⟩ := M.st
      obtain ⟨ks, eK, hks, lks⟩ := M.kn
      have lvc := cells_len hvs
      have lkc := cells_len hks
      rw [List.length_reverse] at lvc
      dsimp only [gName]
      refine ⟨_, rfl, _, rfl, rb, _, rfl, .inr hrb2, _, _, rfl, rfl, _, rfl, ite2 (fun z => by have := of_decide_eq_true z; omega) (fun _ => ?_)⟩
      cases g with
      | refl =>
        obtain ⟨a, ea, hra⟩ := row_at hback
        have hra : SqT K H2 a [.str "back"] := hra
        refine ⟨_, rfl, _, rfl, rb, _, _, _, rfl, rfl, hrb2, atI_nat ea, _, rfl, a, _, _, _, rfl, rfl, hra, rfl, _, rfl, _, _, rfl, rfl, ?_⟩
        dsimp only [gName]
        obtain ⟨vs, u, eS, hvs, hu, lvs⟩ := M.top
        refine ⟨_, rfl, rfl, _, rfl, isF (nstr (by decide +kernel)) ⟨_, rfl, rfl, _, rfl, isF (nstr (by decide +kernel)) ⟨_, rfl, rfl, _, rfl, isF (nstr (by decide +kernel)) ⟨_, rfl, rfl, _, rfl, isF (nstr (by decide +kernel)) ⟨_, rfl, rfl, _, rfl, isF (nstr (by decide +kernel)) ⟨_, rfl, S, _, rfl, .inl (SqL.of eS), rfl, _, rfl, isF (fun z => by injection z with z; rw [List.length_append, List.length_singleton] at z; omega) ⟨_, rfl, rfl, _, rfl, isF (nstr (by decide +kernel)) ⟨_, rfl, rfl, _, rfl, isF (nstr (by decide +kernel)) ⟨_, rfl, rfl, _, rfl, isT rfl ?_⟩⟩⟩⟩⟩⟩⟩⟩⟩
        exact ⟨_, rfl, _, rfl, S, _, _, _, rfl, rfl, SqL.of eS, atI_last _ _, kk u H2 M.same hu⟩
      | step o g' => cases o with
        | @loc _ m c e hc =>
          obtain ⟨a, ea, hra⟩ := row_at e
          have hra : SqT K H2 a [.str "local", .int (m : Int)] := hra
          refine ⟨_, rfl, _, rfl, rb, _, _, _, rfl, rfl, hrb2, atI_nat ea, _, rfl, a, _, _, _, rfl, rfl, hra, rfl, _, rfl, _, _, rfl, rfl, ?_⟩
          dsimp only [gName]
          obtain ⟨y, ey, hy⟩ := cells_get hks hc
          have hm := (List.getElem?_eq_some_iff.mp ey).1
          refine ⟨_, rfl, rfl, _, rfl, isF (nstr (by decide +kernel)) ⟨_, rfl, rfl, _, rfl, isT rfl ?_⟩⟩
          refine ⟨_, rfl, a, _, _, _, rfl, rfl, hra, rfl, _, rfl, Kn, ks, rfl, .inl (SqL.of eK), _, _, rfl, rfl, _, rfl, ite2 (fun z => by have := of_decide_eq_true z; omega) (fun _ => ?_)⟩
          refine ⟨_, rfl, .inl ⟨rfl, _, SqL.of eS⟩, _, rfl, _, rfl, a, _, _, _, rfl, rfl, hra, rfl, Kn, ks, _, _, rfl, rfl, SqL.of eK, atI_nat ey, S, vs, _, rfl, rfl, eS, sl_lt (by omega), ?_⟩
          exact ⟨S, Kn, i + 1, h, _, _, _, _, _, _, _, _, _, rfl, M.setS (by rw [List.reverse_cons]; exact cells_snoc hvs hy) (by rw [List.length_append, List.length_singleton]; omega) (by omega), by omega, g'⟩
        | @drop _ c e =>
          obtain ⟨a, ea, hra⟩ := row_at e
          have hra : SqT K H2 a [.str "drop"] := hra
          refine ⟨_, rfl, _, rfl, rb, _, _, _, rfl, rfl, hrb2, atI_nat ea, _, rfl, a, _, _, _, rfl, rfl, hra, rfl, _, rfl, _, _, rfl, rfl, ?_⟩
          dsimp only [gName]
          obtain ⟨vs, u, eS, hvs, hu, lvs⟩ := M.top
          refine ⟨_, rfl, rfl, _, rfl, isF (nstr (by decide +kernel)) ⟨_, rfl, rfl, _, rfl, isF (nstr (by decide +kernel)) ⟨_, rfl, rfl, _, rfl, isF (nstr (by decide +kernel)) ⟨_, rfl, rfl, _, rfl, isF (nstr (by decide +kernel)) ⟨_, rfl, rfl, _, rfl, isF (nstr (by decide +kernel)) ⟨_, rfl, S, _, rfl, .inl (SqL.of eS), rfl, _, rfl, isF (fun z => by injection z with z; rw [List.length_append, List.length_singleton] at z; omega) ⟨_, rfl, rfl, _, rfl, isF (nstr (by decide +kernel)) ⟨_, rfl, rfl, _, rfl, isT rfl ?_⟩⟩⟩⟩⟩⟩⟩⟩
          refine ⟨_, rfl, .inl ⟨rfl, _, SqL.of eS⟩, S, _, u, rfl, rfl, eS, last_at _ _, ?_⟩
          exact ⟨S, Kn, i + 1, h, _, _, _, _, _, _, _, _, _, rfl, M.pop hvs (by omega) (by omega), by omega, g'⟩
        | @keep _ c e =>
          obtain ⟨a, ea, hra⟩ := row_at e
          have hra : SqT K H2 a [.str "keep"] := hra
          refine ⟨_, rfl, _, rfl, rb, _, _, _, rfl, rfl, hrb2, atI_nat ea, _, rfl, a, _, _, _, rfl, rfl, hra, rfl, _, rfl, _, _, rfl, rfl, ?_⟩
          dsimp only [gName]
          obtain ⟨vs, u, eS, hvs, hu, lvs⟩ := M.top
          refine ⟨_, rfl, rfl, _, rfl, isF (nstr (by decide +kernel)) ⟨_, rfl, rfl, _, rfl, isF (nstr (by decide +kernel)) ⟨_, rfl, rfl, _, rfl, isF (nstr (by decide +kernel)) ⟨_, rfl, rfl, _, rfl, isF (nstr (by decide +kernel)) ⟨_, rfl, rfl, _, rfl, isF (nstr (by decide +kernel)) ⟨_, rfl, S, _, rfl, .inl (SqL.of eS), rfl, _, rfl, isF (fun z => by injection z with z; rw [List.length_append, List.length_singleton] at z; omega) ⟨_, rfl, rfl, _, rfl, isT rfl ?_⟩⟩⟩⟩⟩⟩⟩
          have t := TEx.upd_lst (ys := (vs ++ [u]).dropLast) eS
          have M1 := M.pop (u := u) (j := i) hvs (by omega) (Nat.le_refl _)
          refine ⟨_, rfl, .inl ⟨rfl, _, SqL.of eK⟩, _, rfl, .inl ⟨rfl, _, SqL.of eS⟩, S, _, u, rfl, rfl, eS, last_at _ _, Kn, ks, _, rfl, rfl, (by rw [upd_ne M.ne.symm]; exact eK), sl_lt (by omega), ?_⟩
          exact ⟨S, Kn, i + 1, _, _, _, _, _, _, _, _, _, _, rfl, M1.setK (cells_snoc (hks.to t) (hu.to t)) (by rw [List.length_append, List.length_singleton]; omega) (by omega), by omega, g'⟩
        | @forget _ m e hl =>
          obtain ⟨a, ea, hra⟩ := row_at e
          have hra : SqT K H2 a [.str "forget", .int (m : Int)] := hra
          refine ⟨_, rfl, _, rfl, rb, _, _, _, rfl, rfl, hrb2, atI_nat ea, _, rfl, a, _, _, _, rfl, rfl, hra, rfl, _, rfl, _, _, rfl, rfl, ?_⟩
          dsimp only [gName]
          refine ⟨_, rfl, rfl, _, rfl, isF (nstr (by decide +kernel)) ⟨_, rfl, rfl, _, rfl, isF (nstr (by decide +kernel)) ⟨_, rfl, rfl, _, rfl, isT rfl ?_⟩⟩⟩
          refine ⟨_, rfl, a, _, _, _, rfl, rfl, hra, rfl, _, rfl, Kn, ks, rfl, .inl (SqL.of eK), _, _, rfl, rfl, _, rfl, ite2 (fun z => by have := of_decide_eq_true z; omega) (fun _ => ?_)⟩
          refine ⟨_, rfl, _, rfl, Kn, ks, rfl, .inl (SqL.of eK), _, rfl, a, _, _, _, rfl, rfl, hra, rfl, _, _, rfl, rfl, _, rfl, Kn, ks, rfl, SqL.of eK, fun p hp => ?_⟩
          have ec : cutV ks none (some ((ks.length : Int) - (m : Int))) = ks.take (h.length - m) := by
            rw [show (ks.length : Int) - (m : Int) = ((ks.length - m : Nat) : Int) by omega, cut_to (by omega), lkc]
          rw [ec]
          exact ⟨S, p, i + 1, _, _, _, _, _, _, _, _, _, _, rfl, M.newK hp (cells_take _ hks) (by rw [List.length_take]; omega) (by omega), by omega, g'⟩
        | @part _ m m1 cs c e hl =>
          obtain ⟨a, ea, hra⟩ := row_at e
          have hra : SqT K H2 a [.str "part", .int (m : Int)] := hra
          refine ⟨_, rfl, _, rfl, rb, _, _, _, rfl, rfl, hrb2, atI_nat ea, _, rfl, a, _, _, _, rfl, rfl, hra, rfl, _, rfl, _, _, rfl, rfl, ?_⟩
          dsimp only [gName]
          obtain ⟨vs, u, eS, hvs, hu, lvs⟩ := M.top
          obtain ⟨ca, cb, cvs, rfl, hca, hcb, hcvs⟩ := cellAt_mk.mp hu
          obtain ⟨y, ey, hy⟩ := cells_get hcvs hl
          have hm := (List.getElem?_eq_some_iff.mp ey).1
          refine ⟨_, rfl, rfl, _, rfl, isF (nstr (by decide +kernel)) ⟨_, rfl, rfl, _, rfl, isF (nstr (by decide +kernel)) ⟨_, rfl, rfl, _, rfl, isF (nstr (by decide +kernel)) ⟨_, rfl, rfl, _, rfl, isF (nstr (by decide +kernel)) ⟨_, rfl, rfl, _, rfl, isF (nstr (by decide +kernel)) ⟨_, rfl, S, _, rfl, .inl (SqL.of eS), rfl, _, rfl, isF (fun z => by injection z with z; rw [List.length_append, List.length_singleton] at z; omega) ⟨_, rfl, rfl, _, rfl, isF (nstr (by decide +kernel)) ⟨_, rfl, rfl, _, rfl, isF (nstr (by decide +kernel)) ⟨_, rfl, rfl, _, rfl, isF (nstr (by decide +kernel)) ⟨_, rfl, rfl, _, rfl, isF (nstr (by decide +kernel)) ⟨_, rfl, rfl, _, rfl, isT rfl ?_⟩⟩⟩⟩⟩⟩⟩⟩⟩⟩⟩
          have t := TEx.upd_lst (ys := (vs ++ [V.ref ca]).dropLast) eS
          have M1 := M.pop (u := .ref ca) (j := i) hvs (by omega) (Nat.le_refl _)
          refine ⟨_, rfl, .inl ⟨rfl, _, SqL.of eS⟩, S, _, _, rfl, rfl, eS, last_at _ _, ?_⟩
          have hra := t.sq hra
          have hca := t.sq hca
          have hcb := t.sq hcb
          refine ⟨_, rfl, a, _, _, _, rfl, rfl, hra, rfl, _, rfl, ca, _, _, _, rfl, rfl, hca, rfl, cb, cvs, rfl, .inr hcb, _, _, rfl, rfl, _, rfl, ite2 (fun z => by have := of_decide_eq_true z; omega) (fun _ => ?_)⟩
          refine ⟨_, rfl, .inl ⟨rfl, _, SqL.of upd_same⟩, _, rfl, ca, _, _, _, rfl, rfl, hca, rfl, _, rfl, a, _, _, _, rfl, rfl, hra, rfl, cb, cvs, _, _, rfl, rfl, hcb, atI_nat ey, S, _, _, rfl, rfl, upd_same, sl_lt (by rw [List.dropLast_concat]; omega), ?_⟩
          exact ⟨S, Kn, i + 1, _, _, _, _, _, _, _, _, _, _, rfl, M1.setS (by rw [List.reverse_cons]; exact cells_snoc (CellsAt.to t (by rw [List.dropLast_concat]; exact hvs)) (hy.to t)) (by rw [List.dropLast_concat, List.length_append, List.length_singleton]; omega) (by omega), by omega, g'⟩
        | @make _ m1 m e hl =>
          obtain ⟨a, ea, hra⟩ := row_at e
          have hra : SqT K H2 a [.str "make", .int m1, .int (m : Int)] := hra
          refine ⟨_, rfl, _, rfl, rb, _, _, _, rfl, rfl, hrb2, atI_nat ea, _, rfl, a, _, _, _, rfl, rfl, hra, rfl, _, rfl, _, _, rfl, rfl, ?_⟩
          dsimp only [gName]
          refine ⟨_, rfl, rfl, _, rfl, isF (nstr (by decide +kernel)) ⟨_, rfl, rfl, _, rfl, isF (nstr (by decide +kernel)) ⟨_, rfl, rfl, _, rfl, isF (nstr (by decide +kernel)) ⟨_, rfl, rfl, _, rfl, isT rfl ?_⟩⟩⟩⟩
          have ec1 : cutV vs (some ((vs.length : Int) - (m : Int))) none = vs.drop (s.length - m) := by
            rw [show (vs.length : Int) - (m : Int) = ((vs.length - m : Nat) : Int) by omega, cut_from (by omega), lvc]
          have ec2 : cutV vs none (some ((vs.length : Int) - (m : Int))) = vs.take (s.length - m) := by
            rw [show (vs.length : Int) - (m : Int) = ((vs.length - m : Nat) : Int) by omega, cut_to (by omega), lvc]
          have hdr := cells_drop (s.length - m) hvs
          rw [drop_rev hl] at hdr
          have htk := cells_take (s.length - m) hvs
          rw [take_rev hl] at htk
          refine ⟨_, rfl, _, rfl, a, _, _, _, rfl, rfl, hra, rfl, _, rfl, S, vs, rfl, .inl (SqL.of eS), _, _, rfl, rfl, _, rfl, ite2 (fun z => by have := of_decide_eq_true z; omega) (fun _ => ?_)⟩
          refine ⟨_, rfl, _, rfl, S, vs, rfl, .inl (SqL.of eS), _, rfl, _, rfl, a, _, _, _, rfl, rfl, hra, rfl, _, _, rfl, rfl, _, rfl, S, vs, rfl, SqL.of eS, fun p hp => ?_⟩
          refine ⟨p, _, rfl, .inl ⟨SqL.of upd_same, fun q hq => ?_⟩⟩
          have s3 := (same_new (o := .lst (cutV vs (some ((vs.length : Int) - (m : Int))) none)) hp).trans (same_new (o := .tup (cutV vs (some ((vs.length : Int) - (m : Int))) none)) hq)
          have M3 := M.to s3
          have eS3 := s3 _ _ eS
          have hra3 := sqt_same s3 hra
          have hpt : SqT K (upd (upd H2 p (.lst (cutV vs (some ((vs.length : Int) - (m : Int))) none))) q (.tup (cutV vs (some ((vs.length : Int) - (m : Int))) none))) q (vs.drop (s.length - m)) := by
            rw [← ec1]
            exact SqT.of upd_same
          have hdr3 := CellsAt.same hdr s3
          have htk3 := CellsAt.same htk s3
          generalize (upd (upd H2 p (.lst (cutV vs (some ((vs.length : Int) - (m : Int))) none))) q (.tup (cutV vs (some ((vs.length : Int) - (m : Int))) none))) = H3 at *
          refine ⟨_, rfl, _, rfl, S, vs, rfl, .inl (SqL.of eS3), _, rfl, _, rfl, a, _, _, _, rfl, rfl, hra3, rfl, _, _, rfl, rfl, _, rfl, S, vs, rfl, SqL.of eS3, fun p2 hp2 => ?_⟩
          rw [ec2]
          have s4 := same_new (o := .lst (vs.take (s.length - m))) hp2
          have M4 := M3.newS (vs := vs.take (s.length - m)) (j := i) hp2 htk3 (by rw [List.length_take]; omega) (Nat.le_refl _)
          have hra4 := sqt_same s4 hra3
          have hpt4 := sqt_same s4 hpt
          have hdr4 := CellsAt.same hdr3 s4
          have htk4 := CellsAt.same htk3 s4
          have eP4 : (upd H3 p2 (.lst (vs.take (s.length - m)))) p2 = some (.lst (vs.take (s.length - m))) := upd_same
          generalize (upd H3 p2 (.lst (vs.take (s.length - m)))) = H4 at *
          
          refine ⟨_, rfl, rfl, _, rfl, isT rfl ⟨_, rfl, a, _, _, _, rfl, rfl, hra4, rfl, _, rfl, sl_le (by show 2 ≤ 10000000; decide), fun r hr => ?_⟩⟩
          have s5 := same_new (o := .tup [.int m1, .ref q]) hr
          have M5 := M4.to s5
          refine ⟨_, rfl, rfl, _, rfl, isF (fun z => by cases z) ?_⟩
          refine ⟨_, rfl, .inl ⟨rfl, _, SqL.of (s5 _ _ eP4)⟩, _, rfl, p2, _, _, rfl, rfl, s5 _ _ eP4, sl_lt (by rw [List.length_take]; omega), ?_⟩
          exact ⟨p2, Kn, i + 1, _, _, _, _, _, _, _, _, _, _, rfl, M5.setS (by rw [List.reverse_cons]; exact cells_snoc (CellsAt.same htk4 s5) (cellAt_mk.mpr ⟨r, q, _, rfl, SqT.of upd_same, sqt_same s5 hpt4, CellsAt.same hdr4 s5⟩)) (by rw [List.length_append, List.length_singleton, List.length_take]; omega) (by omega), by omega, g'⟩
        | @call _ f m w e hl hw =>
          obtain ⟨a, ea, hra⟩ := row_at e
          have hra : SqT K H2 a [.str "call", .str f.1, .str f.2, .int (m : Int)] := hra
          refine ⟨_, rfl, _, rfl, rb, _, _, _, rfl, rfl, hrb2, atI_nat ea, _, rfl, a, _, _, _, rfl, rfl, hra, rfl, _, rfl, _, _, rfl, rfl, ?_⟩
          dsimp only [gName]
          obtain ⟨hd1, hd2, hd3⟩ := doesB_some hw
          refine ⟨_, rfl, rfl, _, rfl, isF (nstr (by decide +kernel)) ⟨_, rfl, rfl, _, rfl, isF (nstr (by decide +kernel)) ⟨_, rfl, rfl, _, rfl, isF (nstr (by decide +kernel)) ⟨_, rfl, rfl, _, rfl, isF (nstr (by decide +kernel)) ⟨_, rfl, rfl, _, rfl, isT rfl ?_⟩⟩⟩⟩⟩
          have ec1 : cutV vs (some ((vs.length : Int) - (m : Int))) none = vs.drop (s.length - m) := by
            rw [show (vs.length : Int) - (m : Int) = ((vs.length - m : Nat) : Int) by omega, cut_from (by omega), lvc]
          have ec2 : cutV vs none (some ((vs.length : Int) - (m : Int))) = vs.take (s.length - m) := by
            rw [show (vs.length : Int) - (m : Int) = ((vs.length - m : Nat) : Int) by omega, cut_to (by omega), lvc]
          have hdr := cells_drop (s.length - m) hvs
          rw [drop_rev hl] at hdr
          have htk := cells_take (s.length - m) hvs
          rw [take_rev hl] at htk
          refine ⟨_, rfl, _, rfl, a, _, _, _, rfl, rfl, hra, rfl, _, rfl, S, vs, rfl, .inl (SqL.of eS), _, _, rfl, rfl, _, rfl, ite2 (fun z => by have := of_decide_eq_true z; omega) (fun _ => ?_)⟩
          refine ⟨_, rfl, _, rfl, S, vs, rfl, .inl (SqL.of eS), _, rfl, _, rfl, a, _, _, _, rfl, rfl, hra, rfl, _, _, rfl, rfl, _, rfl, S, vs, rfl, SqL.of eS, fun p hp => ?_⟩
          refine ⟨p, _, rfl, .inl ⟨SqL.of upd_same, fun q hq => ?_⟩⟩
          have s3 := (same_new (o := .lst (cutV vs (some ((vs.length : Int) - (m : Int))) none)) hp).trans (same_new (o := .tup (cutV vs (some ((vs.length : Int) - (m : Int))) none)) hq)
          have M3 := M.to s3
          have eS3 := s3 _ _ eS
          have hra3 := sqt_same s3 hra
          have hpt : SqT K (upd (upd H2 p (.lst (cutV vs (some ((vs.length : Int) - (m : Int))) none))) q (.tup (cutV vs (some ((vs.length : Int) - (m : Int))) none))) q (vs.drop (s.length - m)) := by
            rw [← ec1]
            exact SqT.of upd_same
          have hdr3 := CellsAt.same hdr s3
          have htk3 := CellsAt.same htk s3
          generalize (upd (upd H2 p (.lst (cutV vs (some ((vs.length : Int) - (m : Int))) none))) q (.tup (cutV vs (some ((vs.length : Int) - (m : Int))) none))) = H3 at *
          refine ⟨_, rfl, _, rfl, S, vs, rfl, .inl (SqL.of eS3), _, rfl, _, rfl, a, _, _, _, rfl, rfl, hra3, rfl, _, _, rfl, rfl, _, rfl, S, vs, rfl, SqL.of eS3, fun p2 hp2 => ?_⟩
          rw [ec2]
          have s4 := same_new (o := .lst (vs.take (s.length - m))) hp2
          have M4 := M3.newS (vs := vs.take (s.length - m)) (j := i) hp2 htk3 (by rw [List.length_take]; omega) (Nat.le_refl _)
          have hra4 := sqt_same s4 hra3
          have hpt4 := sqt_same s4 hpt
          have hdr4 := CellsAt.same hdr3 s4
          have htk4 := CellsAt.same htk3 s4
          have eP4 : (upd H3 p2 (.lst (vs.take (s.length - m)))) p2 = some (.lst (vs.take (s.length - m))) := upd_same
          generalize (upd H3 p2 (.lst (vs.take (s.length - m)))) = H4 at *
          
          refine ⟨_, rfl, rfl, _, rfl, isF (nstr (by decide +kernel)) ?_⟩
          refine ⟨_, rfl, _, rfl, _, rfl, a, _, _, _, rfl, rfl, hra4, rfl, _, rfl, a, _, _, _, rfl, rfl, hra4, rfl, _, rfl, dk, q, v, vd, kinds, defs, f.1, f.2, _, _, rfl, hv.to (but1_same M4.same), hK, hvd.to (TEx.of_same M4.same) (but1_same M4.same), fun d' hd' => (hdf.kinds d' hd').1, hpt4, hdr4, hd2, hd3, fun u H5 s5 _ hx => ?_⟩
          have hu := hx w hd1
          obtain ⟨ua, rfl⟩ := cellAt_ref hu
          have M5 := M4.to s5
          refine ⟨_, rfl, rfl, _, rfl, isF (fun z => by cases z) ?_⟩
          refine ⟨_, rfl, .inl ⟨rfl, _, SqL.of (s5 _ _ eP4)⟩, _, rfl, p2, _, _, rfl, rfl, s5 _ _ eP4, sl_lt (by rw [List.length_take]; omega), ?_⟩
          exact ⟨p2, Kn, i + 1, _, _, _, _, _, _, _, _, _, _, rfl, M5.setS (by rw [List.reverse_cons]; exact cells_snoc (CellsAt.same htk4 s5) hu) (by rw [List.length_append, List.length_singleton, List.length_take]; omega) (by omega), by omega, g'⟩
        | @same s0 c d e hd =>
          obtain ⟨a, ea, hra⟩ := row_at e
          have hra : SqT K H2 a [.str "same"] := hra
          refine ⟨_, rfl, _, rfl, rb, _, _, _, rfl, rfl, hrb2, atI_nat ea, _, rfl, a, _, _, _, rfl, rfl, hra, rfl, _, rfl, _, _, rfl, rfl, ?_⟩
          dsimp only [gName]
          obtain ⟨vs, u, eS, hvs, hu, lvs⟩ := M.top
          rw [List.reverse_cons] at hvs
          obtain ⟨vs, u2, rfl, hvs, hu2⟩ := cells_last hvs
          rw [List.length_append, List.length_singleton] at lvs
          refine ⟨_, rfl, rfl, _, rfl, isF (nstr (by decide +kernel)) ⟨_, rfl, rfl, _, rfl, isF (nstr (by decide +kernel)) ⟨_, rfl, rfl, _, rfl, isF (nstr (by decide +kernel)) ⟨_, rfl, rfl, _, rfl, isF (nstr (by decide +kernel)) ⟨_, rfl, rfl, _, rfl, isF (nstr (by decide +kernel)) ⟨_, rfl, S, _, rfl, .inl (SqL.of eS), rfl, _, rfl, isF (fun z => by injection z with z; rw [List.length_append, List.length_singleton] at z; omega) ⟨_, rfl, rfl, _, rfl, isF (nstr (by decide +kernel)) ⟨_, rfl, rfl, _, rfl, isF (nstr (by decide +kernel)) ⟨_, rfl, rfl, _, rfl, isF (nstr (by decide +kernel)) ⟨_, rfl, rfl, _, rfl, isF (nstr (by decide +kernel)) ⟨_, rfl, rfl, _, rfl, isF (nstr (by decide +kernel)) ?_⟩⟩⟩⟩⟩⟩⟩⟩⟩⟩⟩
          refine ⟨_, rfl, S, _, rfl, .inl (SqL.of eS), _, _, rfl, rfl, _, rfl, ite2 (fun z => by have := of_decide_eq_true z; simp at this; omega) (fun _ => ?_)⟩
          refine ⟨_, rfl, .inl ⟨rfl, _, SqL.of eS⟩, S, _, u, rfl, rfl, eS, last_at _ _, ?_⟩
          have t1 := TEx.upd_lst (ys := (vs ++ [u2] ++ [u]).dropLast) eS
          have eS2 : (upd H2 S (.lst (vs ++ [u2] ++ [u]).dropLast)) S = some (.lst (vs ++ [u2])) := by rw [upd_same, List.dropLast_concat]
          have M1 : MS K H _ S Kn h (d :: s0) i := M.pop (u := u) (j := i) (by rw [List.reverse_cons]; exact cells_snoc hvs hu2) (by simp; omega) (Nat.le_refl _)
          refine ⟨_, rfl, .inl ⟨rfl, _, SqL.of eS2⟩, S, _, u2, rfl, rfl, eS2, last_at _ _, ?_⟩
          have t2 := TEx.upd_lst (ys := (vs ++ [u2]).dropLast) eS2
          have t12 := t1.trans t2
          have M2 := M1.pop (u := u2) (j := i) (hvs.to t1) (by omega) (Nat.le_refl _)
          have d1 := cell_depth c
          refine ⟨_, rfl, .inl ⟨rfl, _, SqL.of upd_same⟩, _, rfl, _, rfl, _, _, cell_dp c u (hu.to t12), cell_dp d u2 (hu2.to t12), cell_can _, cell_can _, by omega, ?_⟩
          rw [cell_eqv]
          have lst : (vs ++ [u2]).dropLast = vs := List.dropLast_concat
          have fin : ∀ n1 : Int, (.mk n1 [] : Cell) = boolC (c.eqb d) → ∀ (H3 : Hp) p q, H3 S = some (.lst (vs ++ [u2]).dropLast) → MS K H H3 S Kn h s0 i → CellsAt K H3 vs (List.reverse s0) → H3 p = none → upd H3 p (.tup []) q = none → Iv (j + 1) [some (.ref rb), some (.ref lc), some v, some vd, some (.ref S), some (.ref Kn), x6, some (.int ((i : Int) + 1)), some (.int (0 + (j : Int))), some (.ref a), some (.str "same"), x11, x12, some u, some u2] (upd (upd (upd H3 p (.tup [])) q (.tup [.int n1, .ref p])) S (.lst ((vs ++ [u2]).dropLast ++ [.ref q]))) := by
            intro n1 hn H3 p q e3 M3 h3 hp hq
            have s34 := (same_new (o := .tup []) hp).trans (same_new (o := .tup [.int n1, .ref p]) hq)
            exact ⟨S, Kn, i + 1, _, _, _, _, _, _, _, _, _, _, rfl, (M3.to s34).setS (by rw [List.reverse_cons]; exact cells_snoc (by rw [lst]; exact CellsAt.same h3 s34) (cellAt_mk.mpr ⟨q, p, [], rfl, SqT.of upd_same, SqT.of (same_new hq _ _ upd_same), cells_nil.mpr rfl⟩)) (by rw [lst, List.length_append, List.length_singleton]; omega) (by omega), by omega, by rw [hn]; exact g'⟩
          cases hb : c.eqb d with
          | false => exact ⟨_, rfl, iteF ⟨sl_le (by show 0 ≤ 10000000; decide), fun p hp => ⟨sl_le (by show 2 ≤ 10000000; decide), fun q hq => ⟨S, _, _, rfl, rfl, same_new hq _ _ (same_new hp _ _ upd_same), sl_lt (by rw [lst]; omega), fin 0 (by rw [hb]; rfl) _ p q upd_same M2 (hvs.to t12) hp hq⟩⟩⟩⟩
          | true => exact ⟨_, rfl, iteT ⟨sl_le (by show 0 ≤ 10000000; decide), fun p hp => ⟨sl_le (by show 2 ≤ 10000000; decide), fun q hq => ⟨S, _, _, rfl, rfl, same_new hq _ _ (same_new hp _ _ upd_same), sl_lt (by rw [lst]; omega), fin 1 (by rw [hb]; rfl) _ p q upd_same M2 (hvs.to t12) hp hq⟩⟩⟩⟩
        | @isr _ m to n1 cs e hlt =>
          obtain ⟨a, ea, hra⟩ := row_at e
          have hra : SqT K H2 a [.str "is", .int m, .int (to : Int)] := hra
          refine ⟨_, rfl, _, rfl, rb, _, _, _, rfl, rfl, hrb2, atI_nat ea, _, rfl, a, _, _, _, rfl, rfl, hra, rfl, _, rfl, _, _, rfl, rfl, ?_⟩
          dsimp only [gName]
          obtain ⟨vs, u, eS, hvs, hu, lvs⟩ := M.top
          obtain ⟨ca, cb, cvs, rfl, hca, hcb, hcvs⟩ := cellAt_mk.mp hu
          refine ⟨_, rfl, rfl, _, rfl, isF (nstr (by decide +kernel)) ⟨_, rfl, rfl, _, rfl, isF (nstr (by decide +kernel)) ⟨_, rfl, rfl, _, rfl, isF (nstr (by decide +kernel)) ⟨_, rfl, rfl, _, rfl, isF (nstr (by decide +kernel)) ⟨_, rfl, rfl, _, rfl, isF (nstr (by decide +kernel)) ⟨_, rfl, S, _, rfl, .inl (SqL.of eS), rfl, _, rfl, isF (fun z => by injection z with z; rw [List.length_append, List.length_singleton] at z; omega) ⟨_, rfl, rfl, _, rfl, isF (nstr (by decide +kernel)) ⟨_, rfl, rfl, _, rfl, isF (nstr (by decide +kernel)) ⟨_, rfl, rfl, _, rfl, isF (nstr (by decide +kernel)) ⟨_, rfl, rfl, _, rfl, isT rfl ?_⟩⟩⟩⟩⟩⟩⟩⟩⟩⟩
          refine ⟨_, rfl, _, rfl, S, _, _, _, rfl, rfl, SqL.of eS, atI_last _ _, ca, _, _, _, rfl, rfl, hca, rfl, _, rfl, a, _, _, _, rfl, rfl, hra, rfl, rfl, _, rfl, ?_⟩
          by_cases hn : n1 = m
          · rw [if_pos hn] at g'
            exact isNF (by rw [hn]) ⟨S, Kn, i + 1, _, _, _, _, _, _, _, _, _, _, rfl, M.mono (by omega), by omega, g'⟩
          · rw [if_neg hn] at g'
            exact isNT (fun z => hn (by injection z)) ⟨_, rfl, a, _, _, _, rfl, rfl, hra, rfl, S, Kn, to, _, _, _, _, _, _, _, _, _, _, rfl, M.mono (by omega), by omega, g'⟩
        | go e hlt =>
          obtain ⟨a, ea, hra⟩ := row_at e
          have hra : SqT K H2 a [.str "go", .int ((_ : Nat) : Int)] := hra
          refine ⟨_, rfl, _, rfl, rb, _, _, _, rfl, rfl, hrb2, atI_nat ea, _, rfl, a, _, _, _, rfl, rfl, hra, rfl, _, rfl, _, _, rfl, rfl, ?_⟩
          dsimp only [gName]
          refine ⟨_, rfl, rfl, _, rfl, isT rfl ?_⟩
          exact ⟨_, rfl, a, _, _, _, rfl, rfl, hra, rfl, S, Kn, _, _, _, _, _, _, _, _, _, _, _, rfl, M.mono (by omega), by omega, g'⟩
    · rintro σ H2 ⟨S, Kn, i, h, s, x6, x8, x9, x10, x11, x12, x13, x14, rfl, M, hji, g⟩
      have hin := g.le
      have hnF := (List.getElem?_eq_some_iff.mp hback).1
      omega
end
end K87

set_option Elab.async false
set_option linter.all false
set_option maxRecDepth 100000
set_option maxHeartbeats 4000000
/-! No row of the maker has a number below 0. -/
namespace K87
open Mch
variable {N : Type}
def posR (p : N → Prop) : Row N → Prop
  | .make m _ => 0 ≤ m
  | .isr m _ => 0 ≤ m
  | .call f _ => p f
  | _ => True
def PosL (p : N → Prop) (l : List (Row N)) : Prop := ∀ r ∈ l, posR p r
/-! the names that are called -/
mutual
def nmT (p : N → Prop) : Told N → Prop
  | .loc _ => True
  | .letT a b => nmT p a ∧ nmT p b
  | .ifT a b c => nmT p a ∧ nmT p b ∧ nmT p c
  | .same _ a b => nmT p a ∧ nmT p b
  | .call f ps => p f ∧ nmTs p ps
  | .make _ _ ps => nmTs p ps
  | .case _ a arms => nmT p a ∧ nmArms p arms
def nmTs (p : N → Prop) : Tolds N → Prop
  | .nil => True
  | .cons t r => nmT p t ∧ nmTs p r
def nmArms (p : N → Prop) : Arms N → Prop
  | .nil => True
  | .cons f t r => nmT p t ∧ nmArms p r
end
section
variable {kinds : List (List (List Nat))} {dk : N → List Nat → Nat → Prop} {p : N → Prop} (hp : ∀ f gs k, dk f gs k → p f)
include hp
mutual
theorem told_nm : ∀ (t : Told N) (G : List Nat) (k : Nat), ToldK kinds dk t G k → nmT p t
  | .loc n, G, k, h => by rw [nmT]; trivial
  | .letT a b, G, k, h => by
    rw [ToldK] at h
    obtain ⟨ka, h1, h2⟩ := h
    rw [nmT]
    exact ⟨told_nm a G ka h1, told_nm b _ k h2⟩
  | .ifT a b c, G, k, h => by
    rw [ToldK] at h
    rw [nmT]
    exact ⟨told_nm a G 0 h.1, told_nm b G k h.2.1, told_nm c G k h.2.2⟩
  | .same kk a b, G, k, h => by
    rw [ToldK] at h
    rw [nmT]
    exact ⟨told_nm a G kk h.2.1, told_nm b G kk h.2.2⟩
  | .call f ps, G, k, h => by
    rw [ToldK] at h
    obtain ⟨gs, h1, h⟩ := h
    rw [nmT]
    exact ⟨hp _ _ _ h1, tolds_nm ps G gs h⟩
  | .make kk m ps, G, k, h => by
    rw [ToldK] at h
    obtain ⟨_, qs, _, h⟩ := h
    rw [nmT]
    exact tolds_nm ps G qs h
  | .case kk a arms, G, k, h => by
    rw [ToldK] at h
    rw [nmT]
    exact ⟨told_nm a G kk h.1, arms_nm arms G kk k h.2.1⟩
theorem tolds_nm : ∀ (ps : Tolds N) (G : List Nat) (ks : List Nat), ToldsK kinds dk ps G ks → nmTs p ps
  | .nil, G, ks, h => by rw [nmTs]; trivial
  | .cons t r, G, ks, h => by
    rw [ToldsK] at h
    obtain ⟨k, q, rfl, h1, h2⟩ := h
    rw [nmTs]
    exact ⟨told_nm t G k h1, tolds_nm r G q h2⟩
theorem arms_nm : ∀ (as : Arms N) (G : List Nat) (kk k : Nat), ArmsK kinds dk as G kk k → nmArms p as
  | .nil, G, kk, k, h => by rw [nmArms]; trivial
  | .cons f t r, G, kk, k, h => by
    rw [ArmsK] at h
    rw [nmArms]
    exact ⟨told_nm t _ k h.2.1, arms_nm r G kk k h.2.2⟩
end
end
section
variable {p : N → Prop}
theorem PosL.nil : PosL p ([] : List (Row N)) := fun r h => by cases h
theorem PosL.cons {r : Row N} {l : List (Row N)} (h : posR p r) (g : PosL p l) : PosL p (r :: l) := fun q hq => by
  rcases List.mem_cons.mp hq with rfl | hq
  · exact h
  · exact g q hq
theorem PosL.append {a b : List (Row N)} (h : PosL p a) (g : PosL p b) : PosL p (a ++ b) := fun q hq => by
  rcases List.mem_append.mp hq with hq | hq
  · exact h q hq
  · exact g q hq
theorem PosL.one {r : Row N} {l : List (Row N)} (g : PosL p l) (h : posR p r) : PosL p (l ++ [r]) := g.append (.cons h .nil)
theorem pos_int (m : Nat) : 0 ≤ (m : Int) := by omega
mutual
theorem testF_pos (root first : Nat) : ∀ (f : Form) (seat : Nat) (at_ : Option Nat) (T : Ts N), PosL p T.rows → PosL p (testF root first f seat at_ T).rows
  | .any, seat, at_, T, h => by rw [testF]; exact h
  | .bind, seat, none, T, h => by rw [testF]; exact h
  | .bind, seat, some p, T, h => by rw [testF]; exact h.append (.cons trivial (.cons trivial (.cons trivial .nil)))
  | .make m .nil, seat, none, T, h => by rw [testF]; exact h.append (.cons trivial (.cons (pos_int m) (.cons trivial .nil)))
  | .make m .nil, seat, some p, T, h => by rw [testF]; exact h.append (.cons trivial (.cons trivial (.cons (pos_int m) (.cons trivial .nil))))
  | .make m (.cons f r), seat, none, T, h => by
    rw [testF]
    exact testFs_pos root first (.cons f r) seat 0 _ (h.append (.cons trivial (.cons (pos_int m) (.cons trivial .nil))))
  | .make m (.cons f r), seat, some p, T, h => by
    rw [testF]
    exact testFs_pos root first (.cons f r) _ 0 _ (h.append (.cons trivial (.cons trivial (.cons (pos_int m) (.cons trivial .nil)))))
theorem testFs_pos (root first : Nat) : ∀ (fs : Forms) (seat n : Nat) (T : Ts N), PosL p T.rows → PosL p (testFs root first fs seat n T).rows
  | .nil, seat, n, T, h => by rw [testFs]; exact h
  | .cons f r, seat, n, T, h => by
    rw [testFs]
    exact testFs_pos root first r seat (n + 1) _ (testF_pos root first f seat (some n) T h)
end
theorem undo_pos (first : Nat) : ∀ (n : Nat) (S : St N), PosL p S.rows → PosL p (undo first n S).rows
  | 0, S, h => h
  | n + 1, S, h => by
    rw [undo]
    exact undo_pos first n _ (PosL.one (l := S.rows) h trivial)
mutual
theorem doT_pos : ∀ (t : Told N) (S : St N), nmT p t → PosL p S.rows → PosL p (doT t S).rows
  | .loc n, S, q, h => by rw [doT]; exact PosL.one h trivial
  | .letT a b, S, q, h => by
    rw [doT]
    rw [nmT] at q
    exact PosL.one (doT_pos b _ q.2 (PosL.one (doT_pos a S q.1 h) trivial)) trivial
  | .ifT a b c, S, q, h => by
    rw [doT]
    rw [nmT] at q
    exact doT_pos c _ q.2.2 (PosL.one (PosL.one (doT_pos b _ q.2.1 (PosL.one (PosL.one (doT_pos a _ q.1 h) (pos_int 1)) trivial)) trivial) trivial)
  | .same k a b, S, q, h => by
    rw [doT]
    rw [nmT] at q
    exact PosL.one (doT_pos b _ q.2 (doT_pos a S q.1 h)) trivial
  | .call f ps, S, q, h => by
    rw [doT]
    rw [nmT] at q
    exact PosL.one (doTs_pos ps S q.2 h) q.1
  | .make k m ps, S, q, h => by
    rw [doT]
    rw [nmT] at q
    exact PosL.one (doTs_pos ps S q h) (pos_int m)
  | .case k a arms, S, q, h => by
    rw [doT]
    rw [nmT] at q
    exact PosL.one (doArms_pos arms _ _ _ _ _ q.2 (PosL.one (doT_pos a _ q.1 h) trivial)) trivial
theorem doTs_pos : ∀ (ps : Tolds N) (S : St N), nmTs p ps → PosL p S.rows → PosL p (doTs ps S).rows
  | .nil, S, q, h => by rw [doTs]; exact h
  | .cons t r, S, q, h => by
    rw [doTs]
    rw [nmTs] at q
    exact doTs_pos r _ q.2 (doT_pos t S q.1 h)
theorem doArms_pos : ∀ (as : Arms N) (seats : List Nat) (held e first : Nat) (S : St N), nmArms p as → PosL p S.rows → PosL p (doArms as seats held e first S).rows
  | .nil, seats, held, e, first, S, q, h => by rw [doArms]; exact h
  | .cons f t r, seats, held, e, first, S, q, h => by
    rw [doArms]
    rw [nmArms] at q
    refine doArms_pos r seats held e _ _ q.2 ?_
    have h1 := doT_pos t ((S.addAll (tests N f held first).rows).seat (seats ++ (tests N f held first).bound) (held + 1 + (tests N f held first).kept)) q.1 (PosL.append h (testF_pos held first f held none _ .nil))
    have h2 : PosL p ((if 0 < (tests N f held first).kept then (doT t ((S.addAll (tests N f held first).rows).seat (seats ++ (tests N f held first).bound) (held + 1 + (tests N f held first).kept))).add (.forget (tests N f held first).kept) else doT t ((S.addAll (tests N f held first).rows).seat (seats ++ (tests N f held first).bound) (held + 1 + (tests N f held first).kept))).add (.go e)).rows := by
      refine PosL.one ?_ trivial
      split
      · exact PosL.one h1 trivial
      · exact h1
    have h3 := undo_pos first (tests N f held first).kept _ h2
    split
    · exact h3
    · exact PosL.one h3 trivial
end
theorem compile_pos (many : Nat) (t : Told N) (q : nmT p t) : PosL p (compile many t) := by
  unfold compile
  intro r hr
  obtain ⟨z, hz, rfl⟩ := List.mem_map.mp hr
  have := PosL.one (doT_pos t (start many) q .nil) (r := .back) trivial z hz
  cases z <;> exact this
end
end K87

set_option Elab.async false
set_option linter.all false
set_option maxRecDepth 100000
set_option maxHeartbeats 4000000
namespace K87
open PySem PySem.Spec PyProof.Rows L2 Ru Rp Mch
def szs : List (Key × V) := [(Sum.inr "local", .int 2), (Sum.inr "keep", .int 1), (Sum.inr "forget", .int 2), (Sum.inr "make", .int 3), (Sum.inr "part", .int 2), (Sum.inr "call", .int 4), (Sum.inr "same", .int 1), (Sum.inr "is", .int 3), (Sum.inr "go", .int 2)]
def szF : List (Key × V) := putK (putK (mergeK [] szs) (Sum.inr "drop") (.int 1)) (Sum.inr "back") (.int 1)
theorem row_plain {q : Nm → Prop} (r : Row Nm) (hp : posR q r) : ∃ (w : Str) (ws : List V), rowV r = .str w :: ws ∧ valV szF (Sum.inr w) = some (.int ((ws.length : Int) + 1)) ∧ ws.length ≤ 3 ∧ ∀ j x, ws[j]? = some x → (w = "call" ∧ j < 2 → ∃ z, x = .str z) ∧ (¬ (w = "call" ∧ j < 2) → ∃ n : Int, x = .int n ∧ 0 ≤ n) := by
  have one : ∀ (w : Str) (n : Int), ¬ w = "call" → 0 ≤ n → ∀ j x, ([.int n] : List V)[j]? = some x → (w = "call" ∧ j < 2 → ∃ z, x = .str z) ∧ (¬ (w = "call" ∧ j < 2) → ∃ n : Int, x = .int n ∧ 0 ≤ n) := fun w n hw hn j x e => ⟨fun z => absurd z.1 hw, fun _ => by
    match j with
    | 0 => cases e; exact ⟨n, rfl, hn⟩
    | j + 1 => simp at e⟩
  have two : ∀ (w : Str) (n m : Int), ¬ w = "call" → 0 ≤ n → 0 ≤ m → ∀ j x, ([.int n, .int m] : List V)[j]? = some x → (w = "call" ∧ j < 2 → ∃ z, x = .str z) ∧ (¬ (w = "call" ∧ j < 2) → ∃ n : Int, x = .int n ∧ 0 ≤ n) := fun w n m hw hn hm j x e => ⟨fun z => absurd z.1 hw, fun _ => by
    match j with
    | 0 => cases e; exact ⟨n, rfl, hn⟩
    | 1 => cases e; exact ⟨m, rfl, hm⟩
    | j + 2 => simp at e⟩
  have zero : ∀ (w : Str), ∀ j x, ([] : List V)[j]? = some x → (w = "call" ∧ j < 2 → ∃ z, x = .str z) ∧ (¬ (w = "call" ∧ j < 2) → ∃ n : Int, x = .int n ∧ 0 ≤ n) := fun w j x e => by simp at e
  cases r with
  | loc n => exact ⟨_, _, rfl, (show valV szF (Sum.inr "local") = some (.int 2) by decide +kernel), by simp, one _ _ (by decide +kernel) (by omega)⟩
  | drop => exact ⟨_, _, rfl, by decide +kernel, by simp, zero _⟩
  | keep => exact ⟨_, _, rfl, by decide +kernel, by simp, zero _⟩
  | forget n => exact ⟨_, _, rfl, (show valV szF (Sum.inr "forget") = some (.int 2) by decide +kernel), by simp, one _ _ (by decide +kernel) (by omega)⟩
  | part n => exact ⟨_, _, rfl, (show valV szF (Sum.inr "part") = some (.int 2) by decide +kernel), by simp, one _ _ (by decide +kernel) (by omega)⟩
  | make m n => exact ⟨_, _, rfl, (show valV szF (Sum.inr "make") = some (.int 3) by decide +kernel), by simp, two _ _ _ (by decide +kernel) hp (by omega)⟩
  | same => exact ⟨_, _, rfl, by decide +kernel, by simp, zero _⟩
  | call f n =>
    refine ⟨_, _, rfl, (show valV szF (Sum.inr "call") = some (.int 4) by decide +kernel), by simp, fun j x e => ?_⟩
    match j with
    | 0 => cases e; exact ⟨fun _ => ⟨_, rfl⟩, fun z => absurd ⟨rfl, by omega⟩ z⟩
    | 1 => cases e; exact ⟨fun _ => ⟨_, rfl⟩, fun z => absurd ⟨rfl, by omega⟩ z⟩
    | 2 => cases e; exact ⟨fun z => absurd z.2 (by omega), fun _ => ⟨_, rfl, by omega⟩⟩
    | j + 3 => simp at e
  | isr m to => exact ⟨_, _, rfl, (show valV szF (Sum.inr "is") = some (.int 3) by decide +kernel), by simp, two _ _ _ (by decide +kernel) hp (by omega)⟩
  | go to => exact ⟨_, _, rfl, (show valV szF (Sum.inr "go") = some (.int 2) by decide +kernel), by simp, one _ _ (by decide +kernel) (by omega)⟩
  | back => exact ⟨_, _, rfl, by decide +kernel, by simp, zero _⟩
section
variable {P : Program} {w : World} {K : PySem.W.Frag} {mg : Str → Option Value} {base : Heap}
abbrev N__law_plain_rows : List Str := ["rows", "sizes", "row", "k"]
theorem sc__law_plain_rows : FnScope N__law_plain_rows ["rows"] (defScope s__law_plain_rows) := ⟨rfl, rfl, rfl, by decide +kernel, rfl, by decide +kernel, by decide +kernel⟩
def spPlain (K : PySem.W.Frag) : Sp := fun vs H Q _ => ∃ (u : V) (F : List (Row Nm)), vs = [u] ∧ RowsAt K H u F ∧ (∃ q, PosL q F) ∧ ∀ H', Same H H' → Q (.bl true) H'
theorem ok_plain (T : Txt K mg) : FnOk P w K mg base CX0 1 T.f__law_plain_rows T.fd__law_plain_rows ["rows"] (spPlain K) := by
  refine T.F__law_plain_rows.ok sc__law_plain_rows (fun vs H Q E h => ?_) (fun cdv A outer sh H vs Q E hr h => ?_)
  · obtain ⟨u, F, rfl, _⟩ := h
    rfl
  · obtain ⟨u, F, rfl, hu, ⟨q0, hpos⟩, kk⟩ := h
    have nd := sc__law_plain_rows.nd
    have hu' := hu_of hr
    obtain ⟨rb, rvs, rfl, hrb, hrs⟩ := hu
    have hu := hu'
    refine ⟨_, (pss_cons (ps_set (i := 1) nd rfl (Or.inl rfl) (pe_disp (pps_cons pe_str pe_int (pps_cons pe_str pe_int (pps_cons pe_str pe_int (pps_cons pe_str pe_int (pps_cons pe_str pe_int (pps_cons pe_str pe_int (pps_cons pe_str pe_int (pps_cons pe_str pe_int (pps_cons pe_str pe_int pps_nil))))))))) (by rfl) (by rfl) (fun z => by cases z) (by decide)))
          (pss_cons (ps_dput hu (pv 1) pe_str pe_int rfl)
          (pss_cons (ps_dput hu (pv 1) pe_str pe_int rfl)
          (pss_cons (ps_if (pt_not (pt_val (pe_callB call_isi (by rfl) T.z_isinstance (by decide +kernel) (pa_cons (pv 0) (pa_cons (pe_bltn (v := .ty "tuple") (by rfl) T.z_tuple (by decide +kernel) rfl) pa_nil)))))
            (pss_one (ps_ret pe_bl))
            pss_nil)
          (pss_cons (ps_for PassesOwn.never rfl (pi_tup (pv 0)) (pg_name (i := 2) nd rfl (Or.inl rfl))
            (pss_cons (ps_if (PW.pt (pw_or (pt_not (pt_val (pe_callB call_isi (by rfl) T.z_isinstance (by decide +kernel) (pa_cons (pv 2) (pa_cons (pe_bltn (v := .ty "tuple") (by rfl) T.z_tuple (by decide +kernel) rfl) pa_nil))))) (pw_or (pt_cmpR op_eq (pe_callB call_len_seq (by rfl) T.z_len (by decide +kernel) (pa_cons (pv 2) pa_nil)) pe_int (nomark _)) (pw_or1 (pt_not (pt_val (pe_callB call_isi (by rfl) T.z_isinstance (by decide +kernel) (pa_cons (pe_ix ix_tup (pv 2) pe_int (fun _ _ => rfl)) (pa_cons (pe_bltn (v := .ty "str") (by rfl) T.z_str (by decide +kernel) rfl) pa_nil)))))))))
              (pss_one (ps_ret pe_bl))
              pss_nil)
            (pss_cons (ps_if (PW.pt (pw_or (pt_cmp (pc_dnotin hu (pe_ix ix_tup (pv 2) pe_int (fun _ _ => rfl)) (pv 1))) (pw_or1 (pt_cmpR op_ne (pe_dget hu (pv 1) (pe_ix ix_tup (pv 2) pe_int (fun _ _ => rfl)) (fun _ _ => rfl)) (pe_callB call_len_seq (by rfl) T.z_len (by decide +kernel) (pa_cons (pv 2) pa_nil)) (nomark _)))))
              (pss_one (ps_ret pe_bl))
              pss_nil)
            (pss_one (ps_for PassesOwn.never rfl (pi_range2 rfl T.z_range (pa_cons pe_int (pa_cons (pe_callB call_len_seq (by rfl) T.z_len (by decide +kernel) (pa_cons (pv 2) pa_nil)) pa_nil))) (pg_name (i := 3) nd rfl (Or.inl rfl))
              (pss_one (ps_if (PW.pt (pw_and (pt_cmpR op_eq (pe_ix ix_tup (pv 2) pe_int (fun _ _ => rfl)) pe_str (nomark _)) (pw_and1 (pt_cmpR op_lt (pv 3) pe_int (nomark _)))))
                (pss_one (ps_if (pt_not (pt_val (pe_callB call_isi (by rfl) T.z_isinstance (by decide +kernel) (pa_cons (pe_ix ix_tup (pv 2) (pv 3) (fun _ _ => rfl)) (pa_cons (pe_bltn (v := .ty "str") (by rfl) T.z_str (by decide +kernel) rfl) pa_nil)))))
                  (pss_one (ps_ret pe_bl))
                  pss_nil))
                (pss_one (ps_if (PW.pt (pw_or (pt_not (pt_val (pe_callB call_isi (by rfl) T.z_isinstance (by decide +kernel) (pa_cons (pe_ix ix_tup (pv 2) (pv 3) (fun _ _ => rfl)) (pa_cons (pe_bltn (v := .ty "int") (by rfl) T.z_int (by decide +kernel) rfl) pa_nil))))) (pw_or (pt_val (pe_callB call_isi (by rfl) T.z_isinstance (by decide +kernel) (pa_cons (pe_ix ix_tup (pv 2) (pv 3) (fun _ _ => rfl)) (pa_cons (pe_bltn (v := .ty "bool") (by rfl) T.z_bool (by decide +kernel) rfl) pa_nil)))) (pw_or1 (pt_cmpR op_lt (pe_ix ix_tup (pv 2) (pv 3) (fun _ _ => rfl)) pe_int (nomark _))))))
                  (pss_one (ps_ret pe_bl))
                  pss_nil)))))))))
          (pss_one (ps_ret pe_bl))))))), ?_⟩
    intro p hp
    refine ⟨upd_same, szs, rfl, by decide, ?_⟩
    refine ⟨_, rfl, p, _, rfl, DPut.k (k := Sum.inr "drop") upd_same (sl_lt (by decide)), ?_⟩
    refine ⟨_, rfl, p, _, rfl, DPut.k (k := Sum.inr "back") upd_same (sl_lt (by decide)), ?_⟩
    have s1 : Same H (upd (upd (upd (upd H p (HO.dK [])) p (HO.dK (mergeK [] szs))) p (.dK (putK (mergeK [] szs) (Sum.inr "drop") (.int 1)))) p (.dK szF)) := fun b o e => by
      have n := ne_of_none e hp
      rw [upd_ne n, upd_ne n, upd_ne n, upd_ne n]
      exact e
    have e1 : (upd (upd (upd (upd H p (HO.dK [])) p (HO.dK (mergeK [] szs))) p (.dK (putK (mergeK [] szs) (Sum.inr "drop") (.int 1)))) p (.dK szF)) p = some (.dK szF) := upd_same
    have hrb1 := sqt_same s1 hrb
    dsimp only [gName]
    refine ⟨_, rfl, _, _, _, _, true, rfl, .ty _, ty_tup hrb1, kit_ty rfl, _, rfl, iteF ?_⟩
    show tSeq _ _ _ _ (upd (upd (upd (upd H p (HO.dK [])) p (HO.dK (mergeK [] szs))) p (.dK (putK (mergeK [] szs) (Sum.inr "drop") (.int 1)))) p (.dK szF))
    generalize (upd (upd (upd (upd H p (HO.dK [])) p (HO.dK (mergeK [] szs))) p (.dK (putK (mergeK [] szs) (Sum.inr "drop") (.int 1)))) p (.dK szF)) = H1 at *
    refine ⟨_, rfl, rb, rfl, ⟨_, hrb1⟩, for_tup (K := K) (a := rb) (xs := rvs) (fun i σ H' => ∃ (x2 x3 : Option V), σ = [some (.ref rb), some (.ref p), x2, x3] ∧ H1 = H') ⟨none, none, rfl, rfl⟩ (fun i σ H' _ ⟨_, _, _, e⟩ => by rw [← e]; exact hrb1) ?_ ?_⟩
    · rintro i y σ H' hy ⟨x2, x3, rfl, rfl⟩
      have hi : i < F.length := by
        have := (List.getElem?_eq_some_iff.mp hy).1
        have := Paired.length hrs
        omega
      obtain ⟨y', e2, a, rfl, hra⟩ := paired_get hrs (List.getElem?_eq_getElem hi)
      rw [hy] at e2
      cases e2
      obtain ⟨wd, ws, erow, eval, hws, hitems⟩ := row_plain F[i] (hpos _ (List.getElem_mem hi))
      rw [erow] at hra
      have hra1 := sqt_same s1 hra
      dsimp only [gName]
      refine ⟨_, rfl, _, _, _, _, true, rfl, .ty _, ty_tup hra1, kit_ty rfl, _, rfl, iteF ?_⟩
      refine ⟨_, rfl, a, _, rfl, .inr hra1, rfl, _, rfl, isF (fun z => by injection z with z; rw [List.length_cons] at z; omega) ?_⟩
      refine ⟨_, rfl, a, _, _, _, rfl, rfl, hra1, atI_hd, _, _, _, _, true, rfl, .ty _, .base (.str wd), kit_ty rfl, _, rfl, iteF ?_⟩
      refine ⟨_, rfl, a, _, _, _, rfl, rfl, hra1, atI_hd, _, rfl, p, _, rfl, DGet.k (k := Sum.inr wd) e1, _, rfl, ?_⟩
      rw [eval]
      refine iteF ⟨_, rfl, _, rfl, a, _, _, _, rfl, rfl, hra1, atI_hd, p, _, rfl, ?_, _, rfl, a, _, rfl, .inr hra1, rfl, _, rfl, isNF rfl ?_⟩
      · have := DGet.k (k := Sum.inr wd) e1
        rw [eval] at this
        exact this
      refine ⟨_, rfl, a, _, rfl, .inr hra1, 1, ((ws.length + 1 : Nat) : Int), rfl, ⟨by decide, by decide, by omega, by omega⟩, for_range (lo := 1) (n := (((ws.length + 1 : Nat) : Int) - 1).toNat) (fun j σ H' => ∃ (x3 : Option V), σ = [some (.ref rb), some (.ref p), some (.ref a), x3] ∧ H1 = H') ⟨_, rfl, rfl⟩ ?_ ?_⟩
      · rintro j σ H' hj ⟨x3, rfl, rfl⟩
        have hjw : j < ws.length := by omega
        have ej := List.getElem?_eq_getElem hjw
        obtain ⟨g1, g2⟩ := hitems j _ ej
        have eat : atI (V.str wd :: ws) (1 + (j : Int)) = some ws[j] := by
          have := atI_nat (xs := V.str wd :: ws) (j := j + 1) (v := ws[j]) (by rw [List.getElem?_cons_succ]; exact ej)
          rw [show ((j + 1 : Nat) : Int) = 1 + (j : Int) by omega] at this
          exact this
        generalize ws[j] = x at *
        dsimp only [gName]
        by_cases hw : wd = "call"
        · refine ⟨_, rfl, a, _, _, _, rfl, rfl, hra1, atI_hd, rfl, _, rfl, isT (by rw [hw]) ⟨_, rfl, _, _, rfl, rfl, _, rfl, ite2 (fun z => ?_) (fun z => ?_)⟩⟩
          · have h3 := of_decide_eq_true z
            obtain ⟨q, rfl⟩ := g1 ⟨hw, by omega⟩
            exact ⟨_, rfl, _, rfl, a, _, _, _, rfl, rfl, hra1, eat, _, _, _, _, true, rfl, .ty _, .base (.str q), kit_ty rfl, _, rfl, iteF ⟨_, rfl, rfl⟩⟩
          · have h3 : ¬ (1 + (j : Int) < 3) := fun h => z (decide_eq_true h)
            obtain ⟨n, rfl, hn0⟩ := g2 (fun h => by omega)
            exact ⟨_, rfl, _, rfl, a, _, _, _, rfl, rfl, hra1, eat, _, _, _, _, true, rfl, .ty _, .base (.int n), kit_ty rfl, _, rfl, iteF ⟨_, rfl, _, rfl, a, _, _, _, rfl, rfl, hra1, eat, _, _, _, _, false, rfl, .ty _, .base (.int n), kit_ty rfl, _, rfl, iteF ⟨_, rfl, _, rfl, a, _, _, _, rfl, rfl, hra1, eat, _, _, rfl, rfl, _, rfl, ite2 (fun z => by have := of_decide_eq_true z; omega) (fun _ => ⟨_, rfl, rfl⟩)⟩⟩⟩
        · obtain ⟨n, rfl, hn0⟩ := g2 (fun h => hw h.1)
          exact ⟨_, rfl, a, _, _, _, rfl, rfl, hra1, atI_hd, rfl, _, rfl, isF (nstr hw) ⟨_, rfl, _, rfl, a, _, _, _, rfl, rfl, hra1, eat, _, _, _, _, true, rfl, .ty _, .base (.int n), kit_ty rfl, _, rfl, iteF ⟨_, rfl, _, rfl, a, _, _, _, rfl, rfl, hra1, eat, _, _, _, _, false, rfl, .ty _, .base (.int n), kit_ty rfl, _, rfl, iteF ⟨_, rfl, _, rfl, a, _, _, _, rfl, rfl, hra1, eat, _, _, rfl, rfl, _, rfl, ite2 (fun z => by have := of_decide_eq_true z; omega) (fun _ => ⟨_, rfl, rfl⟩)⟩⟩⟩⟩
      · rintro σ H' ⟨x3, rfl, rfl⟩
        exact ⟨_, _, rfl, rfl⟩
    · rintro σ H' ⟨x2, x3, rfl, rfl⟩
      exact kk _ s1
end
end K87

set_option Elab.async false
set_option linter.all false
set_option maxRecDepth 100000
set_option maxHeartbeats 4000000
/-! Kinds and defs, as they are drawn. -/
namespace K87
open PySem PySem.Spec PyProof.Rows L2 Ru Rp Mch
/-- all but the objects at g stand -/
def ButG (H H' : Hp) (g : List Addr) : Prop := ∀ b o, H b = some o → b ∉ g → H' b = some o
theorem ButG.of_same {H H' : Hp} {g : List Addr} (s : Same H H') : ButG H H' g := fun b o e _ => s b o e
theorem ButG.of1 {H H' : Hp} {g : List Addr} {a : Addr} (s : But1 H H' a) (h : a ∈ g) : ButG H H' g := fun b o e n => s b o e fun z => n (z ▸ h)
theorem ButG.upd {H : Hp} {g : List Addr} {a : Addr} {o : HO} (h : a ∈ g) : ButG H (L2.upd H a o) g := fun b u e n => by
  rw [upd_ne (fun z : b = a => n (by rw [z]; exact h))]
  exact e
theorem ButG.more {H H' : Hp} {g : List Addr} {a : Addr} (s : ButG H H' g) : ButG H H' (a :: g) := fun b o e n => s b o e fun z => n (List.mem_cons_of_mem _ z)
section
def PG (H : Hp) (g : List Addr) (v : V) (ps : List Nat) : Prop := ∃ l, v = .ref l ∧ H l = some (.lst (natVs ps)) ∧ l ∉ g
def MG (H : Hp) (g : List Addr) (v : V) (ms : List (List Nat)) : Prop := ∃ l vs, v = .ref l ∧ H l = some (.lst vs) ∧ l ∉ g ∧ Paired (PG H (l :: g)) vs ms
def KG (H : Hp) (g : List Addr) (v : V) (ks : Kinds) : Prop := ∃ l vs, v = .ref l ∧ H l = some (.lst vs) ∧ l ∉ g ∧ Paired (MG H (l :: g)) vs ks
variable {H H' : Hp} {g g' : List Addr} {v : V}
theorem PG.to {ps : List Nat} (b : ButG H H' g) (h : PG H g v ps) : PG H' g v ps := by
  obtain ⟨l, rfl, e, n⟩ := h
  exact ⟨l, rfl, b _ _ e n, n⟩
theorem MG.to {ms : List (List Nat)} (b : ButG H H' g) (h : MG H g v ms) : MG H' g v ms := by
  obtain ⟨l, vs, rfl, e, n, p⟩ := h
  exact ⟨l, vs, rfl, b _ _ e n, n, L2.Paired.mapP p fun _ _ q => q.to b.more⟩
theorem KG.to {ks : Kinds} (b : ButG H H' g) (h : KG H g v ks) : KG H' g v ks := by
  obtain ⟨l, vs, rfl, e, n, p⟩ := h
  exact ⟨l, vs, rfl, b _ _ e n, n, L2.Paired.mapP p fun _ _ q => q.to b.more⟩
/-- other guards: those that are not new stand already -/
theorem PG.guard {ps : List Nat} (hn : ∀ a ∈ g', a ∈ g ∨ H a = none) (h : PG H g v ps) : PG H g' v ps := by
  obtain ⟨l, rfl, e, n⟩ := h
  exact ⟨l, rfl, e, fun z => (hn l z).elim n fun z => by rw [e] at z; cases z⟩
theorem guard_more {a : Addr} (hn : ∀ a ∈ g', a ∈ g ∨ H a = none) : ∀ b ∈ a :: g', b ∈ a :: g ∨ H b = none := fun b hb => by
  rcases List.mem_cons.mp hb with rfl | hb
  · exact .inl List.mem_cons_self
  · exact (hn b hb).imp (List.mem_cons_of_mem _) id
theorem MG.guard {ms : List (List Nat)} (hn : ∀ a ∈ g', a ∈ g ∨ H a = none) (h : MG H g v ms) : MG H g' v ms := by
  obtain ⟨l, vs, rfl, e, n, p⟩ := h
  exact ⟨l, vs, rfl, e, fun z => (hn l z).elim n (fun z => by rw [e] at z; cases z), L2.Paired.mapP p fun _ _ q => q.guard (guard_more hn)⟩
theorem KG.guard {ks : Kinds} (hn : ∀ a ∈ g', a ∈ g ∨ H a = none) (h : KG H g v ks) : KG H g' v ks := by
  obtain ⟨l, vs, rfl, e, n, p⟩ := h
  exact ⟨l, vs, rfl, e, fun z => (hn l z).elim n (fun z => by rw [e] at z; cases z), L2.Paired.mapP p fun _ _ q => q.guard (guard_more hn)⟩
theorem PG.at_ {ps : List Nat} {dk : Addr} (hd : dk ∈ g) (h : PG H g v ps) : PartsAt H dk v ps := by
  obtain ⟨l, rfl, e, n⟩ := h
  exact ⟨l, rfl, e, fun z => n (z ▸ hd)⟩
theorem MG.at_ {ms : List (List Nat)} {dk : Addr} (hd : dk ∈ g) (h : MG H g v ms) : MakersAt H dk v ms := by
  obtain ⟨l, vs, rfl, e, n, p⟩ := h
  exact ⟨l, vs, rfl, e, fun z => n (z ▸ hd), L2.Paired.mapP p fun _ _ q => q.at_ (List.mem_cons_of_mem _ hd)⟩
theorem KG.at_ {ks : Kinds} {dk : Addr} (hd : dk ∈ g) (h : KG H g v ks) : KindsAt H dk v ks := by
  obtain ⟨l, vs, rfl, e, n, p⟩ := h
  exact ⟨l, vs, rfl, e, fun z => n (z ▸ hd), L2.Paired.mapP p fun _ _ q => q.at_ (List.mem_cons_of_mem _ hd)⟩
theorem MG.push {M : Addr} {ms : List (List Nat)} {ps : List Nat} (h : MG H g (.ref M) ms) (hp : PG H (M :: g) v ps) : ∃ vs, H M = some (.lst vs) ∧ vs.length = ms.length ∧ MG (upd H M (.lst (vs ++ [v]))) g (.ref M) (ms ++ [ps]) := by
  obtain ⟨l, vs, e0, e, n, p⟩ := h
  cases e0
  refine ⟨vs, e, Paired.length p, M, _, rfl, upd_same, n, paired_append (L2.Paired.mapP p fun _ _ q => q.to (ButG.upd List.mem_cons_self)) (.cons (hp.to (ButG.upd List.mem_cons_self)) .nil)⟩
theorem KG.push {L : Addr} {ks : Kinds} {ms : List (List Nat)} (h : KG H g (.ref L) ks) (hp : MG H (L :: g) v ms) : ∃ vs, H L = some (.lst vs) ∧ vs.length = ks.length ∧ KG (upd H L (.lst (vs ++ [v]))) g (.ref L) (ks ++ [ms]) := by
  obtain ⟨l, vs, e0, e, n, p⟩ := h
  cases e0
  refine ⟨vs, e, Paired.length p, L, _, rfl, upd_same, n, paired_append (L2.Paired.mapP p fun _ _ q => q.to (ButG.upd List.mem_cons_self)) (.cons (hp.to (ButG.upd List.mem_cons_self)) .nil)⟩
end
theorem fresh_not {H : Hp} {p : Addr} {g : List Addr} (hp : H p = none) (h : ∀ a ∈ g, H a ≠ none) : p ∉ g := fun z => h p z hp
theorem MG.some {H : Hp} {g : List Addr} {M : Addr} {ms : List (List Nat)} (h : MG H g (.ref M) ms) : ∃ vs, H M = some (.lst vs) ∧ M ∉ g := by
  obtain ⟨l, vs, e0, e, n, p⟩ := h
  cases e0
  exact ⟨vs, e, n⟩
theorem KG.some {H : Hp} {g : List Addr} {M : Addr} {ms : Kinds} (h : KG H g (.ref M) ms) : ∃ vs, H M = some (.lst vs) ∧ M ∉ g := by
  obtain ⟨l, vs, e0, e, n, p⟩ := h
  cases e0
  exact ⟨vs, e, n⟩
theorem PG.some {H : Hp} {g : List Addr} {M : Addr} {ps : List Nat} (h : PG H g (.ref M) ps) : H M = some (.lst (natVs ps)) ∧ M ∉ g := by
  obtain ⟨l, e0, e, n⟩ := h
  cases e0
  exact ⟨e, n⟩
theorem DeckAt.some {H : Hp} {dk : Addr} (h : DeckAt H dk) : H dk ≠ none := fun z => by
  obtain ⟨ns, _, e⟩ := h
  rw [z] at e
  cases e
theorem DeckAt.upd {H : Hp} {dk l : Addr} {o : HO} (h : DeckAt H dk) (n : dk ≠ l) : DeckAt (L2.upd H l o) dk := by
  obtain ⟨ns, q, e⟩ := h
  exact ⟨ns, q, by rw [upd_ne n]; exact e⟩
theorem But1.upd_free {H H' : Hp} {dk l : Addr} {o : HO} (b : But1 H H' dk) (hl : H l = none) : But1 H (L2.upd H' l o) dk := fun x u e n => by
  rw [upd_ne (ne_of_none e hl)]
  exact b _ _ e n
theorem But1.free {H H' : Hp} {dk l : Addr} (b : But1 H H' dk) (d : DeckAt H' dk) (hl : H' l = none) : H l = none := by
  cases e : H l with
  | none => rfl
  | some o =>
    by_cases z : l = dk
    · exact absurd (z ▸ hl) d.some
    · rw [b _ _ e z] at hl
      cases hl
theorem five_at {r : Nat} (h : r < 5) : ∃ c : Nat, c ≤ 3 ∧ atI ([.int 2, .int 1, .int 2, .int 0, .int 3] : List V) (r : Int) = some (.int (c : Int)) := by
  match r with
  | 0 => exact ⟨2, by omega, rfl⟩
  | 1 => exact ⟨1, by omega, rfl⟩
  | 2 => exact ⟨2, by omega, rfl⟩
  | 3 => exact ⟨0, by omega, rfl⟩
  | 4 => exact ⟨3, by omega, rfl⟩
  | r + 5 => omega
/-- kinds that are laid up to here -/
structure KOk (kinds : Kinds) : Prop where
  zero : kinds[0]? = some [[], []]
  pos : ∀ (k : Nat) ms, kinds[k]? = some ms → 0 < ms.length ∧ ms.length ≤ 4
  parts : ∀ k m ps, partsOf kinds k m = some ps → ps.length ≤ 3 ∧ ∀ p ∈ ps, p < k
theorem KOk.pre {kinds : Kinds} (h : KOk kinds) (hl : kinds.length ≤ 4) : KindsPre kinds := ⟨hl, fun k ms e => (h.pos k ms e).2, h.parts⟩
theorem KOk.ok {kinds : Kinds} (h : KOk kinds) (hl : kinds.length = 4) : KindsOk kinds := ⟨hl, h.zero, h.pos, h.parts⟩
theorem KOk.one : KOk [[[], []]] := by
  refine ⟨rfl, fun k ms e => ?_, fun k m ps e => ?_⟩
  · match k with
    | 0 => cases e; decide
    | k + 1 => simp at e
  · match k with
    | 0 =>
      match m with
      | 0 => cases e; exact ⟨by simp, by simp⟩
      | 1 => cases e; exact ⟨by simp, by simp⟩
      | m + 2 => simp [partsOf] at e
    | k + 1 => simp [partsOf] at e
theorem KOk.push {kinds : Kinds} (h : KOk kinds) {ms : List (List Nat)} (h1 : 0 < ms.length) (h2 : ms.length ≤ 4) (h3 : ∀ ps ∈ ms, ps.length ≤ 3 ∧ ∀ p ∈ ps, p < kinds.length) (h4 : 0 < kinds.length) : KOk (kinds ++ [ms]) := by
  have one : ∀ k ms', (kinds ++ [ms])[k]? = some ms' → kinds[k]? = some ms' ∨ (k = kinds.length ∧ ms' = ms) := fun k ms' e => by
    by_cases hk : k < kinds.length
    · rw [List.getElem?_append_left hk] at e
      exact .inl e
    · rw [List.getElem?_append_right (by omega)] at e
      have hl := (List.getElem?_eq_some_iff.mp e).1
      rw [List.length_singleton] at hl
      have : k = kinds.length := by omega
      subst this
      rw [Nat.sub_self] at e
      cases e
      exact .inr ⟨rfl, rfl⟩
  refine ⟨?_, fun k ms' e => ?_, fun k m ps e => ?_⟩
  · rw [List.getElem?_append_left h4]
    exact h.zero
  · rcases one k ms' e with e | ⟨rfl, rfl⟩
    · exact h.pos k ms' e
    · exact ⟨h1, h2⟩
  · unfold partsOf at e
    obtain ⟨ms', e1, e2⟩ := Option.bind_eq_some_iff.mp e
    rcases one k ms' e1 with e3 | ⟨rfl, rfl⟩
    · exact h.parts k m ps (parts_of e3 e2)
    · exact h3 ps (List.mem_of_getElem? e2)
section
variable {P : Program} {w : World} {K : PySem.W.Frag} {mg : Str → Option Value} {base : Heap}
abbrev N__law_kinds : List Str := ["deck", "kinds", "k", "kind", "makers", "parts", "size", "p", "part"]
theorem sc__law_kinds : FnScope N__law_kinds ["deck"] (defScope s__law_kinds) := ⟨rfl, rfl, rfl, by decide +kernel, rfl, by decide +kernel, by decide +kernel⟩
def spKinds (K : PySem.W.Frag) : Sp := fun vs H Q _ => ∃ (dk : Addr), vs = [.ref dk] ∧ DeckAt H dk ∧ ∀ (v : V) (kinds : Kinds) (H' : Hp), But1 H H' dk → DeckAt H' dk → KindsAt H' dk v kinds → KindsOk kinds → Q v H'
theorem ok_kinds (T : Txt K mg) : FnOk P w K mg base CX0 6 T.f__law_kinds T.fd__law_kinds ["deck"] (spKinds K) := by
  refine T.F__law_kinds.ok sc__law_kinds (fun vs H Q E h => ?_) (fun cdv A outer sh H vs Q E hr h => ?_)
  · obtain ⟨dk, rfl, _⟩ := h
    rfl
  · obtain ⟨dk, rfl, hD, kk⟩ := h
    have nd := sc__law_kinds.nd
    have G__law_take : FnOk P w K mg base CX0 1 T.f__law_take T.fd__law_take ["deck", "many"] spTake := ok_take T
    have hr__law_take : Room 1 _ := hr.mono (by omega)
    have G__law_many : FnOk P w K mg base CX0 5 T.f__law_many T.fd__law_many ["kinds", "kind"] (spMany 3) := ok_many T 3 (by omega)
    have hr__law_many : Room 5 _ := hr
    refine ⟨_, (pss_cons (ps_set (i := 1) nd rfl (Or.inl rfl) (pe_lst (pa_cons (pe_lst (pa_cons (pe_lst pa_nil) (pa_cons (pe_lst pa_nil) pa_nil))) pa_nil)))
          (pss_cons (ps_expr (pe_bm PySem.F.plainAttrs_list PySem.F.slot_list_append PySem.F.type_list_append mt_append (pv 1) (pa_cons (pe_lc (own := [("k", 2)]) (g := gName 2) (tt := tYes) rfl nd (pi_range1 rfl T.z_range (pa_cons (pe_op op_add pe_int (pe_call G__law_take hr__law_take rfl T.g__law_take T.k__law_take T.b__law_take .nil pass0 (pa_cons (pv 0) (pa_cons pe_int pa_nil)))) pa_nil)) (blkOk_by (own := [("k", 2)]) (N := N__law_kinds) (sc := defScope s__law_kinds) (by decide +kernel)) (fun _ _ _ _ _ => pg_name (i := 2) nd rfl (Or.inl rfl)) (fun _ _ _ _ _ => pts_nil) (fun _ _ _ _ _ => (pe_lst pa_nil))) pa_nil)))
          (pss_cons (ps_for PassesOwn.never rfl (pi_range2 rfl T.z_range (pa_cons pe_int (pa_cons pe_int pa_nil))) (pg_name (i := 3) nd rfl (Or.inl rfl))
            (pss_cons (ps_set (i := 4) nd rfl (Or.inl rfl) (pe_lst pa_nil))
            (pss_cons (ps_for PassesOwn.never rfl (pi_range1 rfl T.z_range (pa_cons (pe_op op_add pe_int (pe_call G__law_take hr__law_take rfl T.g__law_take T.k__law_take T.b__law_take .nil pass0 (pa_cons (pv 0) (pa_cons pe_int pa_nil)))) pa_nil)) (pg_name (i := 2) nd rfl (Or.inl rfl))
              (pss_cons (ps_set (i := 5) nd rfl (Or.inl rfl) (pe_lst pa_nil))
              (pss_cons (ps_set (i := 6) nd rfl (Or.inl rfl) pe_int)
              (pss_cons (ps_for PassesOwn.never rfl (pi_range1 rfl T.z_range (pa_cons (pe_ix ix_list (pe_lst (pa_cons pe_int (pa_cons pe_int (pa_cons pe_int (pa_cons pe_int (pa_cons pe_int pa_nil)))))) (pe_call G__law_take hr__law_take rfl T.g__law_take T.k__law_take T.b__law_take .nil pass0 (pa_cons (pv 0) (pa_cons (pe_op op_add pe_int (pv 3)) pa_nil))) (fun _ _ => rfl)) pa_nil)) (pg_name (i := 7) nd rfl (Or.inl rfl))
                (pss_cons (ps_set (i := 8) nd rfl (Or.inl rfl) (pe_call G__law_take hr__law_take rfl T.g__law_take T.k__law_take T.b__law_take .nil pass0 (pa_cons (pv 0) (pa_cons (pv 3) pa_nil))))
                (pss_cons (ps_set (i := 6) nd rfl (Or.inl rfl) (pe_op op_mul (pv 6) (pe_call G__law_many hr__law_many rfl T.g__law_many T.k__law_many T.b__law_many .nil pass0 (pa_cons (pv 1) (pa_cons (pv 8) pa_nil)))))
                (pss_one (ps_if (pt_cmpR op_le (pv 6) pe_int (nomark _))
                  (pss_one (ps_expr (pe_bm PySem.F.plainAttrs_list PySem.F.slot_list_append PySem.F.type_list_append mt_append (pv 5) (pa_cons (pv 8) pa_nil))))
                  pss_nil)))))
              (pss_one (ps_expr (pe_bm PySem.F.plainAttrs_list PySem.F.slot_list_append PySem.F.type_list_append mt_append (pv 4) (pa_cons (pv 5) pa_nil))))))))
            (pss_one (ps_expr (pe_bm PySem.F.plainAttrs_list PySem.F.slot_list_append PySem.F.type_list_append mt_append (pv 1) (pa_cons (pv 4) pa_nil)))))))
          (pss_one (ps_ret (pv 1)))))), ?_⟩
    refine ⟨sl_le (by show 0 ≤ 10000000; decide), fun p1 hp1 => ⟨sl_le (by show 0 ≤ 10000000; decide), fun p2 hp2 => ⟨sl_le (by show 2 ≤ 10000000; decide), fun l1 hl1 => ⟨sl_le (by show 1 ≤ 10000000; decide), fun L hL => ?_⟩⟩⟩⟩
    have s1 := same_new (o := .lst []) hp1
    have s2 := same_new (o := .lst []) hp2
    have s3 := same_new (o := .lst [.ref p1, .ref p2]) hl1
    have s4 := same_new (o := .lst [.ref l1]) hL
    have sA := s1.trans (s2.trans (s3.trans s4))
    obtain ⟨nsD, hnsD, eD⟩ := id hD
    have K0 : KG (upd (upd (upd (upd H p1 (.lst [])) p2 (.lst [])) l1 (.lst [.ref p1, .ref p2])) L (.lst [.ref l1])) [dk] (.ref L) [[[], []]] := by
      have a1 : (upd H p1 (.lst [])) p1 = some (.lst []) := upd_same
      have a2 := s2 _ _ a1
      have b2 : (upd (upd H p1 (.lst [])) p2 (.lst [])) p2 = some (.lst []) := upd_same
      have a3 := s3 _ _ a2
      have b3 := s3 _ _ b2
      have c3 : (upd (upd (upd H p1 (.lst [])) p2 (.lst [])) l1 (.lst [.ref p1, .ref p2])) l1 = some (.lst [.ref p1, .ref p2]) := upd_same
      have nL : L ≠ dk := fun z => by
        have := s3 _ _ (s2 _ _ (s1 _ _ eD))
        rw [← z, hL] at this
        cases this
      have n1 : l1 ≠ dk := fun z => by
        have := s2 _ _ (s1 _ _ eD)
        rw [← z, hl1] at this
        cases this
      have n2 : p2 ≠ dk := fun z => by
        have := s1 _ _ eD
        rw [← z, hp2] at this
        cases this
      have n3 : p1 ≠ dk := fun z => by
        rw [← z, hp1] at eD
        cases eD
      refine ⟨L, _, rfl, upd_same, by simpa using nL, .cons ⟨l1, _, rfl, s4 _ _ c3, ?_, .cons ⟨p1, rfl, s4 _ _ a3, ?_⟩ (.cons ⟨p2, rfl, s4 _ _ b3, ?_⟩ .nil)⟩ .nil⟩
      · simp only [List.mem_cons, List.not_mem_nil, or_false, not_or]
        exact ⟨ne_of_none c3 hL, n1⟩
      · simp only [List.mem_cons, List.not_mem_nil, or_false, not_or]
        exact ⟨ne_of_none a2 hl1, ne_of_none a3 hL, n3⟩
      · simp only [List.mem_cons, List.not_mem_nil, or_false, not_or]
        exact ⟨ne_of_none b2 hl1, ne_of_none b3 hL, n2⟩
    have hLH : H L = none := (s1.trans (s2.trans s3)).free hL
    have D0 := hD.same sA
    -- kinds.append([[] for k in range(..)])
    refine ⟨_, rfl, .inl ⟨rfl, _, SqL.of upd_same⟩, _, rfl, dk, 3, rfl, by decide, D0, fun r H1 hr1 b1 d1 => ?_⟩
    have K1 := K0.to (ButG.of1 b1 (by simp))
    have B1 := (But1.of_same (l := dk) sA).trans b1
    clear K0 D0
    have noL : H1 L ≠ none := by
      obtain ⟨vs, e, _⟩ := K1.some
      rw [e]; simp
    have nLd : L ≠ dk := by
      obtain ⟨vs, e, n⟩ := K1.some
      simpa using n
    refine ⟨_, _, rfl, rfl, _, rfl, by omega, by omega, fun D hDn => lc_range (lo := 0) (n := (2 + (r : Int)).toNat) (fun i H' => Same H1 H' ∧ MG H' [L, dk] (.ref D) (List.replicate i [])) ⟨same_new hDn, D, [], rfl, upd_same, fresh_not hDn (by
        intro a ha
        rcases List.mem_cons.mp ha with rfl | ha
        · exact noL
        · rw [List.mem_singleton.mp ha]; exact d1.some), .nil⟩ ?_ ?_⟩
    · rintro i H' hi ⟨sm, hM⟩
      refine ⟨rfl, sl_le (by show 0 ≤ 10000000; decide), fun p hp => ?_⟩
      have sp := same_new (o := .lst []) hp
      obtain ⟨us, eD', _⟩ := hM.some
      have hM2 := hM.to (ButG.of_same sp)
      obtain ⟨vs, e1, e2, hM3⟩ := hM2.push (v := .ref p) (ps := []) ⟨p, rfl, upd_same, fresh_not hp (by
        intro a ha
        rcases List.mem_cons.mp ha with rfl | ha
        · rw [eD']; simp
        rcases List.mem_cons.mp ha with rfl | ha
        · intro z
          obtain ⟨vs, e, _⟩ := K1.some
          rw [sm _ _ e] at z
          cases z
        · rw [List.mem_singleton.mp ha]; exact (d1.same sm).some)⟩
      refine ⟨vs, e1, sl_lt (by rw [e2, List.length_replicate]; omega), fun b o e => ?_, by rw [List.replicate_succ']; exact hM3⟩
      rw [upd_ne (ne_of_none e hDn)]
      exact sp _ _ (sm _ _ e)
    rintro H2 ⟨sm, hM⟩
    have K2 := K1.to (ButG.of_same sm)
    have D2 := d1.same sm
    have B2 := B1.trans (But1.of_same sm)
    obtain ⟨vsL, eL, lL, K3⟩ := K2.push hM
    refine ⟨L, vsL, _, rfl, rfl, eL, sl_lt (by rw [lL]; simp), ?_⟩
    have B3 := B2.upd_free (o := .lst (vsL ++ [.ref D])) hLH
    have D3 := D2.upd (o := .lst (vsL ++ [.ref D])) nLd.symm
    have O3 : KOk ([[[], []]] ++ [List.replicate (2 + (r : Int)).toNat []]) := KOk.one.push (by rw [List.length_replicate]; omega) (by rw [List.length_replicate]; omega) (fun ps hps => by rw [List.eq_of_mem_replicate hps]; simp) (by simp)
    have L3 : ([[[], []]] ++ [List.replicate (2 + (r : Int)).toNat ([] : List Nat)] : Kinds).length = 2 := rfl
    clear K1 K2 B1 B2 D2 d1 sm hM b1
    generalize ([[[], []]] ++ [List.replicate (2 + (r : Int)).toNat ([] : List Nat)] : Kinds) = kinds0 at *
    generalize (upd H2 L (.lst (vsL ++ [.ref D]))) = H3 at *
    dsimp only [gName]
    refine ⟨2, 4, rfl, ⟨by decide, by decide, by decide, by decide⟩, for_range (lo := 2) (n := 2) (fun t σ H' => ∃ (kinds : Kinds) (x2 x3 x4 x5 x6 x7 x8 : Option V), σ = [some (.ref dk), some (.ref L), x2, x3, x4, x5, x6, x7, x8] ∧ But1 H H' dk ∧ DeckAt H' dk ∧ KG H' [dk] (.ref L) kinds ∧ KOk kinds ∧ kinds.length = 2 + t)
      ⟨kinds0, _, _, _, _, _, _, _, rfl, B3, D3, K3, O3, L3⟩ ?_ ?_⟩
    · rintro t σ H4 ht ⟨kinds, x2, x3, x4, x5, x6, x7, x8, rfl, B4, D4, K4, O4, L4⟩
      dsimp only [gName]
      refine ⟨sl_le (by show 0 ≤ 10000000; decide), fun M hMn => ?_⟩
      have s5 := same_new (o := .lst []) hMn
      have noL4 : H4 L ≠ none := by
        obtain ⟨vs, e, _⟩ := K4.some
        rw [e]; simp
      have M5 : MG (upd H4 M (.lst [])) [L, dk] (.ref M) [] := ⟨M, [], rfl, upd_same, fresh_not hMn (by
        intro a ha
        rcases List.mem_cons.mp ha with rfl | ha
        · exact noL4
        · rw [List.mem_singleton.mp ha]; exact D4.some), .nil⟩
      have K5 : KG (upd H4 M (.lst [])) [M, dk] (.ref L) kinds := (K4.guard (g' := [M, dk]) (by
        intro a ha
        rcases List.mem_cons.mp ha with rfl | ha
        · exact .inr hMn
        · exact .inl ha)).to (ButG.of_same s5)
      have B5 := B4.trans (But1.of_same s5)
      have D5 := D4.same s5
      have hMH := B4.free D4 hMn
      have nMd : M ≠ dk := fun z => D4.some (z ▸ hMn)
      generalize (upd H4 M (.lst [])) = H5 at *
      refine ⟨_, rfl, dk, 3, rfl, by decide, D5, fun r6 H6 hr6 b6 d6 => ⟨_, _, rfl, rfl, _, rfl, by omega, by omega, for_range (lo := 0) (n := (1 + (r6 : Int)).toNat) (fun k σ H' => ∃ (ms : List (List Nat)) (x2 x5 x6 x7 x8 : Option V), σ = [some (.ref dk), some (.ref L), x2, some (.int (2 + (t : Int))), some (.ref M), x5, x6, x7, x8] ∧ But1 H H' dk ∧ DeckAt H' dk ∧ KG H' [M, dk] (.ref L) kinds ∧ MG H' [L, dk] (.ref M) ms ∧ ms.length = k ∧ ∀ ps ∈ ms, ps.length ≤ 3 ∧ ∀ p ∈ ps, p < 2 + t)
        ⟨[], _, _, _, _, _, rfl, B5.trans b6, d6, K5.to (ButG.of1 b6 (by simp)), M5.to (ButG.of1 b6 (by simp)), rfl, fun ps h => by cases h⟩ ?_ ?_⟩⟩
      · rintro k σ H7 hk ⟨ms, x2, x5, x6, x7, x8, rfl, B7, D7, K7, M7, l7, f7⟩
        dsimp only [gName]
        refine ⟨sl_le (by show 0 ≤ 10000000; decide), fun P hPn => ?_⟩
        have s8 := same_new (o := .lst []) hPn
        have noL7 : H7 L ≠ none := by
          obtain ⟨vs, e, _⟩ := K7.some
          rw [e]; simp
        have noM7 : H7 M ≠ none := by
          obtain ⟨vs, e, _⟩ := M7.some
          rw [e]; simp
        have P8 : PG (upd H7 P (.lst [])) [M, L, dk] (.ref P) [] := ⟨P, rfl, upd_same, fresh_not hPn (by
          intro a ha
          rcases List.mem_cons.mp ha with rfl | ha
          · exact noM7
          rcases List.mem_cons.mp ha with rfl | ha
          · exact noL7
          · rw [List.mem_singleton.mp ha]; exact D7.some)⟩
        have K8 : KG (upd H7 P (.lst [])) [P, M, dk] (.ref L) kinds := (K7.guard (g' := [P, M, dk]) (by
          intro a ha
          rcases List.mem_cons.mp ha with rfl | ha
          · exact .inr hPn
          · exact .inl ha)).to (ButG.of_same s8)
        have M8 : MG (upd H7 P (.lst [])) [P, L, dk] (.ref M) ms := (M7.guard (g' := [P, L, dk]) (by
          intro a ha
          rcases List.mem_cons.mp ha with rfl | ha
          · exact .inr hPn
          · exact .inl ha)).to (ButG.of_same s8)
        have B8 := B7.trans (But1.of_same s8)
        have D8 := D7.same s8
        have hPH := B7.free D7 hPn
        have nPd : P ≠ dk := fun z => D7.some (z ▸ hPn)
        generalize (upd H7 P (.lst [])) = H8 at *
        refine ⟨sl_le (by show 5 ≤ 10000000; decide), fun q hq => ?_⟩
        have s9 := same_new (o := .lst [.int 2, .int 1, .int 2, .int 0, .int 3]) hq
        have nqd : q ≠ dk := fun z => D8.some (z ▸ hq)
        refine ⟨_, rfl, _, rfl, _, _, rfl, rfl, dk, 4 + t, ?_, by omega, D8.same s9, fun r9 H9 hr9 b9 d9 => ?_⟩
        · show [V.ref dk, V.int (2 + (2 + (t : Int)))] = _
          rw [show (2 : Int) + (2 + (t : Int)) = ((4 + t : Nat) : Int) by omega]
        obtain ⟨c, hc, ec⟩ := five_at (r := r9) (by omega)
        have b89 := (But1.of_same (l := dk) s9).trans b9
        refine ⟨q, _, _, _, rfl, rfl, SqL.of (b9 _ _ upd_same nqd), ec, _, rfl, by omega, by omega, for_range (lo := 0) (n := c) (fun j σ H' => ∃ (ps : List Nat) (z : Int) (x7 x8 : Option V), σ = [some (.ref dk), some (.ref L), some (.int (0 + (k : Int))), some (.int (2 + (t : Int))), some (.ref M), some (.ref P), some (.int z), x7, x8] ∧ But1 H H' dk ∧ DeckAt H' dk ∧ KG H' [P, M, dk] (.ref L) kinds ∧ MG H' [P, L, dk] (.ref M) ms ∧ PG H' [M, L, dk] (.ref P) ps ∧ ps.length ≤ j ∧ ∀ p ∈ ps, p < 2 + t)
          ⟨[], 1, _, _, rfl, B8.trans b89, d9, K8.to (ButG.of1 b89 (by simp)), M8.to (ButG.of1 b89 (by simp)), P8.to (ButG.of1 b89 (by simp)), Nat.le_refl _, fun p h => by cases h⟩ ?_ ?_⟩
        · rintro j σ H10 hj ⟨ps, z, y7, y8, rfl, B10, D10, K10, M10, P10, l10, f10⟩
          dsimp only [gName]
          refine ⟨_, rfl, _, rfl, dk, 2 + t, ?_, by omega, D10, fun pt H11 hpt b11 d11 => ?_⟩
          · show [V.ref dk, V.int (2 + (t : Int))] = _
            rw [show (2 : Int) + (t : Int) = ((2 + t : Nat) : Int) by omega]
          have K11 := K10.to (ButG.of1 b11 (by simp))
          have M11 := M10.to (ButG.of1 b11 (by simp))
          have P11 := P10.to (ButG.of1 b11 (by simp))
          have B11 := B10.trans b11
          refine ⟨_, rfl, _, rfl, _, rfl, dk, .ref L, kinds, pt, rfl, K11.at_ (by simp), O4.pre (by omega), by omega, by omega, fun r12 hr12 => ?_⟩
          have hb : r12 ≤ 67108864 := hr12
          refine ⟨_, _, rfl, rfl, .inr ⟨by omega, by omega⟩, _, rfl, _, _, rfl, rfl, _, rfl, ite2 (fun _ => ?_) (fun _ => ⟨ps, _, _, _, rfl, B11, d11, K11, M11, P11, by omega, f10⟩)⟩
          obtain ⟨eP, nP⟩ := P11.some
          refine ⟨_, rfl, .inl ⟨rfl, _, SqL.of eP⟩, _, rfl, P, _, _, rfl, rfl, eP, sl_lt (by rw [natVs_len]; omega), ?_⟩
          refine ⟨ps ++ [pt], _, _, _, rfl, B11.upd_free hPH, d11.upd nPd.symm, K11.to (ButG.upd (by simp)), M11.to (ButG.upd (by simp)), ⟨P, rfl, ?_, nP⟩, by rw [List.length_append, List.length_singleton]; omega, fun p hp => ?_⟩
          · rw [upd_same]
            unfold natVs
            rw [List.map_append]
            rfl
          · rcases List.mem_append.mp hp with hp | hp
            · exact f10 p hp
            · rw [List.mem_singleton.mp hp]; exact hpt
        · rintro σ H10 ⟨ps, z, y7, y8, rfl, B10, D10, K10, M10, P10, l10, f10⟩
          obtain ⟨eP, nP⟩ := P10.some
          have M11 : MG H10 [L, dk] (.ref M) ms := M10.guard (fun a ha => .inl (List.mem_cons_of_mem _ ha))
          have K11 : KG H10 [M, dk] (.ref L) kinds := K10.guard (fun a ha => .inl (List.mem_cons_of_mem _ ha))
          obtain ⟨vsM, eM, lM, M12⟩ := M11.push P10
          refine ⟨_, rfl, .inl ⟨rfl, _, SqL.of eM⟩, _, rfl, M, _, _, rfl, rfl, eM, sl_lt (by rw [lM]; omega), ?_⟩
          refine ⟨ms ++ [ps], _, _, _, _, _, rfl, B10.upd_free hMH, D10.upd nMd.symm, K11.to (ButG.upd (by simp)), M12, by rw [List.length_append, List.length_singleton]; omega, fun qs hqs => ?_⟩
          rcases List.mem_append.mp hqs with hqs | hqs
          · exact f7 qs hqs
          · rw [List.mem_singleton.mp hqs]; exact ⟨by omega, f10⟩
      · rintro σ H7 ⟨ms, x2, x5, x6, x7, x8, rfl, B7, D7, K7, M7, l7, f7⟩
        have K8 : KG H7 [dk] (.ref L) kinds := K7.guard (fun a ha => .inl (List.mem_cons_of_mem _ ha))
        obtain ⟨vsL, eL, lL, K9⟩ := K8.push M7
        refine ⟨_, rfl, .inl ⟨rfl, _, SqL.of eL⟩, _, rfl, L, _, _, rfl, rfl, eL, sl_lt (by rw [lL]; omega), ?_⟩
        exact ⟨kinds ++ [ms], _, _, _, _, _, _, _, rfl, B7.upd_free hLH, D7.upd nLd.symm, K9, O4.push (by omega) (by omega) (by rw [L4]; exact f7) (by omega), by rw [List.length_append, List.length_singleton]; omega⟩
    · rintro σ H4 ⟨kinds, x2, x3, x4, x5, x6, x7, x8, rfl, B4, D4, K4, O4, L4⟩
      exact ⟨_, rfl, kk _ kinds H4 B4 D4 (K4.at_ (by simp)) (O4.ok L4)⟩
end
end K87

set_option Elab.async false
set_option linter.all false
set_option maxRecDepth 100000
set_option maxHeartbeats 4000000
namespace K87
open PySem PySem.Spec PyProof.Rows L2 Ru Rp Mch
section
def DG (K : PySem.W.Frag) (H : Hp) (g : List Addr) (v : V) (d : Df) : Prop := ∃ a l, v = .ref a ∧ SqT K H a [.str d.mo, .str d.na, .ref l, .int (d.kind : Int)] ∧ H l = some (.lst (natVs d.givens)) ∧ l ∉ g
variable {K : PySem.W.Frag} {H H' : Hp} {g g' : List Addr} {v : V} {d : Df}
theorem DG.to (t : TEx H H') (b : ButG H H' g) (h : DG K H g v d) : DG K H' g v d := by
  obtain ⟨a, l, rfl, s, e, n⟩ := h
  exact ⟨a, l, rfl, t.sq s, b _ _ e n, n⟩
theorem DG.at_ {dk : Addr} (hd : dk ∈ g) (h : DG K H g v d) : DfAt K H dk v d := by
  obtain ⟨a, l, rfl, s, e, n⟩ := h
  exact ⟨a, l, rfl, s, e, fun z => n (z ▸ hd)⟩
end
def gvnN (k : Nat) : Nat := [1, 2, 0, 3].getD k 0
theorem gvn_at {k : Nat} (h : k < 4) : atI ([.int 1, .int 2, .int 0, .int 3] : List V) (k : Int) = some (.int (gvnN k : Int)) ∧ gvnN k ≤ 3 := by
  match k with
  | 0 => exact ⟨rfl, by decide⟩
  | 1 => exact ⟨rfl, by decide⟩
  | 2 => exact ⟨rfl, by decide⟩
  | 3 => exact ⟨rfl, by decide⟩
  | k + 4 => omega
def dNm (k : Nat) : Nm := ([("Ma", "fa"), ("Other", "fa"), ("Ma", "const"), ("Third", "three_1")] : List Nm).getD k ("", "")
theorem dmo_at {k : Nat} (h : k < 4) : atI ([.str "Ma", .str "Other", .str "Ma", .str "Third"] : List V) (k : Int) = some (.str (dNm k).1) ∧ atI ([.str "fa", .str "fa", .str "const", .str "three_1"] : List V) (k : Int) = some (.str (dNm k).2) := by
  match k with
  | 0 => exact ⟨rfl, rfl⟩
  | 1 => exact ⟨rfl, rfl⟩
  | 2 => exact ⟨rfl, rfl⟩
  | 3 => exact ⟨rfl, rfl⟩
  | k + 4 => omega
theorem dNm_nodup : ((List.range 4).map dNm).Nodup := by decide +kernel
def okNm (f : Nm) : Prop := PyData.strOk f.1 = true ∧ PyData.strOk f.2 = true
theorem dNm_ok : ∀ f ∈ (List.range 4).map dNm, okNm f := by
  intro f hf
  simp only [List.map_cons, List.map_nil, List.range, List.range.loop, List.mem_cons, List.not_mem_nil, or_false] at hf
  rcases hf with rfl | rfl | rfl | rfl <;> exact ⟨by decide +kernel, by decide +kernel⟩
section
variable {P : Program} {w : World} {K : PySem.W.Frag} {mg : Str → Option Value} {base : Heap}
abbrev N__law_defs : List Str := ["deck", "defs", "k", "givens", "p"]
theorem sc__law_defs : FnScope N__law_defs ["deck"] (defScope s__law_defs) := ⟨rfl, rfl, rfl, by decide +kernel, rfl, by decide +kernel, by decide +kernel⟩
def spDefs (K : PySem.W.Frag) : Sp := fun vs H Q _ => ∃ (dk : Addr), vs = [.ref dk] ∧ DeckAt H dk ∧ ∀ (v : V) (defs : List Df) (H' : Hp), But1 H H' dk → DeckAt H' dk → DfsAt K H' dk v defs → DefsOk defs → (∀ d ∈ defs, okNm (d.mo, d.na)) → Q v H'
theorem ok_defs (T : Txt K mg) : FnOk P w K mg base CX0 2 T.f__law_defs T.fd__law_defs ["deck"] (spDefs K) := by
  refine T.F__law_defs.ok sc__law_defs (fun vs H Q E h => ?_) (fun cdv A outer sh H vs Q E hr h => ?_)
  · obtain ⟨dk, rfl, _⟩ := h
    rfl
  · obtain ⟨dk, rfl, hD, kk⟩ := h
    have nd := sc__law_defs.nd
    have G__law_take : FnOk P w K mg base CX0 1 T.f__law_take T.fd__law_take ["deck", "many"] spTake := ok_take T
    have hr__law_take : Room 1 _ := hr.mono (by omega)
    refine ⟨_, (pss_cons (ps_set (i := 1) nd rfl (Or.inl rfl) (pe_lst pa_nil))
          (pss_cons (ps_for PassesOwn.never rfl (pi_range1 rfl T.z_range (pa_cons pe_int pa_nil)) (pg_name (i := 2) nd rfl (Or.inl rfl))
            (pss_cons (ps_setLc (i := 3) (own := [("p", 4)]) (g := gName 4) (tt := tYes) rfl nd rfl rfl (sw_true rfl rfl rfl (by decide +kernel)) (pi_range1 rfl T.z_range (pa_cons (pe_ix ix_list (pe_lst (pa_cons pe_int (pa_cons pe_int (pa_cons pe_int (pa_cons pe_int pa_nil))))) (pv 2) (fun _ _ => rfl)) pa_nil)) (blkOk_by (own := [("p", 4)]) (N := N__law_defs) (sc := defScope s__law_defs) (by decide +kernel)) (fun _ _ _ _ _ => pg_name (i := 4) nd rfl (Or.inl rfl)) (fun _ _ _ _ _ => pts_nil) (fun _ _ _ _ _ => (pe_call G__law_take hr__law_take rfl T.g__law_take T.k__law_take T.b__law_take .nil pass0 (pa_cons (pv 0) (pa_cons pe_int pa_nil)))))
            (pss_one (ps_expr (pe_bm PySem.F.plainAttrs_list PySem.F.slot_list_append PySem.F.type_list_append mt_append (pv 1) (pa_cons (pe_tup (pa_cons (pe_ix ix_list (pe_lst (pa_cons pe_str (pa_cons pe_str (pa_cons pe_str (pa_cons pe_str pa_nil))))) (pv 2) (fun _ _ => rfl)) (pa_cons (pe_ix ix_list (pe_lst (pa_cons pe_str (pa_cons pe_str (pa_cons pe_str (pa_cons pe_str pa_nil))))) (pv 2) (fun _ _ => rfl)) (pa_cons (pv 3) (pa_cons (pe_call G__law_take hr__law_take rfl T.g__law_take T.k__law_take T.b__law_take .nil pass0 (pa_cons (pv 0) (pa_cons pe_int pa_nil))) pa_nil))))) pa_nil))))))
          (pss_one (ps_ret (pv 1))))), ?_⟩
    refine ⟨sl_le (by show 0 ≤ 10000000; decide), fun L hL => ?_⟩
    have s1 := same_new (o := .lst []) hL
    have nLd : L ≠ dk := fun z => hD.some (z ▸ hL)
    refine ⟨_, rfl, by decide, by decide, for_range (lo := 0) (n := 4) (fun k σ H' => ∃ (defs : List Df) (vs : List V) (x2 x3 x4 : Option V), σ = [some (.ref dk), some (.ref L), x2, x3, x4] ∧ But1 H H' dk ∧ DeckAt H' dk ∧ H' L = some (.lst vs) ∧ Paired (DG K H' [L, dk]) vs defs ∧ defs.map (fun d => (d.mo, d.na)) = (List.range k).map dNm ∧ ∀ d ∈ defs, d.kind < 4 ∧ d.givens.length ≤ 3 ∧ ∀ g ∈ d.givens, g < 4)
      ⟨[], [], _, _, _, rfl, But1.of_same s1, hD.same s1, upd_same, .nil, rfl, fun d h => by cases h⟩ ?_ ?_⟩
    · rintro k σ H2 hk ⟨defs, vs, x2, x3, x4, rfl, B2, D2, e2, p2, m2, f2⟩
      dsimp only [gName]
      obtain ⟨g1, g2⟩ := gvn_at hk
      obtain ⟨g3, g4⟩ := dmo_at hk
      have ek : (0 : Int) + (k : Int) = (k : Int) := by omega
      refine ⟨sl_le (by show 4 ≤ 10000000; decide), fun q hq => ?_⟩
      have s3 := same_new (o := .lst [.int 1, .int 2, .int 0, .int 3]) hq
      refine ⟨_, rfl, q, _, _, .int (gvnN k : Int), rfl, rfl, SqL.of upd_same, (by rw [ek]; exact g1), _, rfl, by omega, by omega, fun D hDn => lc_range (lo := 0) (n := gvnN k) (fun i H' => ∃ ns : List Nat, But1 H2 H' dk ∧ DeckAt H' dk ∧ H' D = some (.lst (natVs ns)) ∧ ns.length = i ∧ ∀ n ∈ ns, n < 4)
        ⟨[], (But1.of_same s3).trans (But1.of_same (same_new hDn)), (D2.same s3).same (same_new hDn), upd_same, rfl, fun n h => by cases h⟩ ?_ ?_⟩
      · rintro i H4 hi ⟨ns, b4, d4, eD, ln, hn⟩
        have nDd : D ≠ dk := fun z => (D2.same s3).some (z ▸ hDn)
        refine ⟨rfl, _, rfl, dk, 4, rfl, by decide, d4, fun r H5 hr5 b5 d5 => ?_⟩
        refine ⟨natVs ns, b5 _ _ eD nDd, sl_lt (by rw [natVs_len]; omega), ns ++ [r], (b4.trans b5).upd_free ?_, d5.upd nDd.symm, ?_, by rw [List.length_append, List.length_singleton]; omega, fun n h => ?_⟩
        · cases e : H2 D with
          | none => rfl
          | some o => exact absurd (s3 _ _ e) (by rw [hDn]; simp)
        · rw [upd_same]
          unfold natVs
          rw [List.map_append]
          rfl
        · rcases List.mem_append.mp h with h | h
          · exact hn n h
          · rw [List.mem_singleton.mp h]; exact hr5
      rintro H4 ⟨ns, b4, d4, eD, ln, hn⟩
      have nDd : D ≠ dk := fun z => (D2.same s3).some (z ▸ hDn)
      have nDL : D ≠ L := fun z => by
        have := s3 _ _ e2
        rw [← z, hDn] at this
        cases this
      have t4 := D2.tex b4
      have e4 := b4 _ _ e2 nLd
      have p4 : Paired (DG K H4 [L, dk]) vs defs := L2.Paired.mapP p2 fun _ _ z => z.to t4 (ButG.of1 b4 (by simp))
      have B4 := B2.trans b4
      dsimp only [gName]
      refine ⟨_, rfl, .inl ⟨rfl, _, SqL.of e4⟩, sl_le (by show 4 ≤ 10000000; decide), fun q1 hq1 => ⟨_, rfl, q1, _, _, .str (dNm k).1, rfl, rfl, SqL.of upd_same, (by rw [ek]; exact g3), sl_le (by show 4 ≤ 10000000; decide), fun q2 hq2 => ⟨_, rfl, q2, _, _, .str (dNm k).2, rfl, rfl, SqL.of upd_same, (by rw [ek]; exact g4), ?_⟩⟩⟩
      have s5 := (same_new (o := .lst [.str "Ma", .str "Other", .str "Ma", .str "Third"]) hq1).trans (same_new (o := .lst [.str "fa", .str "fa", .str "const", .str "three_1"]) hq2)
      refine ⟨_, rfl, _, rfl, dk, 4, rfl, by decide, d4.same s5, fun r H6 hr6 b6 d6 => ⟨sl_le (by show 4 ≤ 10000000; decide), fun tp htp => ?_⟩⟩
      have b46 := (But1.of_same (l := dk) s5).trans b6
      have s7 := same_new (o := .tup [.str (dNm k).1, .str (dNm k).2, .ref D, .int (r : Int)]) htp
      have b47 := b46.trans (But1.of_same s7)
      have t47 := d4.tex b47
      have e7 := b47 _ _ e4 nLd
      refine ⟨L, vs, _, rfl, rfl, e7, sl_lt (by have := Paired.length p2; have := congrArg List.length m2; simp at this; omega), ?_⟩
      have t8 := TEx.upd_lst (ys := vs ++ [.ref tp]) e7
      refine ⟨defs ++ [⟨(dNm k).1, (dNm k).2, ns, r⟩], _, _, _, _, rfl, (B4.trans b47).upd_free hL, (d6.same s7).upd nLd.symm, upd_same, paired_append (L2.Paired.mapP p4 fun _ _ z => (z.to t47 (ButG.of1 b47 (by simp))).to t8 (ButG.upd (by simp))) (.cons ⟨tp, D, rfl, t8.sq (SqT.of upd_same), ?_, by simp [nDL, nDd]⟩ .nil), ?_, fun d h => ?_⟩
      · rw [upd_ne nDL]
        exact b47 _ _ eD nDd
      · rw [List.map_append, m2, List.range_succ, List.map_append]
        rfl
      · rcases List.mem_append.mp h with h | h
        · exact f2 d h
        · rw [List.mem_singleton.mp h]
          exact ⟨hr6, by show ns.length ≤ 3; omega, hn⟩
    · rintro σ H2 ⟨defs, vs, x2, x3, x4, rfl, B2, D2, e2, p2, m2, f2⟩
      exact ⟨_, rfl, kk _ defs H2 B2 D2 ⟨L, vs, rfl, e2, nLd, L2.Paired.mapP p2 fun _ _ z => z.at_ (by simp)⟩ ⟨by rw [m2]; exact dNm_nodup, f2, by have := congrArg List.length m2; simpa using this⟩ (fun d hd => dNm_ok _ (by rw [← m2]; exact List.mem_map.mpr ⟨d, hd, rfl⟩))⟩
end
end K87

set_option Elab.async false
set_option linter.all false
set_option maxRecDepth 100000
set_option maxHeartbeats 4000000
/-! The law's cores and rows in the heap. -/
namespace K87
open PySem PySem.Spec PyProof.Rows L2 Ru Rp Mch
section
variable {N : Type} {kinds : Kinds} {dk : N → List Nat → Nat → Prop}
mutual
theorem bound_cnt : ∀ (f : Form) (k : Nat), FormK kinds f k → (boundK kinds f k).length = bndF f
  | .any, k, _ => by rw [boundK, bndF]; rfl
  | .bind, k, _ => by rw [boundK, bndF]; rfl
  | .make m fs, k, h => by
    rw [FormK] at h
    obtain ⟨ps, e, h⟩ := h
    rw [boundK, bndF, e]
    exact bounds_cnt fs ps h
theorem bounds_cnt : ∀ (fs : Forms) (ps : List Nat), FormsK kinds fs ps → (boundsK kinds fs ps).length = bndFs fs
  | .nil, ps, _ => by rw [boundsK, bndFs]; rfl
  | .cons f r, ps, h => by
    rw [FormsK] at h
    obtain ⟨k, q, rfl, h1, h2⟩ := h
    rw [boundsK, bndFs, List.length_append]
    have e1 := bound_cnt f k h1
    have e2 := bounds_cnt r q h2
    show (boundK kinds f k).length + (boundsK kinds r q).length = _
    omega
end
mutual
theorem told_sc : ∀ (t : Told N) (G : List Nat) (k : Nat), ToldK kinds dk t G k → scT t G.length
  | .loc n, G, k, h => by
    rw [ToldK] at h
    rw [scT]
    exact (List.getElem?_eq_some_iff.mp h).1
  | .letT a b, G, k, h => by
    rw [ToldK] at h
    obtain ⟨ka, h1, h2⟩ := h
    rw [scT]
    have := told_sc b _ k h2
    rw [List.length_append, List.length_singleton] at this
    exact ⟨told_sc a G ka h1, this⟩
  | .ifT a b c, G, k, h => by
    rw [ToldK] at h
    rw [scT]
    exact ⟨told_sc a G 0 h.1, told_sc b G k h.2.1, told_sc c G k h.2.2⟩
  | .same kk a b, G, k, h => by
    rw [ToldK] at h
    rw [scT]
    exact ⟨told_sc a G kk h.2.1, told_sc b G kk h.2.2⟩
  | .call f ps, G, k, h => by
    rw [ToldK] at h
    obtain ⟨gs, _, h⟩ := h
    rw [scT]
    exact tolds_sc ps G gs h
  | .make kk m ps, G, k, h => by
    rw [ToldK] at h
    obtain ⟨_, qs, _, h⟩ := h
    rw [scT]
    exact tolds_sc ps G qs h
  | .case kk a arms, G, k, h => by
    rw [ToldK] at h
    rw [scT]
    exact ⟨told_sc a G kk h.1, arms_sc arms G kk k h.2.1⟩
theorem tolds_sc : ∀ (ps : Tolds N) (G : List Nat) (ks : List Nat), ToldsK kinds dk ps G ks → scTs ps G.length
  | .nil, G, ks, h => by rw [scTs]; trivial
  | .cons t r, G, ks, h => by
    rw [ToldsK] at h
    obtain ⟨k, q, rfl, h1, h2⟩ := h
    rw [scTs]
    exact ⟨told_sc t G k h1, tolds_sc r G q h2⟩
theorem arms_sc : ∀ (as : Arms N) (G : List Nat) (kk k : Nat), ArmsK kinds dk as G kk k → scArms as G.length
  | .nil, G, kk, k, h => by rw [scArms]; trivial
  | .cons f t r, G, kk, k, h => by
    rw [ArmsK] at h
    rw [scArms]
    have := told_sc t _ k h.2.1
    rw [List.length_append, bound_cnt f kk h.1] at this
    exact ⟨this, arms_sc r G kk k h.2.2⟩
end
end
/-! ### what the law draws -/
structure Cr where
  G : List Nat
  k : Nat
  t : Told Nm
def coreT (c : Cr) : Tr := .t [.t (c.G.map pairT), pairT c.k, toldT c.t]
structure CrOk (kinds : Kinds) (defs : List Df) (c : Cr) : Prop where
  kd : ToldK kinds (dkOf defs) c.t c.G c.k
  fit : Tr.fit 67 (toldT c.t)
  few : cnt c.t ≤ 500
  len : c.G.length ≤ 3
  k4 : c.k < 4
theorem coreT_fit {kinds : Kinds} {defs : List Df} {c : Cr} (h : CrOk kinds defs c) : Tr.fit 68 (coreT c) := by
  have hl := h.len
  refine fit_t (n := 67) (by simp) (allc ?_ (allc (fit_pair (n := 66)) (all1 h.fit)))
  refine fit_t (n := 66) (by rw [List.length_map]; omega) fun q hq => ?_
  obtain ⟨g, _, rfl⟩ := List.mem_map.mp hq
  exact fit_pair (n := 65)
/-- one row of cells -/
def RG (K : PySem.W.Frag) (kinds : Kinds) (H : Hp) (g : List Addr) (v : V) (G : List Nat) : Prop := ∃ l evs env, v = .ref l ∧ H l = some (.lst evs) ∧ CellsAt K H evs env ∧ CellsK kinds env G ∧ l ∉ g
/-- rows of cells -/
def RsG (K : PySem.W.Frag) (kinds : Kinds) (H : Hp) (g : List Addr) (v : V) (G : List Nat) : Prop := ∃ l vs, v = .ref l ∧ H l = some (.lst vs) ∧ l ∉ g ∧ ∀ x ∈ vs, RG K kinds H (l :: g) x G
section
variable {K : PySem.W.Frag} {kinds : Kinds} {H H' : Hp} {g g' : List Addr} {v : V} {G : List Nat}
theorem RG.to (t : TEx H H') (b : ButG H H' g) (h : RG K kinds H g v G) : RG K kinds H' g v G := by
  obtain ⟨l, evs, env, rfl, e, c, k, n⟩ := h
  exact ⟨l, evs, env, rfl, b _ _ e n, c.to t, k, n⟩
theorem RsG.to (t : TEx H H') (b : ButG H H' g) (h : RsG K kinds H g v G) : RsG K kinds H' g v G := by
  obtain ⟨l, vs, rfl, e, n, p⟩ := h
  exact ⟨l, vs, rfl, b _ _ e n, n, fun x hx => (p x hx).to t b.more⟩
end
structure LI (K : PySem.W.Frag) (Hp0 H : Hp) (dk C0 Ce : Addr) (kinds : Kinds) (defs : List Df) (cs : List Cr) (gs : List (List Nat)) : Prop where
  hC : Hp0 C0 = none
  hE : Hp0 Ce = none
  nC : C0 ≠ dk
  nE : Ce ≠ dk
  nCE : C0 ≠ Ce
  but : But1 Hp0 H dk
  deck : DeckAt H dk
  cores : ∃ vs, H C0 = some (.lst vs) ∧ Paired (fun v c => TrAt K H v (coreT c)) vs cs
  cells : ∃ vs, H Ce = some (.lst vs) ∧ Paired (RsG K kinds H [dk, C0, Ce]) vs gs
  ok : ∀ c ∈ cs, CrOk kinds defs c
section
variable {K : PySem.W.Frag} {kinds : Kinds} {defs : List Df} {Hp0 H H' : Hp} {dk C0 Ce : Addr} {cs : List Cr} {gs : List (List Nat)}
theorem LI.to (M : LI K Hp0 H dk C0 Ce kinds defs cs gs) (b : But1 H H' dk) (d : DeckAt H' dk) : LI K Hp0 H' dk C0 Ce kinds defs cs gs := by
  obtain ⟨a1, a2, a3, a4, a5, a6, a7, ⟨vs, e1, p1⟩, ⟨ws, e2, p2⟩, a8⟩ := M
  have t := a7.tex b
  exact ⟨a1, a2, a3, a4, a5, a6.trans b, d, ⟨vs, b _ _ e1 a3, L2.Paired.mapP p1 fun _ _ z => z.to t⟩, ⟨ws, b _ _ e2 a4, L2.Paired.mapP p2 fun _ _ z => z.to t (ButG.of1 b (by simp))⟩, a8⟩
theorem LI.same (M : LI K Hp0 H dk C0 Ce kinds defs cs gs) (s : Same H H') : LI K Hp0 H' dk C0 Ce kinds defs cs gs := M.to (But1.of_same s) (M.deck.same s)
theorem LI.pushE (M : LI K Hp0 H dk C0 Ce kinds defs cs gs) {v : V} {G : List Nat} (h : RsG K kinds H [dk, C0, Ce] v G) : ∃ ws, H Ce = some (.lst ws) ∧ ws.length = gs.length ∧ LI K Hp0 (upd H Ce (.lst (ws ++ [v]))) dk C0 Ce kinds defs cs (gs ++ [G]) := by
  obtain ⟨a1, a2, a3, a4, a5, a6, a7, ⟨vs, e1, p1⟩, ⟨ws, e2, p2⟩, a8⟩ := M
  have t := TEx.upd_lst (ys := ws ++ [v]) e2
  exact ⟨ws, e2, Paired.length p2, a1, a2, a3, a4, a5, a6.upd_free a2, a7.upd a4.symm, ⟨vs, by rw [upd_ne a5]; exact e1, L2.Paired.mapP p1 fun _ _ z => z.to t⟩, ⟨_, upd_same, paired_append (L2.Paired.mapP p2 fun _ _ z => z.to t (ButG.upd (by simp))) (.cons (h.to t (ButG.upd (by simp))) .nil)⟩, a8⟩
theorem LI.pushC (M : LI K Hp0 H dk C0 Ce kinds defs cs gs) {v : V} {c : Cr} (h : TrAt K H v (coreT c)) (hc : CrOk kinds defs c) : ∃ ws, H C0 = some (.lst ws) ∧ ws.length = cs.length ∧ LI K Hp0 (upd H C0 (.lst (ws ++ [v]))) dk C0 Ce kinds defs (cs ++ [c]) gs := by
  obtain ⟨a1, a2, a3, a4, a5, a6, a7, ⟨vs, e1, p1⟩, ⟨ws, e2, p2⟩, a8⟩ := M
  have t := TEx.upd_lst (ys := vs ++ [v]) e1
  exact ⟨vs, e1, Paired.length p1, a1, a2, a3, a4, a5, a6.upd_free a1, a7.upd a3.symm, ⟨_, upd_same, paired_append (L2.Paired.mapP p1 fun _ _ z => z.to t) (.cons (h.to t) .nil)⟩, ⟨ws, by rw [upd_ne a5.symm]; exact e2, L2.Paired.mapP p2 fun _ _ z => z.to t (ButG.upd (by simp))⟩, fun d hd => by
    rcases List.mem_append.mp hd with hd | hd
    · exact a8 d hd
    · rw [List.mem_singleton.mp hd]; exact hc⟩
end
/-! ### rows as data -/
def valD : V → PyData
  | .str z => .str z
  | .int n => .int n
  | _ => .none
def rowD (r : Row Nm) : PyData := .tuple ((rowV r).map valD)
theorem row_dp {K : PySem.W.Frag} {H : Hp} {v : V} {r : Row Nm} (h : RowAt K H v r) : Dp K H v (rowD r) := by
  obtain ⟨a, rfl, h⟩ := h
  unfold rowD
  refine .tup h ?_
  cases r with
  | loc n => exact .cons (.str _) (.cons (.int _) .nil)
  | drop => exact .cons (.str _) .nil
  | keep => exact .cons (.str _) .nil
  | forget n => exact .cons (.str _) (.cons (.int _) .nil)
  | part n => exact .cons (.str _) (.cons (.int _) .nil)
  | make m n => exact .cons (.str _) (.cons (.int _) (.cons (.int _) .nil))
  | same => exact .cons (.str _) .nil
  | call f n => exact .cons (.str _) (.cons (.str _) (.cons (.str _) (.cons (.int _) .nil)))
  | isr m to => exact .cons (.str _) (.cons (.int _) (.cons (.int _) .nil))
  | go to => exact .cons (.str _) (.cons (.int _) .nil)
  | back => exact .cons (.str _) .nil
theorem rows_dp {K : PySem.W.Frag} {H : Hp} {v : V} {F : List (Row Nm)} (h : RowsAt K H v F) : Dp K H v (.tuple (F.map rowD)) := by
  obtain ⟨a, vs, rfl, h, p⟩ := h
  refine .tup h ?_
  clear h
  induction p with
  | nil => exact .nil
  | cons q _ ih => exact .cons (row_dp q) ih
theorem ok_words : ∀ z ∈ (["local", "drop", "keep", "forget", "part", "make", "same", "call", "is", "go", "back"] : List Str), PyData.strOk z = true := by
  intro z hz
  simp only [List.mem_cons, List.not_mem_nil, or_false] at hz
  rcases hz with rfl | rfl | rfl | rfl | rfl | rfl | rfl | rfl | rfl | rfl | rfl <;> decide +kernel
theorem row_can (r : Row Nm) (h : posR okNm r) : (rowD r).canLay0 = true := by
  cases r with
  | call f n =>
    have h : okNm f := h
    have := ok_words "call" (by simp)
    simp [rowD, rowV, valD, PyData.canLay0, PyData.canLayAll0, h.1, h.2, this]
  | _ => simp [rowD, rowV, valD, PyData.canLay0, PyData.canLayAll0, ok_words]
theorem rows_can (F : List (Row Nm)) (h : PosL okNm F) : (PyData.tuple (F.map rowD)).canLay0 = true := by
  induction F with
  | nil => simp [PyData.canLay0, PyData.canLayAll0]
  | cons r q ih =>
    simp only [List.map_cons, PyData.canLay0, PyData.canLayAll0] at ih ⊢
    rw [row_can r (h r List.mem_cons_self), ih fun x hx => h x (List.mem_cons_of_mem _ hx)]; rfl
theorem row_dep (r : Row Nm) : (rowD r).depth ≤ 2 := by cases r <;> simp [rowD, rowV, valD, PyData.depth, PyData.depthAll]
theorem rows_dep (F : List (Row Nm)) : (PyData.tuple (F.map rowD)).depth ≤ 3 := by
  induction F with
  | nil => simp [PyData.depth, PyData.depthAll]
  | cons r q ih =>
    have := row_dep r
    simp only [List.map_cons, PyData.depth, PyData.depthAll] at ih ⊢
    omega
end K87

set_option Elab.async false
set_option linter.all false
set_option maxRecDepth 100000
set_option maxHeartbeats 8000000
namespace K87
open PySem PySem.Spec PyProof.Rows L2 Ru Rp Mch
theorem five_g {r : Nat} (h : r < 5) : ∃ c : Nat, c ≤ 3 ∧ atI ([.int 2, .int 1, .int 3, .int 0, .int 2] : List V) (r : Int) = some (.int (c : Int)) := by
  match r with
  | 0 => exact ⟨2, by omega, rfl⟩
  | 1 => exact ⟨1, by omega, rfl⟩
  | 2 => exact ⟨3, by omega, rfl⟩
  | 3 => exact ⟨0, by omega, rfl⟩
  | 4 => exact ⟨2, by omega, rfl⟩
  | r + 5 => omega
theorem five_k {r : Nat} (h : r < 5) : ∃ c : Nat, c ≤ 3 ∧ atI ([.int 1, .int 2, .int 3, .int 0, .int 3] : List V) (r : Int) = some (.int (c : Int)) := by
  match r with
  | 0 => exact ⟨1, by omega, rfl⟩
  | 1 => exact ⟨2, by omega, rfl⟩
  | 2 => exact ⟨3, by omega, rfl⟩
  | 3 => exact ⟨0, by omega, rfl⟩
  | 4 => exact ⟨3, by omega, rfl⟩
  | r + 5 => omega
theorem core_at {K : PySem.W.Frag} {H : Hp} {v : V} {c : Cr} (h : TrAt K H v (coreT c)) : ∃ ca g gv v1 v2, v = .ref ca ∧ SqT K H ca [.ref g, v1, v2] ∧ SqT K H g gv ∧ gv.length = c.G.length ∧ TrAt K H v2 (toldT c.t) := by
  obtain ⟨ca, vs, rfl, h1, h2⟩ := tr_t.mp h
  obtain ⟨x0, q0, rfl, g0, r0⟩ := trs_cons.mp h2
  obtain ⟨x1, q1, rfl, g1, r1⟩ := trs_cons.mp r0
  obtain ⟨x2, q2, rfl, g2, r2⟩ := trs_cons.mp r1
  obtain rfl := trs_nil.mp r2
  obtain ⟨ga, gv, rfl, h3, h4⟩ := tr_t.mp g0
  have := trs_len h4
  rw [List.length_map] at this
  exact ⟨ca, ga, gv, x1, x2, rfl, h1, h3, this, g2⟩
def rowsC (c : Cr) : List (Row Nm) := compile c.G.length c.t
theorem row_eqv (r : Row Nm) : PyData.eqv (rowD r) (rowD r) = true := by cases r <;> simp [rowD, rowV, valD, PyData.eqv, PyData.eqvAll]
theorem rows_eqv (F : List (Row Nm)) : PyData.eqv (.tuple (F.map rowD)) (.tuple (F.map rowD)) = true := by
  induction F with
  | nil => simp [PyData.eqv, PyData.eqvAll]
  | cons r q ih =>
    simp only [List.map_cons, PyData.eqv, PyData.eqvAll] at ih ⊢
    rw [row_eqv r, ih]; rfl
mutual
theorem eqb_refl : ∀ c : Cell, c.eqb c = true
  | .mk n cs => by
    rw [Cell.eqb, eqbs_refl cs, decide_eq_true rfl]; rfl
theorem eqbs_refl : ∀ cs : List Cell, eqbs cs cs = true
  | [] => by rw [eqbs]
  | c :: r => by rw [eqbs, eqb_refl c, eqbs_refl r]; rfl
end
/-- what a core's rows answer -/
theorem core_go {kinds : Kinds} {defs : List Df} (hK : KindsOk kinds) (hdf : DefsOk defs) {c : Cr} (h : CrOk kinds defs c) {env : List Cell} (he : CellsK kinds env c.G) : ∃ x n, worth (doesF kinds defs) c.t env = some x ∧ CellK kinds x c.k ∧ Go (rowsC c) (doesB kinds defs) 0 env [] n env [x] ∧ (rowsC c)[n]? = some .back := by
  have hD : ∀ f gs k cs, dkOf defs f gs k → CellsK kinds cs gs → ∃ v, doesB kinds defs f cs = some v ∧ CellK kinds v k := by
    intro f gs k cs hf hc
    obtain ⟨v, e, hv⟩ := does_ok hK hdf.names (fun d hd => (hdf.kinds d hd).1) f gs k cs hf hc
    obtain ⟨d, hd, _, e2, _⟩ := hf
    have hg : ∀ g ∈ gs, g < 4 := by rw [← e2]; exact (hdf.kinds d hd).2.2
    have hl : gs.length ≤ 3 := by rw [← e2]; exact (hdf.kinds d hd).2.1
    have h1 := cellsK_depth hK cs gs 4 hc hg
    have h2 := cellsK_size hK cs gs 4 hc hg
    have h3 : gs.length * 4 ^ 4 ≤ 3 * 4 ^ 4 := Nat.mul_le_mul_right _ hl
    refine ⟨v, ?_, hv⟩
    unfold doesB
    rw [if_pos ⟨h1, by omega⟩]
    exact e
  obtain ⟨v, n, h1, h2, h3, h4, _⟩ := compile_ok hK.zero hD (fun c k hc => by have := cellK_depth hK c k hc; have := cellK_lt hK hc; omega) h.kd he
  exact ⟨v, n, worth_mono (fun f cs v e => (doesB_some e).1) _ _ _ h1, h2, h3, h4⟩
section
variable {P : Program} {w : World} {K : PySem.W.Frag} {mg : Str → Option Value} {base : Heap}
abbrev N_law : List Str := ["script", "deck", "kinds", "defs", "cores", "cells", "n", "givens", "k", "kind", "answer", "told", "found", "core", "rows", "row", "due"]
theorem sc_law : FnScope N_law ["script"] (defScope s_law) := ⟨rfl, rfl, rfl, by decide +kernel, rfl, by decide +kernel, by decide +kernel⟩
def spLaw (K : PySem.W.Frag) : Sp := fun vs H Q _ => ∃ (a : Addr) (ns : List Int), vs = [.ref a] ∧ SqL K H a (ns.map V.int) ∧ ns.length ≤ 63 ∧ ∀ H', Q (.bl true) H'
theorem ok_law (T : Txt K mg) : FnOk P w K mg base CX0 80 T.f_law T.fd_law ["script"] (spLaw K) := by
  refine T.F_law.ok sc_law (fun vs H Q E h => ?_) (fun cdv A outer sh H vs Q E hr h => ?_)
  · obtain ⟨a, ns, rfl, _⟩ := h
    rfl
  · obtain ⟨a, ns, rfl, hS, hns, kk⟩ := h
    have nd := sc_law.nd
    have G__law_deck : FnOk P w K mg base CX0 1 T.f__law_deck T.fd__law_deck ["script", "many"] (spDeck K) := ok_deck T
    have hr__law_deck : Room 1 _ := hr.mono (by omega)
    have G__law_kinds : FnOk P w K mg base CX0 6 T.f__law_kinds T.fd__law_kinds ["deck"] (spKinds K) := ok_kinds T
    have hr__law_kinds : Room 6 _ := hr.mono (by omega)
    have G__law_defs : FnOk P w K mg base CX0 2 T.f__law_defs T.fd__law_defs ["deck"] (spDefs K) := ok_defs T
    have hr__law_defs : Room 2 _ := hr.mono (by omega)
    have G__law_take : FnOk P w K mg base CX0 1 T.f__law_take T.fd__law_take ["deck", "many"] spTake := ok_take T
    have hr__law_take : Room 1 _ := hr.mono (by omega)
    have G__law_cell : FnOk P w K mg base CX0 6 T.f__law_cell T.fd__law_cell ["deck", "kinds", "kind"] (spCell K 4) := ok_cell T 4
    have hr__law_cell : Room 6 _ := hr.mono (by omega)
    have G__law_core : FnOk P w K mg base CX0 67 T.f__law_core T.fd__law_core ["deck", "kinds", "kind", "env", "left"] (spCore K 19) := ok_core T 19
    have hr__law_core : Room 67 _ := hr.mono (by omega)
    have G__law_count : FnOk P w K mg base CX0 69 T.f__law_count T.fd__law_count ["told"] (spCount K 67) := ok_count T 67
    have hr__law_count : Room 69 _ := hr.mono (by omega)
    have G__law_pair : FnOk P w K mg base CX0 1 T.f__law_pair T.fd__law_pair ["kind"] (spPair K) := ok_pair T
    have hr__law_pair : Room 1 _ := hr.mono (by omega)
    have G__law_plain_rows : FnOk P w K mg base CX0 1 T.f__law_plain_rows T.fd__law_plain_rows ["rows"] (spPlain K) := ok_plain T
    have hr__law_plain_rows : Room 1 _ := hr.mono (by omega)
    have G__law_anew : FnOk P w K mg base CX0 70 T.f__law_anew T.fd__law_anew ["told"] (spAnew K 68) := ok_anew T 68
    have hr__law_anew : Room 70 _ := hr.mono (by omega)
    have G__law_worth : FnOk P w K mg base CX0 75 T.f__law_worth T.fd__law_worth ["told", "env", "kinds", "defs"] (spWorth K 67) := ok_worth T 67
    have hr__law_worth : Room 75 _ := hr.mono (by omega)
    have G__law_machine : FnOk P w K mg base CX0 8 T.f__law_machine T.fd__law_machine ["rows", "cells", "kinds", "defs"] (spMachine K) := ok_machine T
    have hr__law_machine : Room 8 _ := hr.mono (by omega)
    have G_rows_of : FnOk P w K mg base CX0 6 T.f_rows_of T.fd_rows_of ["core"] (spRowsOf K) := ok_rows_of T
    have hr_rows_of : Room 6 _ := hr.mono (by omega)
    have hum : (A.deeper (envOfC (Str.ofString "law") (defScope s_law) sh.heap.objs.size T.f_law cdv)).units + 210 < cLine := by have := hr.un; omega
    refine ⟨_, (pss_cons (ps_set (i := 1) nd rfl (Or.inr rfl) (pe_call G__law_deck hr__law_deck rfl T.g__law_deck T.k__law_deck T.b__law_deck .nil pass0 (pa_cons (pv 0) (pa_cons pe_int pa_nil))))
          (pss_cons (ps_set (i := 2) nd rfl (Or.inr rfl) (pe_call G__law_kinds hr__law_kinds rfl T.g__law_kinds T.k__law_kinds T.b__law_kinds .nil pass0 (pa_cons (pv 1) pa_nil)))
          (pss_cons (ps_set (i := 3) nd rfl (Or.inl rfl) (pe_call G__law_defs hr__law_defs rfl T.g__law_defs T.k__law_defs T.b__law_defs .nil pass0 (pa_cons (pv 1) pa_nil)))
          (pss_cons (ps_set (i := 4) nd rfl (Or.inl rfl) (pe_lst pa_nil))
          (pss_cons (ps_set (i := 5) nd rfl (Or.inl rfl) (pe_lst pa_nil))
          (pss_cons (ps_for PassesOwn.never rfl (pi_range1 rfl T.z_range (pa_cons pe_int pa_nil)) (pg_name (i := 6) nd rfl (Or.inl rfl))
            (pss_cons (ps_set (i := 7) nd rfl (Or.inr rfl) (pe_lc (own := [("k", 8)]) (g := gName 8) (tt := tYes) rfl nd (pi_range1 rfl T.z_range (pa_cons (pe_ix ix_list (pe_lst (pa_cons pe_int (pa_cons pe_int (pa_cons pe_int (pa_cons pe_int (pa_cons pe_int pa_nil)))))) (pe_call G__law_take hr__law_take rfl T.g__law_take T.k__law_take T.b__law_take .nil pass0 (pa_cons (pv 1) (pa_cons pe_int pa_nil))) (fun _ _ => rfl)) pa_nil)) (blkOk_by (own := [("k", 8)]) (N := N_law) (sc := defScope s_law) (by decide +kernel)) (fun _ _ _ _ _ => pg_name (i := 8) nd rfl (Or.inl rfl)) (fun _ _ _ _ _ => pts_nil) (fun _ _ _ _ _ => (pe_call G__law_take hr__law_take rfl T.g__law_take T.k__law_take T.b__law_take .nil pass0 (pa_cons (pv 1) (pa_cons pe_int pa_nil))))))
            (pss_cons (ps_expr (pe_bm PySem.F.plainAttrs_list PySem.F.slot_list_append PySem.F.type_list_append mt_append (pv 5) (pa_cons (pe_lc (own := [("k", 8)]) (g := gName 8) (tt := tYes) (te := tLc (iList K (tVar 7)) (gName 9) tYes (tCall (spCell K 4) [] E0 (tCons (tVar 1) (tCons (tVar 2) (tCons (tVar 9) tNil)))) [9]) rfl nd (pi_range1 rfl T.z_range (pa_cons pe_int pa_nil)) (blkOk_by (own := [("k", 8)]) (N := N_law) (sc := defScope s_law) (by decide +kernel)) (fun _ _ _ _ _ => pg_name (i := 8) nd rfl (Or.inl rfl)) (fun _ _ _ _ _ => pts_nil) (fun _ _ _ _ _ => (pe_lc (own := [("kind", 9)]) (g := gName 9) (tt := tYes) rfl nd (pi_list (pv 7)) (blkOk_by (own := [("kind", 9)]) (N := N_law) (by exact Eq.refl true)) (fun _ _ _ _ _ => pg_name (i := 9) nd rfl (Or.inl rfl)) (fun _ _ _ _ _ => pts_nil) (fun _ _ _ _ _ => (pe_call G__law_cell hr__law_cell rfl T.g__law_cell T.k__law_cell T.b__law_cell .nil pass0 (pa_cons (pv 1) (pa_cons (pv 2) (pa_cons (pv 9) pa_nil)))))))) pa_nil)))
            (pss_cons (ps_set (i := 10) nd rfl (Or.inl rfl) (pe_ix ix_list (pe_lst (pa_cons pe_int (pa_cons pe_int (pa_cons pe_int (pa_cons pe_int (pa_cons pe_int pa_nil)))))) (pe_call G__law_take hr__law_take rfl T.g__law_take T.k__law_take T.b__law_take .nil pass0 (pa_cons (pv 1) (pa_cons pe_int pa_nil))) (fun _ _ => rfl)))
            (pss_cons (ps_set (i := 11) nd rfl (Or.inl rfl) (pe_call G__law_core hr__law_core rfl T.g__law_core T.k__law_core T.b__law_core .nil pass0 (pa_cons (pv 1) (pa_cons (pv 2) (pa_cons (pv 10) (pa_cons (pe_tup (pa_cons (pv 7) (pa_cons (pv 3) pa_nil))) (pa_cons (pe_op op_sub pe_int (pe_op op_mul pe_int (pv 6))) pa_nil)))))))
            (pss_cons (ps_if (pt_cmpR op_gt (pe_call G__law_count hr__law_count rfl T.g__law_count T.k__law_count T.b__law_count .nil pass0 (pa_cons (pv 11) pa_nil)) pe_int (nomark _))
              (pss_one (ps_set (i := 11) nd rfl (Or.inl rfl) (pe_call G__law_core hr__law_core rfl T.g__law_core T.k__law_core T.b__law_core .nil pass0 (pa_cons (pe_lst pa_nil) (pa_cons (pv 2) (pa_cons (pv 10) (pa_cons (pe_tup (pa_cons (pv 7) (pa_cons (pv 3) pa_nil))) (pa_cons pe_int pa_nil))))))))
              pss_nil)
            (pss_one (ps_expr (pe_bm PySem.F.plainAttrs_list PySem.F.slot_list_append PySem.F.type_list_append mt_append (pv 4) (pa_cons (pe_tup (pa_cons (pe_callTy call_tuple_of (by rfl) T.z_tuple (by decide +kernel) (pa_cons (pe_lc (own := [("kind", 9)]) (g := gName 9) (tt := tYes) rfl nd (pi_list (pv 7)) (blkOk_by (own := [("kind", 9)]) (N := N_law) (sc := defScope s_law) (by decide +kernel)) (fun _ _ _ _ _ => pg_name (i := 9) nd rfl (Or.inl rfl)) (fun _ _ _ _ _ => pts_nil) (fun _ _ _ _ _ => (pe_call G__law_pair hr__law_pair rfl T.g__law_pair T.k__law_pair T.b__law_pair .nil pass0 (pa_cons (pv 9) pa_nil)))) pa_nil)) (pa_cons (pe_call G__law_pair hr__law_pair rfl T.g__law_pair T.k__law_pair T.b__law_pair .nil pass0 (pa_cons (pv 10) pa_nil)) (pa_cons (pv 11) pa_nil)))) pa_nil))))))))))
          (pss_cons (ps_set (i := 12) nd rfl (Or.inl rfl) (pe_lst pa_nil))
          (pss_cons (ps_for PassesOwn.never rfl (pi_list (pv 4)) (pg_name (i := 13) nd rfl (Or.inl rfl))
            (pss_one (ps_expr (pe_bm PySem.F.plainAttrs_list PySem.F.slot_list_append PySem.F.type_list_append mt_append (pv 12) (pa_cons (pe_call G_rows_of hr_rows_of rfl T.g_rows_of T.k_rows_of T.b_rows_of .nil pass0 (pa_cons (pv 13) pa_nil)) pa_nil)))))
          (pss_cons (ps_for PassesOwn.never rfl (pi_range1 rfl T.z_range (pa_cons pe_int pa_nil)) (pg_name (i := 6) nd rfl (Or.inl rfl))
            (pss_cons (ps_set (i := 14) nd rfl (Or.inl rfl) (pe_ix ix_list (pv 12) (pv 6) (fun _ _ => rfl)))
            (pss_cons (ps_if (PW.pt (pw_or (pt_not (pt_val (pe_call G__law_plain_rows hr__law_plain_rows rfl T.g__law_plain_rows T.k__law_plain_rows T.b__law_plain_rows .nil pass0 (pa_cons (pv 14) pa_nil)))) (pw_or1 (pt_cmpR (Ru.op_neM hum) (pe_call G_rows_of hr_rows_of rfl T.g_rows_of T.k_rows_of T.b_rows_of .nil pass0 (pa_cons (pe_call G__law_anew hr__law_anew rfl T.g__law_anew T.k__law_anew T.b__law_anew .nil pass0 (pa_cons (pe_ix ix_list (pv 4) (pv 6) (fun _ _ => rfl)) pa_nil)) pa_nil)) (pv 14) (nomark _)))))
              (pss_one (ps_ret pe_bl))
              pss_nil)
            (pss_cons (ps_if (pt_cmpR op_gt (pe_callB call_len_seq (by rfl) T.z_len (by decide +kernel) (pa_cons (pv 14) pa_nil)) (pe_op op_mul pe_int (pe_call G__law_count hr__law_count rfl T.g__law_count T.k__law_count T.b__law_count .nil pass0 (pa_cons (pe_ix ix_tup (pe_ix ix_list (pv 4) (pv 6) (fun _ _ => rfl)) pe_int (fun _ _ => rfl)) pa_nil))) (nomark _))
              (pss_one (ps_ret pe_bl))
              pss_nil)
            (pss_one (ps_for PassesOwn.never rfl (pi_list (pe_ix ix_list (pv 5) (pv 6) (fun _ _ => rfl))) (pg_name (i := 15) nd rfl (Or.inl rfl))
              (pss_cons (ps_set (i := 16) nd rfl (Or.inl rfl) (pe_call G__law_worth hr__law_worth rfl T.g__law_worth T.k__law_worth T.b__law_worth .nil pass0 (pa_cons (pe_ix ix_tup (pe_ix ix_list (pv 4) (pv 6) (fun _ _ => rfl)) pe_int (fun _ _ => rfl)) (pa_cons (pv 15) (pa_cons (pv 2) (pa_cons (pv 3) pa_nil))))))
              (pss_one (ps_if (PW.pt (pw_or (pt_cmpR op_isN (pv 16) pe_non (nomark _)) (pw_or1 (pt_cmpR (Ru.op_neM hum) (pe_call G__law_machine hr__law_machine rfl T.g__law_machine T.k__law_machine T.b__law_machine .nil pass0 (pa_cons (pv 14) (pa_cons (pv 15) (pa_cons (pv 2) (pa_cons (pv 3) pa_nil))))) (pv 16) (nomark _)))))
                (pss_one (ps_ret pe_bl))
                pss_nil)))))))))
          (pss_one (ps_ret pe_bl))))))))))), ?_⟩
    refine ⟨_, rfl, a, ns, 460, rfl, hS, hns, by decide, fun dk H1 hdk s1 D1 => ?_⟩
    refine ⟨_, rfl, dk, rfl, D1, fun v kinds H2 b2 D2 hv2 hK => ?_⟩
    refine ⟨_, rfl, dk, rfl, D2, fun vd defs H3 b3 D3 hvd3 hdf hnm => ?_⟩
    have hv3 := hv2.to b3
    clear hv2 b2 D2 b3 s1 D1 hS
    refine ⟨sl_le (by show 0 ≤ 10000000; decide), fun C0 hC0 => ⟨sl_le (by show 0 ≤ 10000000; decide), fun Ce hCe => ?_⟩⟩
    have s4 := same_new (o := .lst []) hC0
    have s5 := same_new (o := .lst []) hCe
    have nCE : C0 ≠ Ce := fun z => by
      have e : (upd H3 C0 (.lst [])) Ce = some (.lst []) := by rw [← z]; exact upd_same
      rw [hCe] at e
      cases e
    have M0 : LI K H3 (upd (upd H3 C0 (.lst [])) Ce (.lst [])) dk C0 Ce kinds defs [] [] := ⟨hC0, s4.free hCe, fun z => D3.some (z ▸ hC0), fun z => (D3.same s4).some (z ▸ hCe), nCE, But1.of_same (s4.trans s5), D3.same (s4.trans s5), ⟨[], s5 _ _ upd_same, .nil⟩, ⟨[], upd_same, .nil⟩, fun c h => by cases h⟩
    generalize (upd (upd H3 C0 (.lst [])) Ce (.lst [])) = H5 at *
    clear s4 s5 hCe
    have kinds_at' : ∀ {H' : Hp}, But1 H3 H' dk → KindsAt H' dk v kinds := fun b => hv3.to b
    have defs_at' : ∀ {H' : Hp}, But1 H3 H' dk → DfsAt K H' dk vd defs := fun b => hvd3.to (D3.tex b) b
    dsimp only [gName]
    refine ⟨_, rfl, by decide, by decide, for_range (lo := 0) (n := 2) (fun n σ H' => ∃ (cs : List Cr) (x6 x7 x8 x9 x10 x11 : Option V), σ = [some (.ref a), some (.ref dk), some v, some vd, some (.ref C0), some (.ref Ce), x6, x7, x8, x9, x10, x11, none, none, none, none, none] ∧ LI K H3 H' dk C0 Ce kinds defs cs (cs.map (·.G)) ∧ cs.length = n)
      ⟨[], _, _, _, _, _, _, rfl, M0, rfl⟩ ?_ ?_⟩
    · rintro n σ H6 hn ⟨cs, x6, x7, x8, x9, x10, x11, rfl, M6, lcs⟩
      dsimp only [gName]
      -- givens
      refine ⟨sl_le (by show 5 ≤ 10000000; decide), fun q hq => ?_⟩
      have s7 := same_new (o := .lst [.int 2, .int 1, .int 3, .int 0, .int 2]) hq
      have M7 := M6.same s7
      have nqd : q ≠ dk := fun z => M6.deck.some (z ▸ hq)
      refine ⟨_, rfl, dk, 5, rfl, by decide, M7.deck, fun r8 H8 hr8 b8 d8 => ?_⟩
      obtain ⟨c, hc, ec⟩ := five_g hr8
      have M8 := M7.to b8 d8
      refine ⟨q, _, _, .int (c : Int), rfl, rfl, SqL.of (b8 _ _ upd_same nqd), ec, _, rfl, by omega, by omega, fun Gv hGv => lc_range (lo := 0) (n := c) (fun i H' => ∃ ns : List Nat, But1 H8 H' dk ∧ DeckAt H' dk ∧ H' Gv = some (.lst (natVs ns)) ∧ ns.length = i ∧ ∀ n ∈ ns, n < 4)
        ⟨[], But1.of_same (same_new hGv), M8.deck.same (same_new hGv), upd_same, rfl, fun n h => by cases h⟩ ?_ ?_⟩
      · rintro i H9 hi ⟨ns, b9, d9, eG, ln, hnn⟩
        have nGd : Gv ≠ dk := fun z => M8.deck.some (z ▸ hGv)
        refine ⟨rfl, _, rfl, dk, 4, rfl, by decide, d9, fun r H10 hr10 b10 d10 => ?_⟩
        refine ⟨natVs ns, b10 _ _ eG nGd, sl_lt (by rw [natVs_len]; omega), ns ++ [r], (b9.trans b10).upd_free hGv, d10.upd nGd.symm, by rw [upd_same, ← natVs_snoc], by rw [List.length_append, List.length_singleton]; omega, fun n h => ?_⟩
        rcases List.mem_append.mp h with h | h
        · exact hnn n h
        · rw [List.mem_singleton.mp h]; exact hr10
      rintro H9 ⟨G, b9, d9, eG, lG, hG⟩
      have nGd : Gv ≠ dk := fun z => M8.deck.some (z ▸ hGv)
      have nGC : Gv ≠ C0 := fun z => by
        obtain ⟨vs, e, _⟩ := M8.cores
        rw [← z, hGv] at e
        cases e
      have nGE : Gv ≠ Ce := fun z => by
        obtain ⟨vs, e, _⟩ := M8.cells
        rw [← z, hGv] at e
        cases e
      have M9 := M8.to b9 d9
      clear M7 M8 b8 d8 s7 hq b9 d9
      -- cells.append(..)
      dsimp only [gName]
      obtain ⟨ce9, eCe9, pce9⟩ := M9.cells
      refine ⟨_, rfl, .inl ⟨rfl, _, SqL.of eCe9⟩, _, rfl, by decide, by decide, fun R hR => lc_range (lo := 0) (n := 5) (fun i H' => ∃ vs : List V, But1 H9 H' dk ∧ DeckAt H' dk ∧ H' R = some (.lst vs) ∧ vs.length = i ∧ ∀ x ∈ vs, RG K kinds H' [R, dk, C0, Ce] x G)
        ⟨[], But1.of_same (same_new hR), M9.deck.same (same_new hR), upd_same, rfl, fun x h => by cases h⟩ ?_ ?_⟩
      · rintro i H10 hi ⟨vs, b10, d10, eR, lvs, hvs⟩
        have nRd : R ≠ dk := fun z => M9.deck.some (z ▸ hR)
        have M10 := M9.to b10 d10
        have eG10 := b10 _ _ eG nGd
        refine ⟨rfl, _, rfl, Gv, rfl, ⟨_, SqL.of eG10⟩, fun l hl => lc_list (K := K) (a := Gv) (xs := natVs G) (fun j H' => ∃ (evs : List V) (env : List Cell), But1 H10 H' dk ∧ DeckAt H' dk ∧ H' l = some (.lst evs) ∧ CellsAt K H' evs env ∧ CellsK kinds env (G.take j))
          ⟨[], [], But1.of_same (same_new hl), d10.same (same_new hl), upd_same, cells_nil.mpr rfl, by rw [List.take_zero]; exact cellsK_nil.mpr rfl⟩ (fun j H' _ ⟨_, _, b, _⟩ => SqL.of (b _ _ eG10 nGd)) ?_ ?_⟩
        · rintro j y H11 hy ⟨evs, env, b11, d11, el, hev, hek⟩
          have nld : l ≠ dk := fun z => d10.some (z ▸ hl)
          have hj : j < G.length := by
            have := (List.getElem?_eq_some_iff.mp hy).1
            rw [natVs_len] at this
            exact this
          rw [natVs_at (List.getElem?_eq_getElem hj)] at hy
          cases hy
          have hg4 := hG _ (List.getElem_mem hj)
          have M11 := M10.to b11 d11
          refine ⟨rfl, _, rfl, _, rfl, _, rfl, dk, v, kinds, G[j], rfl, d11, kinds_at' M11.but, hK, by omega, by omega, fun u cc H12 b12 d12 hcc hck => ?_⟩
          have el12 := b12 _ _ el nld
          have t12 := d11.tex b12
          have t13 := TEx.upd_lst (ys := evs ++ [u]) el12
          have levs := cells_len hev
          have lenv := cellsK_len hek
          rw [List.length_take] at lenv
          refine ⟨evs, el12, sl_lt (by omega), evs ++ [u], env ++ [cc], (b11.trans b12).upd_free hl, d12.upd nld.symm, upd_same, cells_snoc ((hev.to t12).to t13) (hcc.to t13), ?_⟩
          rw [List.take_succ, List.getElem?_eq_getElem hj]
          exact cellsK_append hek (cellsK_one hck)
        · rintro H11 ⟨evs, env, b11, d11, el, hev, hek⟩
          have nld : l ≠ dk := fun z => d10.some (z ▸ hl)
          rw [natVs_len, List.take_length] at hek
          have eR11 := b11 _ _ eR nRd
          have t11 := d10.tex b11
          have t12 := TEx.upd_lst (ys := vs ++ [.ref l]) eR11
          refine ⟨vs, eR11, sl_lt (by omega), vs ++ [.ref l], (b10.trans b11).upd_free hR, d11.upd nRd.symm, upd_same, by rw [List.length_append, List.length_singleton]; omega, fun x hx => ?_⟩
          rcases List.mem_append.mp hx with hx | hx
          · exact ((hvs x hx).to t11 (ButG.of1 b11 (by simp))).to t12 (ButG.upd (by simp))
          · rw [List.mem_singleton.mp hx]
            have nlR : l ≠ R := fun z => by rw [z, eR] at hl; cases hl
            refine ⟨l, evs, env, rfl, by rw [upd_ne nlR]; exact el, hev.to t12, hek, fresh_not hl ?_⟩
            intro b hb
            rcases List.mem_cons.mp hb with rfl | hb
            · rw [eR]; simp
            rcases List.mem_cons.mp hb with rfl | hb
            · exact d10.some
            rcases List.mem_cons.mp hb with rfl | hb
            · obtain ⟨vs, e, _⟩ := M10.cores
              rw [e]; simp
            · rw [List.mem_singleton.mp hb]
              obtain ⟨vs, e, _⟩ := M10.cells
              rw [e]; simp
      rintro H10 ⟨vs, b10, d10, eR, lvs, hvs⟩
      have nR : R ∉ [dk, C0, Ce] := fresh_not hR (by
        intro b hb
        rcases List.mem_cons.mp hb with rfl | hb
        · exact M9.deck.some
        rcases List.mem_cons.mp hb with rfl | hb
        · obtain ⟨vs, e, _⟩ := M9.cores
          rw [e]; simp
        · rw [List.mem_singleton.mp hb, eCe9]; simp)
      have M10 := M9.to b10 d10
      have eG10 := b10 _ _ eG nGd
      obtain ⟨ws, eCe, lws, M11⟩ := M10.pushE (v := .ref R) (G := G) ⟨R, vs, rfl, eR, nR, hvs⟩
      refine ⟨Ce, ws, _, rfl, rfl, eCe, sl_lt (by rw [lws, List.length_map]; omega), ?_⟩
      have eG11 : (upd H10 Ce (.lst (ws ++ [.ref R]))) Gv = some (.lst (natVs G)) := by rw [upd_ne nGE]; exact eG10
      generalize (upd H10 Ce (.lst (ws ++ [.ref R]))) = H11 at *
      clear M9 M10 eCe9 pce9 b10 d10 eR hvs hR hGv eG eG10 eCe
      -- answer
      refine ⟨sl_le (by show 5 ≤ 10000000; decide), fun q2 hq2 => ?_⟩
      have s12 := same_new (o := .lst [.int 1, .int 2, .int 3, .int 0, .int 3]) hq2
      have M12 := M11.same s12
      have nq2d : q2 ≠ dk := fun z => M11.deck.some (z ▸ hq2)
      refine ⟨_, rfl, dk, 5, rfl, by decide, M12.deck, fun r13 H13 hr13 b13 d13 => ?_⟩
      obtain ⟨k, hk3, ek⟩ := five_k hr13
      have M13 := M12.to b13 d13
      have eG13 := b13 _ _ (s12 _ _ eG11) nGd
      refine ⟨q2, _, _, .int (k : Int), rfl, rfl, SqL.of (b13 _ _ upd_same nq2d), ek, ?_⟩
      clear M11 M12 b13 d13 s12 hq2 eG11
      dsimp only [gName]
      -- told
      refine ⟨_, rfl, _, rfl, _, rfl, _, rfl, _, rfl, sl_le (by show 2 ≤ 10000000; decide), fun ev hev => ?_⟩
      have s14 := same_new (o := .tup [.ref Gv, vd]) hev
      have M14 := M13.same s14
      have eG14 := s14 _ _ eG13
      have asks : Asks K (upd H13 ev (.tup [.ref Gv, vd])) dk v (.ref ev) kinds k G defs (4 - 2 * (0 + (n : Int))) 19 := ⟨M14.deck, kinds_at' M14.but, ⟨ev, _, _, rfl, SqT.of upd_same, ⟨Gv, rfl, eG14, nGd⟩, defs_at' M14.but⟩, hK, hdf, by omega, by omega, by omega⟩
      refine ⟨_, rfl, _, _, rfl, rfl, .inl ⟨by decide, by decide⟩, _, _, rfl, rfl, dk, v, .ref ev, kinds, k, G, defs, _, rfl, asks, fun u t H15 b15 d15 hT => ?_⟩
      have M15 := M14.to b15 d15
      have eG15 := b15 _ _ eG14 nGd
      clear asks M13 M14 b15 d15 s14 hev eG13 eG14
      -- if _law_count(told) > 500
      dsimp only [gName]
      refine seq_of (fun σ H' => ∃ (u : V) (t : Told Nm), σ = [some (.ref a), some (.ref dk), some v, some vd, some (.ref C0), some (.ref Ce), some (.int (0 + (n : Int))), some (.ref Gv), x8, x9, some (.int (k : Int)), some u, none, none, none, none, none] ∧ LI K H3 H' dk C0 Ce kinds defs cs (cs.map (·.G) ++ [G]) ∧ H' Gv = some (.lst (natVs G)) ∧ TrAt K H' u (toldT t) ∧ CrOk kinds defs ⟨G, k, t⟩) (fun nx hnx => ?_) ?_
      · refine ⟨_, rfl, u, toldT t, cnt t, rfl, .told t, hT.fit, hT.tr, fun H16 s16 => ?_⟩
        have M16 := M15.same s16
        have eG16 := s16 _ _ eG15
        refine ⟨_, _, rfl, rfl, _, rfl, ite2 (fun _ => ?_) (fun z => ?_)⟩
        · refine ⟨sl_le (by show 0 ≤ 10000000; decide), fun d2 hd2 => ?_⟩
          have s17 := same_new (o := .lst []) hd2
          refine ⟨_, rfl, _, rfl, _, rfl, _, rfl, sl_le (by show 2 ≤ 10000000; decide), fun ev hev => ?_⟩
          have s18 := same_new (o := .tup [.ref Gv, vd]) hev
          have s1718 := s17.trans s18
          have M18 := M16.same s1718
          have eG18 := s1718 _ _ eG16
          have nGd2 : Gv ≠ d2 := ne_of_none eG16 hd2
          have kd2 : KindsAt (upd (upd H16 d2 (.lst [])) ev (.tup [.ref Gv, vd])) d2 v kinds := ((kinds_at' M16.but).guard hd2).to (But1.of_same s1718)
          have dd2 : DfsAt K (upd (upd H16 d2 (.lst [])) ev (.tup [.ref Gv, vd])) d2 vd defs := ((defs_at' M16.but).guard hd2).to (TEx.of_same s1718) (But1.of_same s1718)
          have dk2 : DeckAt (upd (upd H16 d2 (.lst [])) ev (.tup [.ref Gv, vd])) d2 := ⟨[], by simp, s18 _ _ upd_same⟩
          refine ⟨d2, v, .ref ev, kinds, k, G, defs, 0, rfl, ⟨dk2, kd2, ⟨ev, _, _, rfl, SqT.of upd_same, ⟨Gv, rfl, eG18, nGd2⟩, dd2⟩, hK, hdf, by omega, by omega, by omega⟩, fun u2 t2 H19 b19 d19 hT2 => ?_⟩
          have sB : Same H16 H19 := fun b o e => b19 _ _ (s1718 _ _ e) (ne_of_none e hd2)
          have h44 : 4 ^ (k + 1) ≤ 4 ^ 4 := Nat.pow_le_pow_right (by omega) (by omega)
          exact hnx _ _ ⟨u2, t2, rfl, M16.same sB, sB _ _ eG16, hT2.tr, ⟨hT2.kd, hT2.fit, by show cnt t2 ≤ 500; have := hT2.few (Int.le_refl _); omega, by show G.length ≤ 3; omega, by show k < 4; omega⟩⟩
        · have hz : ¬ (500 : Int) < (cnt t : Int) := fun h => z (decide_eq_true h)
          exact hnx _ _ ⟨u, t, rfl, M16, eG16, hT.tr.same s16, ⟨hT.kd, hT.fit, by show cnt t ≤ 500; omega, by show G.length ≤ 3; omega, by show k < 4; omega⟩⟩
      rintro σ H16 ⟨u, t, rfl, M16, eG16, hu, hok⟩
      clear M15 eG15 hT
      -- cores.append(..)
      obtain ⟨cv, eC16, _⟩ := M16.cores
      refine ⟨_, rfl, .inl ⟨rfl, _, SqL.of eC16⟩, _, rfl, Gv, rfl, ⟨_, SqL.of eG16⟩, fun D hD => lc_list (K := K) (a := Gv) (xs := natVs G) (fun j H' => ∃ (ws : List V), Same H16 H' ∧ H' D = some (.lst ws) ∧ TrsAt K H' ws ((G.take j).map pairT))
        ⟨[], same_new hD, upd_same, by rw [List.take_zero]; exact trs_nil.mpr rfl⟩ (fun j H' _ ⟨_, s, _⟩ => SqL.of (s _ _ eG16)) ?_ ?_⟩
      · rintro j y H17 hy ⟨ws, s17, eD, hws⟩
        have hj : j < G.length := by
          have := (List.getElem?_eq_some_iff.mp hy).1
          rw [natVs_len] at this
          exact this
        rw [natVs_at (List.getElem?_eq_getElem hj)] at hy
        cases hy
        have hg4 := hG _ (List.getElem_mem hj)
        refine ⟨rfl, _, rfl, G[j], rfl, hg4, fun pv H18 s18 hpv => ?_⟩
        have eD18 := s18 _ _ eD
        have lw := trs_len hws
        rw [List.length_map, List.length_take] at lw
        have t19 := TEx.upd_lst (ys := ws ++ [pv]) eD18
        refine ⟨ws, eD18, sl_lt (by omega), ws ++ [pv], fun b o e => ?_, upd_same, ?_⟩
        · rw [upd_ne (ne_of_none e hD)]
          exact s18 _ _ (s17 _ _ e)
        · rw [List.take_succ, List.getElem?_eq_getElem hj, Option.toList_some, List.map_append]
          exact trs_snoc ((hws.same s18).to t19) (hpv.to t19)
      rintro H17 ⟨ws, s17, eD, hws⟩
      rw [natVs_len, List.take_length] at hws
      refine ⟨D, ws, rfl, .inl ⟨SqL.of eD, fun gt hgt => ?_⟩⟩
      have s18 := same_new (o := .tup ws) hgt
      refine ⟨_, rfl, k, rfl, by omega, fun pv H19 s19 hpv => ⟨_, rfl, sl_le (by show 3 ≤ 10000000; decide), fun tp htp => ?_⟩⟩
      have s20 := same_new (o := .tup [.ref gt, pv, u]) htp
      have sB := s18.trans (s19.trans s20)
      have sC := s17.trans sB
      have M20 := M16.same sC
      obtain ⟨cv2, eC20, lcv, M21⟩ := M20.pushC (v := .ref tp) (c := ⟨G, k, t⟩) (tr_t.mpr ⟨tp, _, rfl, SqT.of upd_same, trs_cons.mpr ⟨_, _, rfl, tr_t.mpr ⟨gt, ws, rfl, SqT.of (s20 _ _ (s19 _ _ upd_same)), hws.same sB⟩, trs_cons.mpr ⟨_, _, rfl, hpv.same s20, trs_one (hu.same sC)⟩⟩⟩) hok
      refine ⟨C0, cv2, _, rfl, rfl, eC20, sl_lt (by omega), ?_⟩
      exact ⟨cs ++ [⟨G, k, t⟩], _, _, _, _, _, _, rfl, by rw [List.map_append]; exact M21, by rw [List.length_append, List.length_singleton]; omega⟩
    rintro σ H6 ⟨cs, x6, x7, x8, x9, x10, x11, rfl, M6, lcs⟩
    clear M0
    dsimp only [gName]
    refine ⟨sl_le (by show 0 ≤ 10000000; decide), fun F0 hF0 => ?_⟩
    have s7 := same_new (o := .lst []) hF0
    obtain ⟨cvs, eC6, pC6⟩ := M6.cores
    have lcv := Paired.length pC6
    have nF0 : ∀ {b : Addr} {o : HO}, H6 b = some o → b ≠ F0 := fun e => ne_of_none e hF0
    refine ⟨_, rfl, C0, rfl, ⟨_, SqL.of (s7 _ _ eC6)⟩, for_list (K := K) (a := C0) (xs := cvs) (fun i σ H' => ∃ (x13 : Option V) (fs : List V), σ = [some (.ref a), some (.ref dk), some v, some vd, some (.ref C0), some (.ref Ce), x6, x7, x8, x9, x10, x11, some (.ref F0), x13, none, none, none] ∧ Same H6 H' ∧ H' F0 = some (.lst fs) ∧ Paired (RowsAt K H') fs ((cs.take i).map rowsC))
      ⟨none, [], rfl, s7, upd_same, by rw [List.take_zero]; exact .nil⟩ (fun i σ H' _ ⟨_, _, _, s, _⟩ => SqL.of (s _ _ eC6)) ?_ ?_⟩
    · rintro i y σ H7 hy ⟨x13, fs, rfl, s67, eF, pF⟩
      have hi : i < cs.length := by
        have := (List.getElem?_eq_some_iff.mp hy).1
        omega
      have ec := List.getElem?_eq_getElem hi
      obtain ⟨y', e1, hy'⟩ := paired_get pC6 ec
      rw [hy] at e1
      cases e1
      have hok := M6.ok _ (List.getElem_mem hi)
      obtain ⟨ca, g, gv, v1, v2, rfl, h1, h2, h3, h4⟩ := core_at (hy'.same s67)
      have hl3 := hok.len
      refine ⟨_, rfl, .inl ⟨rfl, _, SqL.of eF⟩, _, rfl, ca, g, gv, v1, v2, _, rfl, h1, h2, h4, by rw [h3]; exact told_sc _ _ _ hok.kd, hok.few, by omega, fun u H8 hu s8 => ?_⟩
      have eF8 := s8 _ _ eF
      have lF := Paired.length pF
      rw [List.length_map, List.length_take] at lF
      have t9 := TEx.upd_lst (ys := fs ++ [u]) eF8
      refine ⟨F0, fs, _, rfl, rfl, eF8, sl_lt (by omega), some (.ref ca), fs ++ [u], rfl, fun b o e => ?_, upd_same, ?_⟩
      · rw [upd_ne (nF0 e)]
        exact s8 _ _ (s67 _ _ e)
      · rw [List.take_succ, ec, Option.toList_some, List.map_append]
        refine paired_append (L2.Paired.mapP pF fun _ _ z => (z.to (TEx.of_same s8)).to t9) (.cons ?_ .nil)
        rw [h3] at hu
        exact RowsAt.to t9 hu
    rintro σ H7 ⟨x13, fs, rfl, s67, eF, pF⟩
    rw [lcv, List.take_length] at pF
    have M7 := M6.same s67
    obtain ⟨ces, eE7, pE7⟩ := M7.cells
    have eC7 := s67 _ _ eC6
    have pC7 := L2.Paired.mapP pC6 fun _ _ z => TrAt.same z s67
    have kat := kinds_at' M7.but
    have dat := defs_at' M7.but
    have hoks := M7.ok
    clear M6 M7 eC6 pC6 s7 s67 hF0 nF0
    dsimp only [gName]
    refine ⟨_, rfl, by decide, by decide, for_range (lo := 0) (n := 2) (fun n σ H' => ∃ (x6 x13 x14 x15 x16 : Option V), σ = [some (.ref a), some (.ref dk), some v, some vd, some (.ref C0), some (.ref Ce), x6, x7, x8, x9, x10, x11, some (.ref F0), x13, x14, x15, x16] ∧ Same H7 H')
      ⟨x6, x13, none, none, none, rfl, Same.refl _⟩ ?_ ?_⟩
    · rintro n σ H8 hn ⟨y6, y13, y14, y15, y16, rfl, s8⟩
      have hcn : n < cs.length := by omega
      have ecn := List.getElem?_eq_getElem hcn
      have hok := hoks _ (List.getElem_mem hcn)
      obtain ⟨cv, ecv, hcv⟩ := paired_get pC7 ecn
      obtain ⟨rv, erv, hrv⟩ := paired_get pF (y := rowsC cs[n]) (i := n) (by rw [List.getElem?_map, ecn]; rfl)
      obtain ⟨ce, ece, R, rvs, rfl, eR, nR, hRs⟩ := paired_get pE7 (y := cs[n].G) (i := n) (by rw [List.getElem?_map, ecn]; rfl)
      generalize cs[n] = c at *
      have en : (0 : Int) + (n : Int) = (n : Int) := by omega
      have hpos : PosL okNm (rowsC c) := compile_pos _ _ (told_nm (kinds := kinds) (dk := dkOf defs) (fun f gs k ⟨d, hd, e, _⟩ => by rw [← e]; exact hnm d hd) _ _ _ hok.kd)
      have hlen := compile_len c.G.length c.t
      have hfew := hok.few
      dsimp only [gName]
      refine ⟨_, rfl, _, rfl, F0, fs, _, rv, rfl, rfl, SqL.of (s8 _ _ eF), (by rw [en]; exact atI_nat erv), ?_⟩
      -- plain rows, the same anew
      refine ⟨_, rfl, rv, rowsC c, rfl, RowsAt.to (TEx.of_same s8) hrv, ⟨_, hpos⟩, fun H9 s9 => ⟨_, rfl, iteF ?_⟩⟩
      have s79 := s8.trans s9
      refine ⟨_, rfl, _, rfl, C0, cvs, _, cv, rfl, rfl, SqL.of (s79 _ _ eC7), (by rw [en]; exact atI_nat ecv), cv, coreT c, rfl, hcv.same s79, coreT_fit hok, fun cu H10 s10 hcu => ?_⟩
      obtain ⟨ca, g, gv, v1, v2, rfl, h1, h2, h3, h4⟩ := core_at hcu
      have hl3 := hok.len
      refine ⟨ca, g, gv, v1, v2, _, rfl, h1, h2, h4, by rw [h3]; exact told_sc _ _ _ hok.kd, hok.few, by omega, fun u H11 hu s11 => ?_⟩
      have s7b := s79.trans (s10.trans s11)
      rw [h3] at hu
      have d3 := rows_dep (rowsC c)
      refine ⟨_, rfl, _, _, rows_dp (F := rowsC c) hu, rows_dp (RowsAt.to (TEx.of_same s7b) hrv), rows_can _ hpos, rows_can _ hpos, by omega, ?_⟩
      rw [rows_eqv]
      refine ⟨_, rfl, iteF ?_⟩
      clear hu h1 h2 h3 h4 hcu s79
      obtain ⟨ca, g, gv, v1, v2, rfl, h1, h2, h3, h4⟩ := core_at (hcv.same s7b)
      obtain ⟨rb, rrv, rfl, hrb, hrr⟩ := RowsAt.to (TEx.of_same s7b) hrv
      have lrr : rrv.length = (rowsC c).length := Paired.length hrr
      have hlen' : (rowsC c).length ≤ 20 * cnt c.t := hlen
      -- not too many
      refine ⟨_, rfl, rb, rrv, rfl, .inr hrb, _, rfl, _, rfl, C0, cvs, _, .ref ca, rfl, rfl, SqL.of (s7b _ _ eC7), (by rw [en]; exact atI_nat ecv), ca, _, _, _, rfl, rfl, h1, rfl, v2, toldT c.t, cnt c.t, rfl, .told c.t, hok.fit, h4, fun H12 s12 => ⟨_, _, rfl, rfl, .inl ⟨by decide, by decide⟩, _, _, rfl, rfl, _, rfl, ite2 (fun z => ?_) (fun _ => ?_)⟩⟩
      · have := of_decide_eq_true z
        omega
      have s7c := s7b.trans s12
      -- rows of cells
      dsimp only [gName]
      refine ⟨_, rfl, _, rfl, Ce, ces, _, .ref R, rfl, rfl, SqL.of (s7c _ _ eE7), (by rw [en]; exact atI_nat ece), R, rfl, ⟨_, SqL.of (s7c _ _ eR)⟩, for_list (K := K) (a := R) (xs := rvs) (fun i σ H' => ∃ (x15 x16 : Option V), σ = [some (.ref a), some (.ref dk), some v, some vd, some (.ref C0), some (.ref Ce), some (.int (0 + (n : Int))), x7, x8, x9, x10, x11, some (.ref F0), y13, some (.ref rb), x15, x16] ∧ Same H7 H')
        ⟨y15, y16, rfl, s7c⟩ (fun i σ H' _ ⟨_, _, _, s⟩ => SqL.of (s _ _ eR)) ?_ ?_⟩
      · rintro i y σ H13 hy ⟨x15, x16, rfl, s13⟩
        obtain ⟨l, evs, env, rfl, el, hev, hek, nl⟩ := hRs _ (List.mem_of_getElem? hy)
        obtain ⟨x, nn, hw, hxk, hgo, hback⟩ := core_go hK hdf hok hek
        have h1' := hcv.same s13
        obtain ⟨ca', g', gv', v1', v2', e', h1', h2', h3', h4'⟩ := core_at h1'
        cases e'
        have lenv := cellsK_len hek
        dsimp only [gName]
        refine ⟨_, rfl, _, rfl, C0, cvs, _, .ref ca, rfl, rfl, SqL.of (s13 _ _ eC7), (by rw [en]; exact atI_nat ecv), ca, _, _, _, rfl, rfl, h1', rfl, _, rfl, _, rfl, _, rfl, ?_⟩
        refine ⟨dk, l, v2', v, vd, kinds, defs, c.G, env, evs, c.t, c.k, rfl, ⟨kat.to (But1.of_same s13), hK, dat.to (TEx.of_same s13) (But1.of_same s13), hdf, hek, s13 _ _ el, CellsAt.same hev s13, by omega⟩, h4', hok.fit, hok.kd, fun ux x' H14 s14 hw' hux hxk' => ?_⟩
        rw [hw] at hw'
        cases hw'
        obtain ⟨ua, rfl⟩ := cellAt_ref hux
        have s7d := s13.trans s14
        dsimp only [gName]
        refine ⟨_, rfl, rfl, _, rfl, isF (fun z => by cases z) ?_⟩
        refine ⟨_, rfl, _, rfl, _, rfl, _, rfl, dk, l, .ref rb, v, vd, kinds, defs, rowsC c, env, env, evs, nn, x, rfl, RowsAt.to (TEx.of_same s7d) hrv, s7d _ _ el, CellsAt.same hev s7d, kat.to (But1.of_same s7d), hK, dat.to (TEx.of_same s7d) (But1.of_same s7d), hdf, hgo, hback, by omega, by omega, fun uy H15 s15 huy => ?_⟩
        have dx := cell_depth x
        have dk' := cellK_depth hK x c.k hxk
        have hk4 := hok.k4
        refine ⟨_, rfl, _, _, cell_dp x uy huy, cell_dp x _ (hux.to (TEx.of_same s15)), cell_can _, cell_can _, by omega, ?_⟩
        rw [cell_eqv, eqb_refl]
        exact ⟨_, rfl, iteF ⟨_, _, rfl, s7d.trans s15⟩⟩
      · rintro σ H13 ⟨x15, x16, rfl, s13⟩
        exact ⟨_, _, _, _, _, rfl, s13⟩
    · rintro σ H8 ⟨y6, y13, y14, y15, y16, rfl, s8⟩
      exact kk _
end
end K87

set_option Elab.async false
set_option linter.all false
set_option maxRecDepth 100000
set_option maxHeartbeats 4000000
namespace K87
open PySem PySem.Spec PyProof.Rows L2 Ru Rp Mch
theorem all_mk {l : PySem.W.OpenLaw} {w : World} {K : PySem.W.Frag} {h : Heap} {mg : Str → Option Value} {fa : Addr} (X : K.In h) (G : h.Ns mainGlobals mg) (hfa : mg "law" = some (.ref fa))
    {f_rows_of f__law_deck f__law_take f__law_many f__law_kinds f__law_pair f__law_cell f__law_weight f__law_picked f__law_defs f__law_does f__law_forms f__law_narrow f__law_spots f__law_any f__law_bound f__law_made f__law_call f__law_core f__law_count f__law_taken f__law_worth f__law_plain_rows f__law_machine f__law_anew f_law C_RowMaker f_RowMaker___init__ f_RowMaker_write f_RowMaker_aimed f_RowMaker_mark f_RowMaker_queue f_RowMaker_put f_RowMaker_put_if f_RowMaker_put_case f_RowMaker_tests : Addr}
    {od_rows_of an_rows_of od__law_deck an__law_deck od__law_take an__law_take od__law_many an__law_many od__law_kinds an__law_kinds od__law_pair an__law_pair od__law_cell an__law_cell od__law_weight an__law_weight od__law_picked an__law_picked od__law_defs an__law_defs od__law_does an__law_does od__law_forms an__law_forms od__law_narrow an__law_narrow od__law_spots an__law_spots od__law_any an__law_any od__law_bound an__law_bound od__law_made an__law_made od__law_call an__law_call od__law_core an__law_core od__law_count an__law_count od__law_taken an__law_taken od__law_worth an__law_worth od__law_plain_rows an__law_plain_rows od__law_machine an__law_machine od__law_anew an__law_anew od_law an_law od_RowMaker___init__ an_RowMaker___init__ od_RowMaker_write an_RowMaker_write od_RowMaker_aimed an_RowMaker_aimed od_RowMaker_mark an_RowMaker_mark od_RowMaker_queue an_RowMaker_queue od_RowMaker_put an_RowMaker_put od_RowMaker_put_if an_RowMaker_put_if od_RowMaker_put_case an_RowMaker_put_case od_RowMaker_tests an_RowMaker_tests : Option Addr}
    {sl_rows_of sl__law_deck sl__law_take sl__law_many sl__law_kinds sl__law_pair sl__law_cell sl__law_weight sl__law_picked sl__law_defs sl__law_does sl__law_forms sl__law_narrow sl__law_spots sl__law_any sl__law_bound sl__law_made sl__law_call sl__law_core sl__law_count sl__law_taken sl__law_worth sl__law_plain_rows sl__law_machine sl__law_anew sl_law sl_RowMaker___init__ sl_RowMaker_write sl_RowMaker_aimed sl_RowMaker_mark sl_RowMaker_queue sl_RowMaker_put sl_RowMaker_put_if sl_RowMaker_put_case sl_RowMaker_tests : Array (Option Value)}
    {oc_rows_of kV_rows_of dc_rows_of pm_rows_of cd_rows_of ct_rows_of oc__law_deck kV__law_deck dc__law_deck pm__law_deck cd__law_deck ct__law_deck oc__law_take kV__law_take dc__law_take pm__law_take cd__law_take ct__law_take oc__law_many kV__law_many dc__law_many pm__law_many cd__law_many ct__law_many oc__law_kinds kV__law_kinds dc__law_kinds pm__law_kinds cd__law_kinds ct__law_kinds oc__law_pair kV__law_pair dc__law_pair pm__law_pair cd__law_pair ct__law_pair oc__law_cell kV__law_cell dc__law_cell pm__law_cell cd__law_cell ct__law_cell oc__law_weight kV__law_weight dc__law_weight pm__law_weight cd__law_weight ct__law_weight oc__law_picked kV__law_picked dc__law_picked pm__law_picked cd__law_picked ct__law_picked oc__law_defs kV__law_defs dc__law_defs pm__law_defs cd__law_defs ct__law_defs oc__law_does kV__law_does dc__law_does pm__law_does cd__law_does ct__law_does oc__law_forms kV__law_forms dc__law_forms pm__law_forms cd__law_forms ct__law_forms oc__law_narrow kV__law_narrow dc__law_narrow pm__law_narrow cd__law_narrow ct__law_narrow oc__law_spots kV__law_spots dc__law_spots pm__law_spots cd__law_spots ct__law_spots oc__law_any kV__law_any dc__law_any pm__law_any cd__law_any ct__law_any oc__law_bound kV__law_bound dc__law_bound pm__law_bound cd__law_bound ct__law_bound oc__law_made kV__law_made dc__law_made pm__law_made cd__law_made ct__law_made oc__law_call kV__law_call dc__law_call pm__law_call cd__law_call ct__law_call oc__law_core kV__law_core dc__law_core pm__law_core cd__law_core ct__law_core oc__law_count kV__law_count dc__law_count pm__law_count cd__law_count ct__law_count oc__law_taken kV__law_taken dc__law_taken pm__law_taken cd__law_taken ct__law_taken oc__law_worth kV__law_worth dc__law_worth pm__law_worth cd__law_worth ct__law_worth oc__law_plain_rows kV__law_plain_rows dc__law_plain_rows pm__law_plain_rows cd__law_plain_rows ct__law_plain_rows oc__law_machine kV__law_machine dc__law_machine pm__law_machine cd__law_machine ct__law_machine oc__law_anew kV__law_anew dc__law_anew pm__law_anew cd__law_anew ct__law_anew oc_law kV_law dc_law pm_law cd_law ct_law oc_RowMaker___init__ kV_RowMaker___init__ dc_RowMaker___init__ pm_RowMaker___init__ cd_RowMaker___init__ ct_RowMaker___init__ oc_RowMaker_write kV_RowMaker_write dc_RowMaker_write pm_RowMaker_write cd_RowMaker_write ct_RowMaker_write oc_RowMaker_aimed kV_RowMaker_aimed dc_RowMaker_aimed pm_RowMaker_aimed cd_RowMaker_aimed ct_RowMaker_aimed oc_RowMaker_mark kV_RowMaker_mark dc_RowMaker_mark pm_RowMaker_mark cd_RowMaker_mark ct_RowMaker_mark oc_RowMaker_queue kV_RowMaker_queue dc_RowMaker_queue pm_RowMaker_queue cd_RowMaker_queue ct_RowMaker_queue oc_RowMaker_put kV_RowMaker_put dc_RowMaker_put pm_RowMaker_put cd_RowMaker_put ct_RowMaker_put oc_RowMaker_put_if kV_RowMaker_put_if dc_RowMaker_put_if pm_RowMaker_put_if cd_RowMaker_put_if ct_RowMaker_put_if oc_RowMaker_put_case kV_RowMaker_put_case dc_RowMaker_put_case pm_RowMaker_put_case cd_RowMaker_put_case ct_RowMaker_put_case oc_RowMaker_tests kV_RowMaker_tests dc_RowMaker_tests pm_RowMaker_tests cd_RowMaker_tests ct_RowMaker_tests : Value}
    (a_rows_of : PySem.W.nsIn K mainGlobals "rows_of" = some (some (.ref f_rows_of)))
    (l_rows_of : K.lookup f_rows_of = some ⟨oc_rows_of, od_rows_of, .func (PySem.W.fnOf "rows_of" "rows_of" (defArgs s_rows_of) (defBody s_rows_of) (defScope s_rows_of) .none kV_rows_of dc_rows_of pm_rows_of an_rows_of cd_rows_of ct_rows_of), sl_rows_of⟩)
    (c_rows_of : PySem.W.codeIn K cd_rows_of "rows_of" = true)
    (k_rows_of : PySem.W.keepIn K (.ref f_rows_of) = true)
    (a__law_deck : PySem.W.nsIn K mainGlobals "_law_deck" = some (some (.ref f__law_deck)))
    (l__law_deck : K.lookup f__law_deck = some ⟨oc__law_deck, od__law_deck, .func (PySem.W.fnOf "_law_deck" "_law_deck" (defArgs s__law_deck) (defBody s__law_deck) (defScope s__law_deck) .none kV__law_deck dc__law_deck pm__law_deck an__law_deck cd__law_deck ct__law_deck), sl__law_deck⟩)
    (c__law_deck : PySem.W.codeIn K cd__law_deck "_law_deck" = true)
    (k__law_deck : PySem.W.keepIn K (.ref f__law_deck) = true)
    (a__law_take : PySem.W.nsIn K mainGlobals "_law_take" = some (some (.ref f__law_take)))
    (l__law_take : K.lookup f__law_take = some ⟨oc__law_take, od__law_take, .func (PySem.W.fnOf "_law_take" "_law_take" (defArgs s__law_take) (defBody s__law_take) (defScope s__law_take) .none kV__law_take dc__law_take pm__law_take an__law_take cd__law_take ct__law_take), sl__law_take⟩)
    (c__law_take : PySem.W.codeIn K cd__law_take "_law_take" = true)
    (k__law_take : PySem.W.keepIn K (.ref f__law_take) = true)
    (a__law_many : PySem.W.nsIn K mainGlobals "_law_many" = some (some (.ref f__law_many)))
    (l__law_many : K.lookup f__law_many = some ⟨oc__law_many, od__law_many, .func (PySem.W.fnOf "_law_many" "_law_many" (defArgs s__law_many) (defBody s__law_many) (defScope s__law_many) .none kV__law_many dc__law_many pm__law_many an__law_many cd__law_many ct__law_many), sl__law_many⟩)
    (c__law_many : PySem.W.codeIn K cd__law_many "_law_many" = true)
    (k__law_many : PySem.W.keepIn K (.ref f__law_many) = true)
    (a__law_kinds : PySem.W.nsIn K mainGlobals "_law_kinds" = some (some (.ref f__law_kinds)))
    (l__law_kinds : K.lookup f__law_kinds = some ⟨oc__law_kinds, od__law_kinds, .func (PySem.W.fnOf "_law_kinds" "_law_kinds" (defArgs s__law_kinds) (defBody s__law_kinds) (defScope s__law_kinds) .none kV__law_kinds dc__law_kinds pm__law_kinds an__law_kinds cd__law_kinds ct__law_kinds), sl__law_kinds⟩)
    (c__law_kinds : PySem.W.codeIn K cd__law_kinds "_law_kinds" = true)
    (k__law_kinds : PySem.W.keepIn K (.ref f__law_kinds) = true)
    (a__law_pair : PySem.W.nsIn K mainGlobals "_law_pair" = some (some (.ref f__law_pair)))
    (l__law_pair : K.lookup f__law_pair = some ⟨oc__law_pair, od__law_pair, .func (PySem.W.fnOf "_law_pair" "_law_pair" (defArgs s__law_pair) (defBody s__law_pair) (defScope s__law_pair) .none kV__law_pair dc__law_pair pm__law_pair an__law_pair cd__law_pair ct__law_pair), sl__law_pair⟩)
    (c__law_pair : PySem.W.codeIn K cd__law_pair "_law_pair" = true)
    (k__law_pair : PySem.W.keepIn K (.ref f__law_pair) = true)
    (a__law_cell : PySem.W.nsIn K mainGlobals "_law_cell" = some (some (.ref f__law_cell)))
    (l__law_cell : K.lookup f__law_cell = some ⟨oc__law_cell, od__law_cell, .func (PySem.W.fnOf "_law_cell" "_law_cell" (defArgs s__law_cell) (defBody s__law_cell) (defScope s__law_cell) .none kV__law_cell dc__law_cell pm__law_cell an__law_cell cd__law_cell ct__law_cell), sl__law_cell⟩)
    (c__law_cell : PySem.W.codeIn K cd__law_cell "_law_cell" = true)
    (k__law_cell : PySem.W.keepIn K (.ref f__law_cell) = true)
    (a__law_weight : PySem.W.nsIn K mainGlobals "_law_weight" = some (some (.ref f__law_weight)))
    (l__law_weight : K.lookup f__law_weight = some ⟨oc__law_weight, od__law_weight, .func (PySem.W.fnOf "_law_weight" "_law_weight" (defArgs s__law_weight) (defBody s__law_weight) (defScope s__law_weight) .none kV__law_weight dc__law_weight pm__law_weight an__law_weight cd__law_weight ct__law_weight), sl__law_weight⟩)
    (c__law_weight : PySem.W.codeIn K cd__law_weight "_law_weight" = true)
    (k__law_weight : PySem.W.keepIn K (.ref f__law_weight) = true)
    (a__law_picked : PySem.W.nsIn K mainGlobals "_law_picked" = some (some (.ref f__law_picked)))
    (l__law_picked : K.lookup f__law_picked = some ⟨oc__law_picked, od__law_picked, .func (PySem.W.fnOf "_law_picked" "_law_picked" (defArgs s__law_picked) (defBody s__law_picked) (defScope s__law_picked) .none kV__law_picked dc__law_picked pm__law_picked an__law_picked cd__law_picked ct__law_picked), sl__law_picked⟩)
    (c__law_picked : PySem.W.codeIn K cd__law_picked "_law_picked" = true)
    (k__law_picked : PySem.W.keepIn K (.ref f__law_picked) = true)
    (a__law_defs : PySem.W.nsIn K mainGlobals "_law_defs" = some (some (.ref f__law_defs)))
    (l__law_defs : K.lookup f__law_defs = some ⟨oc__law_defs, od__law_defs, .func (PySem.W.fnOf "_law_defs" "_law_defs" (defArgs s__law_defs) (defBody s__law_defs) (defScope s__law_defs) .none kV__law_defs dc__law_defs pm__law_defs an__law_defs cd__law_defs ct__law_defs), sl__law_defs⟩)
    (c__law_defs : PySem.W.codeIn K cd__law_defs "_law_defs" = true)
    (k__law_defs : PySem.W.keepIn K (.ref f__law_defs) = true)
    (a__law_does : PySem.W.nsIn K mainGlobals "_law_does" = some (some (.ref f__law_does)))
    (l__law_does : K.lookup f__law_does = some ⟨oc__law_does, od__law_does, .func (PySem.W.fnOf "_law_does" "_law_does" (defArgs s__law_does) (defBody s__law_does) (defScope s__law_does) .none kV__law_does dc__law_does pm__law_does an__law_does cd__law_does ct__law_does), sl__law_does⟩)
    (c__law_does : PySem.W.codeIn K cd__law_does "_law_does" = true)
    (k__law_does : PySem.W.keepIn K (.ref f__law_does) = true)
    (a__law_forms : PySem.W.nsIn K mainGlobals "_law_forms" = some (some (.ref f__law_forms)))
    (l__law_forms : K.lookup f__law_forms = some ⟨oc__law_forms, od__law_forms, .func (PySem.W.fnOf "_law_forms" "_law_forms" (defArgs s__law_forms) (defBody s__law_forms) (defScope s__law_forms) .none kV__law_forms dc__law_forms pm__law_forms an__law_forms cd__law_forms ct__law_forms), sl__law_forms⟩)
    (c__law_forms : PySem.W.codeIn K cd__law_forms "_law_forms" = true)
    (k__law_forms : PySem.W.keepIn K (.ref f__law_forms) = true)
    (a__law_narrow : PySem.W.nsIn K mainGlobals "_law_narrow" = some (some (.ref f__law_narrow)))
    (l__law_narrow : K.lookup f__law_narrow = some ⟨oc__law_narrow, od__law_narrow, .func (PySem.W.fnOf "_law_narrow" "_law_narrow" (defArgs s__law_narrow) (defBody s__law_narrow) (defScope s__law_narrow) .none kV__law_narrow dc__law_narrow pm__law_narrow an__law_narrow cd__law_narrow ct__law_narrow), sl__law_narrow⟩)
    (c__law_narrow : PySem.W.codeIn K cd__law_narrow "_law_narrow" = true)
    (k__law_narrow : PySem.W.keepIn K (.ref f__law_narrow) = true)
    (a__law_spots : PySem.W.nsIn K mainGlobals "_law_spots" = some (some (.ref f__law_spots)))
    (l__law_spots : K.lookup f__law_spots = some ⟨oc__law_spots, od__law_spots, .func (PySem.W.fnOf "_law_spots" "_law_spots" (defArgs s__law_spots) (defBody s__law_spots) (defScope s__law_spots) .none kV__law_spots dc__law_spots pm__law_spots an__law_spots cd__law_spots ct__law_spots), sl__law_spots⟩)
    (c__law_spots : PySem.W.codeIn K cd__law_spots "_law_spots" = true)
    (k__law_spots : PySem.W.keepIn K (.ref f__law_spots) = true)
    (a__law_any : PySem.W.nsIn K mainGlobals "_law_any" = some (some (.ref f__law_any)))
    (l__law_any : K.lookup f__law_any = some ⟨oc__law_any, od__law_any, .func (PySem.W.fnOf "_law_any" "_law_any" (defArgs s__law_any) (defBody s__law_any) (defScope s__law_any) .none kV__law_any dc__law_any pm__law_any an__law_any cd__law_any ct__law_any), sl__law_any⟩)
    (c__law_any : PySem.W.codeIn K cd__law_any "_law_any" = true)
    (k__law_any : PySem.W.keepIn K (.ref f__law_any) = true)
    (a__law_bound : PySem.W.nsIn K mainGlobals "_law_bound" = some (some (.ref f__law_bound)))
    (l__law_bound : K.lookup f__law_bound = some ⟨oc__law_bound, od__law_bound, .func (PySem.W.fnOf "_law_bound" "_law_bound" (defArgs s__law_bound) (defBody s__law_bound) (defScope s__law_bound) .none kV__law_bound dc__law_bound pm__law_bound an__law_bound cd__law_bound ct__law_bound), sl__law_bound⟩)
    (c__law_bound : PySem.W.codeIn K cd__law_bound "_law_bound" = true)
    (k__law_bound : PySem.W.keepIn K (.ref f__law_bound) = true)
    (a__law_made : PySem.W.nsIn K mainGlobals "_law_made" = some (some (.ref f__law_made)))
    (l__law_made : K.lookup f__law_made = some ⟨oc__law_made, od__law_made, .func (PySem.W.fnOf "_law_made" "_law_made" (defArgs s__law_made) (defBody s__law_made) (defScope s__law_made) .none kV__law_made dc__law_made pm__law_made an__law_made cd__law_made ct__law_made), sl__law_made⟩)
    (c__law_made : PySem.W.codeIn K cd__law_made "_law_made" = true)
    (k__law_made : PySem.W.keepIn K (.ref f__law_made) = true)
    (a__law_call : PySem.W.nsIn K mainGlobals "_law_call" = some (some (.ref f__law_call)))
    (l__law_call : K.lookup f__law_call = some ⟨oc__law_call, od__law_call, .func (PySem.W.fnOf "_law_call" "_law_call" (defArgs s__law_call) (defBody s__law_call) (defScope s__law_call) .none kV__law_call dc__law_call pm__law_call an__law_call cd__law_call ct__law_call), sl__law_call⟩)
    (c__law_call : PySem.W.codeIn K cd__law_call "_law_call" = true)
    (k__law_call : PySem.W.keepIn K (.ref f__law_call) = true)
    (a__law_core : PySem.W.nsIn K mainGlobals "_law_core" = some (some (.ref f__law_core)))
    (l__law_core : K.lookup f__law_core = some ⟨oc__law_core, od__law_core, .func (PySem.W.fnOf "_law_core" "_law_core" (defArgs s__law_core) (defBody s__law_core) (defScope s__law_core) .none kV__law_core dc__law_core pm__law_core an__law_core cd__law_core ct__law_core), sl__law_core⟩)
    (c__law_core : PySem.W.codeIn K cd__law_core "_law_core" = true)
    (k__law_core : PySem.W.keepIn K (.ref f__law_core) = true)
    (a__law_count : PySem.W.nsIn K mainGlobals "_law_count" = some (some (.ref f__law_count)))
    (l__law_count : K.lookup f__law_count = some ⟨oc__law_count, od__law_count, .func (PySem.W.fnOf "_law_count" "_law_count" (defArgs s__law_count) (defBody s__law_count) (defScope s__law_count) .none kV__law_count dc__law_count pm__law_count an__law_count cd__law_count ct__law_count), sl__law_count⟩)
    (c__law_count : PySem.W.codeIn K cd__law_count "_law_count" = true)
    (k__law_count : PySem.W.keepIn K (.ref f__law_count) = true)
    (a__law_taken : PySem.W.nsIn K mainGlobals "_law_taken" = some (some (.ref f__law_taken)))
    (l__law_taken : K.lookup f__law_taken = some ⟨oc__law_taken, od__law_taken, .func (PySem.W.fnOf "_law_taken" "_law_taken" (defArgs s__law_taken) (defBody s__law_taken) (defScope s__law_taken) .none kV__law_taken dc__law_taken pm__law_taken an__law_taken cd__law_taken ct__law_taken), sl__law_taken⟩)
    (c__law_taken : PySem.W.codeIn K cd__law_taken "_law_taken" = true)
    (k__law_taken : PySem.W.keepIn K (.ref f__law_taken) = true)
    (a__law_worth : PySem.W.nsIn K mainGlobals "_law_worth" = some (some (.ref f__law_worth)))
    (l__law_worth : K.lookup f__law_worth = some ⟨oc__law_worth, od__law_worth, .func (PySem.W.fnOf "_law_worth" "_law_worth" (defArgs s__law_worth) (defBody s__law_worth) (defScope s__law_worth) .none kV__law_worth dc__law_worth pm__law_worth an__law_worth cd__law_worth ct__law_worth), sl__law_worth⟩)
    (c__law_worth : PySem.W.codeIn K cd__law_worth "_law_worth" = true)
    (k__law_worth : PySem.W.keepIn K (.ref f__law_worth) = true)
    (a__law_plain_rows : PySem.W.nsIn K mainGlobals "_law_plain_rows" = some (some (.ref f__law_plain_rows)))
    (l__law_plain_rows : K.lookup f__law_plain_rows = some ⟨oc__law_plain_rows, od__law_plain_rows, .func (PySem.W.fnOf "_law_plain_rows" "_law_plain_rows" (defArgs s__law_plain_rows) (defBody s__law_plain_rows) (defScope s__law_plain_rows) .none kV__law_plain_rows dc__law_plain_rows pm__law_plain_rows an__law_plain_rows cd__law_plain_rows ct__law_plain_rows), sl__law_plain_rows⟩)
    (c__law_plain_rows : PySem.W.codeIn K cd__law_plain_rows "_law_plain_rows" = true)
    (k__law_plain_rows : PySem.W.keepIn K (.ref f__law_plain_rows) = true)
    (a__law_machine : PySem.W.nsIn K mainGlobals "_law_machine" = some (some (.ref f__law_machine)))
    (l__law_machine : K.lookup f__law_machine = some ⟨oc__law_machine, od__law_machine, .func (PySem.W.fnOf "_law_machine" "_law_machine" (defArgs s__law_machine) (defBody s__law_machine) (defScope s__law_machine) .none kV__law_machine dc__law_machine pm__law_machine an__law_machine cd__law_machine ct__law_machine), sl__law_machine⟩)
    (c__law_machine : PySem.W.codeIn K cd__law_machine "_law_machine" = true)
    (k__law_machine : PySem.W.keepIn K (.ref f__law_machine) = true)
    (a__law_anew : PySem.W.nsIn K mainGlobals "_law_anew" = some (some (.ref f__law_anew)))
    (l__law_anew : K.lookup f__law_anew = some ⟨oc__law_anew, od__law_anew, .func (PySem.W.fnOf "_law_anew" "_law_anew" (defArgs s__law_anew) (defBody s__law_anew) (defScope s__law_anew) .none kV__law_anew dc__law_anew pm__law_anew an__law_anew cd__law_anew ct__law_anew), sl__law_anew⟩)
    (c__law_anew : PySem.W.codeIn K cd__law_anew "_law_anew" = true)
    (k__law_anew : PySem.W.keepIn K (.ref f__law_anew) = true)
    (a_law : PySem.W.nsIn K mainGlobals "law" = some (some (.ref f_law)))
    (l_law : K.lookup f_law = some ⟨oc_law, od_law, .func (PySem.W.fnOf "law" "law" (defArgs s_law) (defBody s_law) (defScope s_law) .none kV_law dc_law pm_law an_law cd_law ct_law), sl_law⟩)
    (c_law : PySem.W.codeIn K cd_law "law" = true)
    (k_law : PySem.W.keepIn K (.ref f_law) = true)
    (a_RowMaker : PySem.W.nsIn K mainGlobals "RowMaker" = some (some (.ref C_RowMaker)))
    (pg_RowMaker : PySem.W.plainGet K C_RowMaker Str.empty = true)
    (hd_RowMaker : PySem.W.hasDictIn K C_RowMaker = true)
    (po_RowMaker : PySem.W.plainOver K C_RowMaker = true)
    (sa_RowMaker : PySem.W.findIn K (.ref C_RowMaker) "__setattr__" = some (some (.builtin "object.__setattr__")))
    (mk_RowMaker : PySem.W.makesIn K C_RowMaker = true)
    (kc_RowMaker : PySem.W.keepIn K (.ref C_RowMaker) = true)
    (na_RowMaker_rows : PySem.W.findIn K (.ref C_RowMaker) "rows" = some none)
    (na_RowMaker_places : PySem.W.findIn K (.ref C_RowMaker) "places" = some none)
    (na_RowMaker_seats : PySem.W.findIn K (.ref C_RowMaker) "seats" = some none)
    (na_RowMaker_held : PySem.W.findIn K (.ref C_RowMaker) "held" = some none)
    (na_RowMaker_due : PySem.W.findIn K (.ref C_RowMaker) "due" = some none)
    (a_RowMaker___init__ : PySem.W.findIn K (.ref C_RowMaker) "__init__" = some (some (.ref f_RowMaker___init__)))
    (fn_RowMaker___init__ : PySem.W.isFn K (.ref f_RowMaker___init__) = true)
    (l_RowMaker___init__ : K.lookup f_RowMaker___init__ = some ⟨oc_RowMaker___init__, od_RowMaker___init__, .func (PySem.W.fnOf "__init__" "RowMaker.__init__" (defArgs s_RowMaker___init__) (defBody s_RowMaker___init__) (defScope s_RowMaker___init__) .none kV_RowMaker___init__ dc_RowMaker___init__ pm_RowMaker___init__ an_RowMaker___init__ cd_RowMaker___init__ ct_RowMaker___init__), sl_RowMaker___init__⟩)
    (c_RowMaker___init__ : PySem.W.codeIn K cd_RowMaker___init__ "RowMaker.__init__" = true)
    (k_RowMaker___init__ : PySem.W.keepIn K (.ref f_RowMaker___init__) = true)
    (a_RowMaker_write : PySem.W.findIn K (.ref C_RowMaker) "write" = some (some (.ref f_RowMaker_write)))
    (fn_RowMaker_write : PySem.W.isFn K (.ref f_RowMaker_write) = true)
    (l_RowMaker_write : K.lookup f_RowMaker_write = some ⟨oc_RowMaker_write, od_RowMaker_write, .func (PySem.W.fnOf "write" "RowMaker.write" (defArgs s_RowMaker_write) (defBody s_RowMaker_write) (defScope s_RowMaker_write) .none kV_RowMaker_write dc_RowMaker_write pm_RowMaker_write an_RowMaker_write cd_RowMaker_write ct_RowMaker_write), sl_RowMaker_write⟩)
    (c_RowMaker_write : PySem.W.codeIn K cd_RowMaker_write "RowMaker.write" = true)
    (k_RowMaker_write : PySem.W.keepIn K (.ref f_RowMaker_write) = true)
    (a_RowMaker_aimed : PySem.W.findIn K (.ref C_RowMaker) "aimed" = some (some (.ref f_RowMaker_aimed)))
    (fn_RowMaker_aimed : PySem.W.isFn K (.ref f_RowMaker_aimed) = true)
    (l_RowMaker_aimed : K.lookup f_RowMaker_aimed = some ⟨oc_RowMaker_aimed, od_RowMaker_aimed, .func (PySem.W.fnOf "aimed" "RowMaker.aimed" (defArgs s_RowMaker_aimed) (defBody s_RowMaker_aimed) (defScope s_RowMaker_aimed) .none kV_RowMaker_aimed dc_RowMaker_aimed pm_RowMaker_aimed an_RowMaker_aimed cd_RowMaker_aimed ct_RowMaker_aimed), sl_RowMaker_aimed⟩)
    (c_RowMaker_aimed : PySem.W.codeIn K cd_RowMaker_aimed "RowMaker.aimed" = true)
    (k_RowMaker_aimed : PySem.W.keepIn K (.ref f_RowMaker_aimed) = true)
    (a_RowMaker_mark : PySem.W.findIn K (.ref C_RowMaker) "mark" = some (some (.ref f_RowMaker_mark)))
    (fn_RowMaker_mark : PySem.W.isFn K (.ref f_RowMaker_mark) = true)
    (l_RowMaker_mark : K.lookup f_RowMaker_mark = some ⟨oc_RowMaker_mark, od_RowMaker_mark, .func (PySem.W.fnOf "mark" "RowMaker.mark" (defArgs s_RowMaker_mark) (defBody s_RowMaker_mark) (defScope s_RowMaker_mark) .none kV_RowMaker_mark dc_RowMaker_mark pm_RowMaker_mark an_RowMaker_mark cd_RowMaker_mark ct_RowMaker_mark), sl_RowMaker_mark⟩)
    (c_RowMaker_mark : PySem.W.codeIn K cd_RowMaker_mark "RowMaker.mark" = true)
    (k_RowMaker_mark : PySem.W.keepIn K (.ref f_RowMaker_mark) = true)
    (a_RowMaker_queue : PySem.W.findIn K (.ref C_RowMaker) "queue" = some (some (.ref f_RowMaker_queue)))
    (fn_RowMaker_queue : PySem.W.isFn K (.ref f_RowMaker_queue) = true)
    (l_RowMaker_queue : K.lookup f_RowMaker_queue = some ⟨oc_RowMaker_queue, od_RowMaker_queue, .func (PySem.W.fnOf "queue" "RowMaker.queue" (defArgs s_RowMaker_queue) (defBody s_RowMaker_queue) (defScope s_RowMaker_queue) .none kV_RowMaker_queue dc_RowMaker_queue pm_RowMaker_queue an_RowMaker_queue cd_RowMaker_queue ct_RowMaker_queue), sl_RowMaker_queue⟩)
    (c_RowMaker_queue : PySem.W.codeIn K cd_RowMaker_queue "RowMaker.queue" = true)
    (k_RowMaker_queue : PySem.W.keepIn K (.ref f_RowMaker_queue) = true)
    (a_RowMaker_put : PySem.W.findIn K (.ref C_RowMaker) "put" = some (some (.ref f_RowMaker_put)))
    (fn_RowMaker_put : PySem.W.isFn K (.ref f_RowMaker_put) = true)
    (l_RowMaker_put : K.lookup f_RowMaker_put = some ⟨oc_RowMaker_put, od_RowMaker_put, .func (PySem.W.fnOf "put" "RowMaker.put" (defArgs s_RowMaker_put) (defBody s_RowMaker_put) (defScope s_RowMaker_put) .none kV_RowMaker_put dc_RowMaker_put pm_RowMaker_put an_RowMaker_put cd_RowMaker_put ct_RowMaker_put), sl_RowMaker_put⟩)
    (c_RowMaker_put : PySem.W.codeIn K cd_RowMaker_put "RowMaker.put" = true)
    (k_RowMaker_put : PySem.W.keepIn K (.ref f_RowMaker_put) = true)
    (a_RowMaker_put_if : PySem.W.findIn K (.ref C_RowMaker) "put_if" = some (some (.ref f_RowMaker_put_if)))
    (fn_RowMaker_put_if : PySem.W.isFn K (.ref f_RowMaker_put_if) = true)
    (l_RowMaker_put_if : K.lookup f_RowMaker_put_if = some ⟨oc_RowMaker_put_if, od_RowMaker_put_if, .func (PySem.W.fnOf "put_if" "RowMaker.put_if" (defArgs s_RowMaker_put_if) (defBody s_RowMaker_put_if) (defScope s_RowMaker_put_if) .none kV_RowMaker_put_if dc_RowMaker_put_if pm_RowMaker_put_if an_RowMaker_put_if cd_RowMaker_put_if ct_RowMaker_put_if), sl_RowMaker_put_if⟩)
    (c_RowMaker_put_if : PySem.W.codeIn K cd_RowMaker_put_if "RowMaker.put_if" = true)
    (k_RowMaker_put_if : PySem.W.keepIn K (.ref f_RowMaker_put_if) = true)
    (a_RowMaker_put_case : PySem.W.findIn K (.ref C_RowMaker) "put_case" = some (some (.ref f_RowMaker_put_case)))
    (fn_RowMaker_put_case : PySem.W.isFn K (.ref f_RowMaker_put_case) = true)
    (l_RowMaker_put_case : K.lookup f_RowMaker_put_case = some ⟨oc_RowMaker_put_case, od_RowMaker_put_case, .func (PySem.W.fnOf "put_case" "RowMaker.put_case" (defArgs s_RowMaker_put_case) (defBody s_RowMaker_put_case) (defScope s_RowMaker_put_case) .none kV_RowMaker_put_case dc_RowMaker_put_case pm_RowMaker_put_case an_RowMaker_put_case cd_RowMaker_put_case ct_RowMaker_put_case), sl_RowMaker_put_case⟩)
    (c_RowMaker_put_case : PySem.W.codeIn K cd_RowMaker_put_case "RowMaker.put_case" = true)
    (k_RowMaker_put_case : PySem.W.keepIn K (.ref f_RowMaker_put_case) = true)
    (a_RowMaker_tests : PySem.W.findIn K (.ref C_RowMaker) "tests" = some (some (.ref f_RowMaker_tests)))
    (fn_RowMaker_tests : PySem.W.isFn K (.ref f_RowMaker_tests) = true)
    (l_RowMaker_tests : K.lookup f_RowMaker_tests = some ⟨oc_RowMaker_tests, od_RowMaker_tests, .func (PySem.W.fnOf "tests" "RowMaker.tests" (defArgs s_RowMaker_tests) (defBody s_RowMaker_tests) (defScope s_RowMaker_tests) .none kV_RowMaker_tests dc_RowMaker_tests pm_RowMaker_tests an_RowMaker_tests cd_RowMaker_tests ct_RowMaker_tests), sl_RowMaker_tests⟩)
    (c_RowMaker_tests : PySem.W.codeIn K cd_RowMaker_tests "RowMaker.tests" = true)
    (k_RowMaker_tests : PySem.W.keepIn K (.ref f_RowMaker_tests) = true)
    (z_len : PySem.W.nsIn K mainGlobals "len" = some none)
    (z_int : PySem.W.nsIn K mainGlobals "int" = some none)
    (z_tuple : PySem.W.nsIn K mainGlobals "tuple" = some none)
    (z_list : PySem.W.nsIn K mainGlobals "list" = some none)
    (z_sum : PySem.W.nsIn K mainGlobals "sum" = some none)
    (z_max : PySem.W.nsIn K mainGlobals "max" = some none)
    (z_range : PySem.W.nsIn K mainGlobals "range" = some none)
    (z_enumerate : PySem.W.nsIn K mainGlobals "enumerate" = some none)
    (z_isinstance : PySem.W.nsIn K mainGlobals "isinstance" = some none)
    (z_bool : PySem.W.nsIn K mainGlobals "bool" = some none)
    (z_str : PySem.W.nsIn K mainGlobals "str" = some none)
    : ∃ fd : FuncData, (∀ (s : Shared) (v : Value), BindsTo s fd ⟨[v], []⟩ [("script", v)]) ∧ ∀ base : Heap, K.In base → base.Ns mainGlobals mg → FnOk l.prog w K mg base CX0 80 fa fd ["script"] (spLaw K) := by
  have e := hfa.symm.trans (PySem.W.mg_of X G a_law)
  cases e
  have F_RowMaker___init__ := fun_mk (st := s_RowMaker___init__) l_RowMaker___init__ c_RowMaker___init__ k_RowMaker___init__
  have b_RowMaker___init__ := F_RowMaker___init__.binds (ps := ["self", "many"]) fun _ _ _ _ _ _ us hl => match us, hl with | [_, _], _ => rfl
  have F_RowMaker_write := fun_mk (st := s_RowMaker_write) l_RowMaker_write c_RowMaker_write k_RowMaker_write
  have b_RowMaker_write := F_RowMaker_write.binds (ps := ["self", "told"]) fun _ _ _ _ _ _ us hl => match us, hl with | [_, _], _ => rfl
  have F_RowMaker_aimed := fun_mk (st := s_RowMaker_aimed) l_RowMaker_aimed c_RowMaker_aimed k_RowMaker_aimed
  have b_RowMaker_aimed := F_RowMaker_aimed.binds (ps := ["self", "row"]) fun _ _ _ _ _ _ us hl => match us, hl with | [_, _], _ => rfl
  have F_RowMaker_mark := fun_mk (st := s_RowMaker_mark) l_RowMaker_mark c_RowMaker_mark k_RowMaker_mark
  have b_RowMaker_mark := F_RowMaker_mark.binds (ps := ["self"]) fun _ _ _ _ _ _ us hl => match us, hl with | [_], _ => rfl
  have F_RowMaker_queue := fun_mk (st := s_RowMaker_queue) l_RowMaker_queue c_RowMaker_queue k_RowMaker_queue
  have b_RowMaker_queue := F_RowMaker_queue.binds (ps := ["self", "pieces"]) fun _ _ _ _ _ _ us hl => match us, hl with | [_, _], _ => rfl
  have F_RowMaker_put := fun_mk (st := s_RowMaker_put) l_RowMaker_put c_RowMaker_put k_RowMaker_put
  have b_RowMaker_put := F_RowMaker_put.binds (ps := ["self", "told"]) fun _ _ _ _ _ _ us hl => match us, hl with | [_, _], _ => rfl
  have F_RowMaker_put_if := fun_mk (st := s_RowMaker_put_if) l_RowMaker_put_if c_RowMaker_put_if k_RowMaker_put_if
  have b_RowMaker_put_if := F_RowMaker_put_if.binds (ps := ["self", "told"]) fun _ _ _ _ _ _ us hl => match us, hl with | [_, _], _ => rfl
  have F_RowMaker_put_case := fun_mk (st := s_RowMaker_put_case) l_RowMaker_put_case c_RowMaker_put_case k_RowMaker_put_case
  have b_RowMaker_put_case := F_RowMaker_put_case.binds (ps := ["self", "told"]) fun _ _ _ _ _ _ us hl => match us, hl with | [_, _], _ => rfl
  have F_RowMaker_tests := fun_mk (st := s_RowMaker_tests) l_RowMaker_tests c_RowMaker_tests k_RowMaker_tests
  have b_RowMaker_tests := F_RowMaker_tests.binds (ps := ["self", "form", "root"]) fun _ _ _ _ _ _ us hl => match us, hl with | [_, _, _], _ => rfl
  have F_rows_of := fun_mk (st := s_rows_of) l_rows_of c_rows_of k_rows_of
  have b_rows_of := F_rows_of.binds (ps := ["core"]) fun _ _ _ _ _ _ us hl => match us, hl with | [_], _ => rfl
  have F__law_deck := fun_mk (st := s__law_deck) l__law_deck c__law_deck k__law_deck
  have b__law_deck := F__law_deck.binds (ps := ["script", "many"]) fun _ _ _ _ _ _ us hl => match us, hl with | [_, _], _ => rfl
  have F__law_take := fun_mk (st := s__law_take) l__law_take c__law_take k__law_take
  have b__law_take := F__law_take.binds (ps := ["deck", "many"]) fun _ _ _ _ _ _ us hl => match us, hl with | [_, _], _ => rfl
  have F__law_many := fun_mk (st := s__law_many) l__law_many c__law_many k__law_many
  have b__law_many := F__law_many.binds (ps := ["kinds", "kind"]) fun _ _ _ _ _ _ us hl => match us, hl with | [_, _], _ => rfl
  have F__law_kinds := fun_mk (st := s__law_kinds) l__law_kinds c__law_kinds k__law_kinds
  have b__law_kinds := F__law_kinds.binds (ps := ["deck"]) fun _ _ _ _ _ _ us hl => match us, hl with | [_], _ => rfl
  have F__law_pair := fun_mk (st := s__law_pair) l__law_pair c__law_pair k__law_pair
  have b__law_pair := F__law_pair.binds (ps := ["kind"]) fun _ _ _ _ _ _ us hl => match us, hl with | [_], _ => rfl
  have F__law_cell := fun_mk (st := s__law_cell) l__law_cell c__law_cell k__law_cell
  have b__law_cell := F__law_cell.binds (ps := ["deck", "kinds", "kind"]) fun _ _ _ _ _ _ us hl => match us, hl with | [_, _, _], _ => rfl
  have F__law_weight := fun_mk (st := s__law_weight) l__law_weight c__law_weight k__law_weight
  have b__law_weight := F__law_weight.binds (ps := ["cell"]) fun _ _ _ _ _ _ us hl => match us, hl with | [_], _ => rfl
  have F__law_picked := fun_mk (st := s__law_picked) l__law_picked c__law_picked k__law_picked
  have b__law_picked := F__law_picked.binds (ps := ["kinds", "kind", "n"]) fun _ _ _ _ _ _ us hl => match us, hl with | [_, _, _], _ => rfl
  have F__law_defs := fun_mk (st := s__law_defs) l__law_defs c__law_defs k__law_defs
  have b__law_defs := F__law_defs.binds (ps := ["deck"]) fun _ _ _ _ _ _ us hl => match us, hl with | [_], _ => rfl
  have F__law_does := fun_mk (st := s__law_does) l__law_does c__law_does k__law_does
  have b__law_does := F__law_does.binds (ps := ["kinds", "defs", "module", "name", "cells"]) fun _ _ _ _ _ _ us hl => match us, hl with | [_, _, _, _, _], _ => rfl
  have F__law_forms := fun_mk (st := s__law_forms) l__law_forms c__law_forms k__law_forms
  have b__law_forms := F__law_forms.binds (ps := ["deck", "kinds", "kind"]) fun _ _ _ _ _ _ us hl => match us, hl with | [_, _, _], _ => rfl
  have F__law_narrow := fun_mk (st := s__law_narrow) l__law_narrow c__law_narrow k__law_narrow
  have b__law_narrow := F__law_narrow.binds (ps := ["deck", "kinds", "kind", "left"]) fun _ _ _ _ _ _ us hl => match us, hl with | [_, _, _, _], _ => rfl
  have F__law_spots := fun_mk (st := s__law_spots) l__law_spots c__law_spots k__law_spots
  have b__law_spots := F__law_spots.binds (ps := ["kinds", "kind", "form", "own"]) fun _ _ _ _ _ _ us hl => match us, hl with | [_, _, _, _], _ => rfl
  have F__law_any := fun_mk (st := s__law_any) l__law_any c__law_any k__law_any
  have b__law_any := F__law_any.binds (ps := ["deck"]) fun _ _ _ _ _ _ us hl => match us, hl with | [_], _ => rfl
  have F__law_bound := fun_mk (st := s__law_bound) l__law_bound c__law_bound k__law_bound
  have b__law_bound := F__law_bound.binds (ps := ["kinds", "kind", "form"]) fun _ _ _ _ _ _ us hl => match us, hl with | [_, _, _], _ => rfl
  have F__law_made := fun_mk (st := s__law_made) l__law_made c__law_made k__law_made
  have b__law_made := F__law_made.binds (ps := ["deck", "kinds", "kind", "env", "left"]) fun _ _ _ _ _ _ us hl => match us, hl with | [_, _, _, _, _], _ => rfl
  have F__law_call := fun_mk (st := s__law_call) l__law_call c__law_call k__law_call
  have b__law_call := F__law_call.binds (ps := ["deck", "kinds", "kind", "env", "left"]) fun _ _ _ _ _ _ us hl => match us, hl with | [_, _, _, _, _], _ => rfl
  have F__law_core := fun_mk (st := s__law_core) l__law_core c__law_core k__law_core
  have b__law_core := F__law_core.binds (ps := ["deck", "kinds", "kind", "env", "left"]) fun _ _ _ _ _ _ us hl => match us, hl with | [_, _, _, _, _], _ => rfl
  have F__law_count := fun_mk (st := s__law_count) l__law_count c__law_count k__law_count
  have b__law_count := F__law_count.binds (ps := ["told"]) fun _ _ _ _ _ _ us hl => match us, hl with | [_], _ => rfl
  have F__law_taken := fun_mk (st := s__law_taken) l__law_taken c__law_taken k__law_taken
  have b__law_taken := F__law_taken.binds (ps := ["form", "cell", "found"]) fun _ _ _ _ _ _ us hl => match us, hl with | [_, _, _], _ => rfl
  have F__law_worth := fun_mk (st := s__law_worth) l__law_worth c__law_worth k__law_worth
  have b__law_worth := F__law_worth.binds (ps := ["told", "env", "kinds", "defs"]) fun _ _ _ _ _ _ us hl => match us, hl with | [_, _, _, _], _ => rfl
  have F__law_plain_rows := fun_mk (st := s__law_plain_rows) l__law_plain_rows c__law_plain_rows k__law_plain_rows
  have b__law_plain_rows := F__law_plain_rows.binds (ps := ["rows"]) fun _ _ _ _ _ _ us hl => match us, hl with | [_], _ => rfl
  have F__law_machine := fun_mk (st := s__law_machine) l__law_machine c__law_machine k__law_machine
  have b__law_machine := F__law_machine.binds (ps := ["rows", "cells", "kinds", "defs"]) fun _ _ _ _ _ _ us hl => match us, hl with | [_, _, _, _], _ => rfl
  have F__law_anew := fun_mk (st := s__law_anew) l__law_anew c__law_anew k__law_anew
  have b__law_anew := F__law_anew.binds (ps := ["told"]) fun _ _ _ _ _ _ us hl => match us, hl with | [_], _ => rfl
  have F_law := fun_mk (st := s_law) l_law c_law k_law
  have b_law := F_law.binds (ps := ["script"]) fun _ _ _ _ _ _ us hl => match us, hl with | [_], _ => rfl
  let T : Txt K mg := {
    C_RowMaker := C_RowMaker
    cl_RowMaker := ⟨pg_RowMaker, hd_RowMaker, po_RowMaker, sa_RowMaker⟩
    g_RowMaker := PySem.W.mg_of X G a_RowMaker
    n_RowMaker_rows := na_RowMaker_rows
    n_RowMaker_places := na_RowMaker_places
    n_RowMaker_seats := na_RowMaker_seats
    n_RowMaker_held := na_RowMaker_held
    n_RowMaker_due := na_RowMaker_due
    f_RowMaker___init__ := f_RowMaker___init__
    fd_RowMaker___init__ := _
    F_RowMaker___init__ := F_RowMaker___init__
    b_RowMaker___init__ := b_RowMaker___init__
    mk_RowMaker := ⟨mk_RowMaker, a_RowMaker___init__, fn_RowMaker___init__, kc_RowMaker⟩
    f_RowMaker_write := f_RowMaker_write
    fd_RowMaker_write := _
    F_RowMaker_write := F_RowMaker_write
    b_RowMaker_write := b_RowMaker_write
    m_RowMaker_write := ⟨a_RowMaker_write, fn_RowMaker_write, k_RowMaker_write⟩
    f_RowMaker_aimed := f_RowMaker_aimed
    fd_RowMaker_aimed := _
    F_RowMaker_aimed := F_RowMaker_aimed
    b_RowMaker_aimed := b_RowMaker_aimed
    m_RowMaker_aimed := ⟨a_RowMaker_aimed, fn_RowMaker_aimed, k_RowMaker_aimed⟩
    f_RowMaker_mark := f_RowMaker_mark
    fd_RowMaker_mark := _
    F_RowMaker_mark := F_RowMaker_mark
    b_RowMaker_mark := b_RowMaker_mark
    m_RowMaker_mark := ⟨a_RowMaker_mark, fn_RowMaker_mark, k_RowMaker_mark⟩
    f_RowMaker_queue := f_RowMaker_queue
    fd_RowMaker_queue := _
    F_RowMaker_queue := F_RowMaker_queue
    b_RowMaker_queue := b_RowMaker_queue
    m_RowMaker_queue := ⟨a_RowMaker_queue, fn_RowMaker_queue, k_RowMaker_queue⟩
    f_RowMaker_put := f_RowMaker_put
    fd_RowMaker_put := _
    F_RowMaker_put := F_RowMaker_put
    b_RowMaker_put := b_RowMaker_put
    m_RowMaker_put := ⟨a_RowMaker_put, fn_RowMaker_put, k_RowMaker_put⟩
    f_RowMaker_put_if := f_RowMaker_put_if
    fd_RowMaker_put_if := _
    F_RowMaker_put_if := F_RowMaker_put_if
    b_RowMaker_put_if := b_RowMaker_put_if
    m_RowMaker_put_if := ⟨a_RowMaker_put_if, fn_RowMaker_put_if, k_RowMaker_put_if⟩
    f_RowMaker_put_case := f_RowMaker_put_case
    fd_RowMaker_put_case := _
    F_RowMaker_put_case := F_RowMaker_put_case
    b_RowMaker_put_case := b_RowMaker_put_case
    m_RowMaker_put_case := ⟨a_RowMaker_put_case, fn_RowMaker_put_case, k_RowMaker_put_case⟩
    f_RowMaker_tests := f_RowMaker_tests
    fd_RowMaker_tests := _
    F_RowMaker_tests := F_RowMaker_tests
    b_RowMaker_tests := b_RowMaker_tests
    m_RowMaker_tests := ⟨a_RowMaker_tests, fn_RowMaker_tests, k_RowMaker_tests⟩
    f_rows_of := f_rows_of
    fd_rows_of := _
    F_rows_of := F_rows_of
    g_rows_of := PySem.W.mg_of X G a_rows_of
    k_rows_of := k_rows_of
    b_rows_of := b_rows_of
    f__law_deck := f__law_deck
    fd__law_deck := _
    F__law_deck := F__law_deck
    g__law_deck := PySem.W.mg_of X G a__law_deck
    k__law_deck := k__law_deck
    b__law_deck := b__law_deck
    f__law_take := f__law_take
    fd__law_take := _
    F__law_take := F__law_take
    g__law_take := PySem.W.mg_of X G a__law_take
    k__law_take := k__law_take
    b__law_take := b__law_take
    f__law_many := f__law_many
    fd__law_many := _
    F__law_many := F__law_many
    g__law_many := PySem.W.mg_of X G a__law_many
    k__law_many := k__law_many
    b__law_many := b__law_many
    f__law_kinds := f__law_kinds
    fd__law_kinds := _
    F__law_kinds := F__law_kinds
    g__law_kinds := PySem.W.mg_of X G a__law_kinds
    k__law_kinds := k__law_kinds
    b__law_kinds := b__law_kinds
    f__law_pair := f__law_pair
    fd__law_pair := _
    F__law_pair := F__law_pair
    g__law_pair := PySem.W.mg_of X G a__law_pair
    k__law_pair := k__law_pair
    b__law_pair := b__law_pair
    f__law_cell := f__law_cell
    fd__law_cell := _
    F__law_cell := F__law_cell
    g__law_cell := PySem.W.mg_of X G a__law_cell
    k__law_cell := k__law_cell
    b__law_cell := b__law_cell
    f__law_weight := f__law_weight
    fd__law_weight := _
    F__law_weight := F__law_weight
    g__law_weight := PySem.W.mg_of X G a__law_weight
    k__law_weight := k__law_weight
    b__law_weight := b__law_weight
    f__law_picked := f__law_picked
    fd__law_picked := _
    F__law_picked := F__law_picked
    g__law_picked := PySem.W.mg_of X G a__law_picked
    k__law_picked := k__law_picked
    b__law_picked := b__law_picked
    f__law_defs := f__law_defs
    fd__law_defs := _
    F__law_defs := F__law_defs
    g__law_defs := PySem.W.mg_of X G a__law_defs
    k__law_defs := k__law_defs
    b__law_defs := b__law_defs
    f__law_does := f__law_does
    fd__law_does := _
    F__law_does := F__law_does
    g__law_does := PySem.W.mg_of X G a__law_does
    k__law_does := k__law_does
    b__law_does := b__law_does
    f__law_forms := f__law_forms
    fd__law_forms := _
    F__law_forms := F__law_forms
    g__law_forms := PySem.W.mg_of X G a__law_forms
    k__law_forms := k__law_forms
    b__law_forms := b__law_forms
    f__law_narrow := f__law_narrow
    fd__law_narrow := _
    F__law_narrow := F__law_narrow
    g__law_narrow := PySem.W.mg_of X G a__law_narrow
    k__law_narrow := k__law_narrow
    b__law_narrow := b__law_narrow
    f__law_spots := f__law_spots
    fd__law_spots := _
    F__law_spots := F__law_spots
    g__law_spots := PySem.W.mg_of X G a__law_spots
    k__law_spots := k__law_spots
    b__law_spots := b__law_spots
    f__law_any := f__law_any
    fd__law_any := _
    F__law_any := F__law_any
    g__law_any := PySem.W.mg_of X G a__law_any
    k__law_any := k__law_any
    b__law_any := b__law_any
    f__law_bound := f__law_bound
    fd__law_bound := _
    F__law_bound := F__law_bound
    g__law_bound := PySem.W.mg_of X G a__law_bound
    k__law_bound := k__law_bound
    b__law_bound := b__law_bound
    f__law_made := f__law_made
    fd__law_made := _
    F__law_made := F__law_made
    g__law_made := PySem.W.mg_of X G a__law_made
    k__law_made := k__law_made
    b__law_made := b__law_made
    f__law_call := f__law_call
    fd__law_call := _
    F__law_call := F__law_call
    g__law_call := PySem.W.mg_of X G a__law_call
    k__law_call := k__law_call
    b__law_call := b__law_call
    f__law_core := f__law_core
    fd__law_core := _
    F__law_core := F__law_core
    g__law_core := PySem.W.mg_of X G a__law_core
    k__law_core := k__law_core
    b__law_core := b__law_core
    f__law_count := f__law_count
    fd__law_count := _
    F__law_count := F__law_count
    g__law_count := PySem.W.mg_of X G a__law_count
    k__law_count := k__law_count
    b__law_count := b__law_count
    f__law_taken := f__law_taken
    fd__law_taken := _
    F__law_taken := F__law_taken
    g__law_taken := PySem.W.mg_of X G a__law_taken
    k__law_taken := k__law_taken
    b__law_taken := b__law_taken
    f__law_worth := f__law_worth
    fd__law_worth := _
    F__law_worth := F__law_worth
    g__law_worth := PySem.W.mg_of X G a__law_worth
    k__law_worth := k__law_worth
    b__law_worth := b__law_worth
    f__law_plain_rows := f__law_plain_rows
    fd__law_plain_rows := _
    F__law_plain_rows := F__law_plain_rows
    g__law_plain_rows := PySem.W.mg_of X G a__law_plain_rows
    k__law_plain_rows := k__law_plain_rows
    b__law_plain_rows := b__law_plain_rows
    f__law_machine := f__law_machine
    fd__law_machine := _
    F__law_machine := F__law_machine
    g__law_machine := PySem.W.mg_of X G a__law_machine
    k__law_machine := k__law_machine
    b__law_machine := b__law_machine
    f__law_anew := f__law_anew
    fd__law_anew := _
    F__law_anew := F__law_anew
    g__law_anew := PySem.W.mg_of X G a__law_anew
    k__law_anew := k__law_anew
    b__law_anew := b__law_anew
    f_law := fa
    fd_law := _
    F_law := F_law
    g_law := PySem.W.mg_of X G a_law
    k_law := k_law
    b_law := b_law
    z_len := PySem.W.mg_none_of X G z_len
    z_int := PySem.W.mg_none_of X G z_int
    z_tuple := PySem.W.mg_none_of X G z_tuple
    z_list := PySem.W.mg_none_of X G z_list
    z_sum := PySem.W.mg_none_of X G z_sum
    z_max := PySem.W.mg_none_of X G z_max
    z_range := PySem.W.mg_none_of X G z_range
    z_enumerate := PySem.W.mg_none_of X G z_enumerate
    z_isinstance := PySem.W.mg_none_of X G z_isinstance
    z_bool := PySem.W.mg_none_of X G z_bool
    z_str := PySem.W.mg_none_of X G z_str }
  exact ⟨_, fun s v => .of_eq rfl, fun base _ _ => ok_law T⟩
theorem walk {l : PySem.W.OpenLaw} {q : Program} {loose : List Str} {XP : (Str → Option Value) → Heap → Prop} {YP : World → Heap → Prop} {d : DefRec} {K : Params → PySem.W.Frag} (hn : l.most = some 63) (hdf : d.params.defaults = [])
    (hY : ∀ (w : World) (h : Heap), YP w h → (K w.params).In h)
    (F : ∀ (w : World) (mg : Str → Option Value) (fa : Addr) (h : Heap), (K w.params).In h → h.Ns mainGlobals mg → mg d.name = some (.ref fa) →
      ∃ fd : FuncData, (∀ (s : Shared) (u : Value), BindsTo s fd ⟨[u], []⟩ [("script", u)]) ∧ ∀ base : Heap, (K w.params).In base → base.Ns mainGlobals mg → FnOk l.prog w (K w.params) mg base CX0 80 fa fd ["script"] (spLaw (K w.params))) :
    PySem.W.WalkO q loose XP YP l.row.toRowW d [] (fun f vs => PySem.call f vs) :=
  L2.walk_of (n := 63) (k := 80) (x := "script") (CX := fun _ => CX0) (sp := fun w => spLaw (K w.params)) hn (by decide) hdf ⟨rfl, by decide, by decide⟩ hY F (fun _ _ a ns hl _ hS => ⟨a, ns, rfl, hS, hl, fun _ => rfl⟩) fun _ _ _ _ _ z => z
end K87
open PySem PySem.W PyProof.Rows
set_option maxRecDepth 100000 in
set_option maxHeartbeats 0 in
theorem PySem.Challenge.cw_asiffresh_k87_rows_of_a_core_holds : PySem.Challenge.rw_asiffresh_k87_rows_of_a_core.Holds := by
  w_on; o_law; k_head; (case hw => w_witness2)
  k_fill
  refine K87.walk (l := PySem.Challenge.rw_asiffresh_k87_rows_of_a_core) rfl rfl (fun w h Y => PySem.W.kIn_of Y) ?F
  case F =>
    intro w mg fa h KX G hmg
    refine' K87.all_mk KX G hmg ?a_rows_of ?l_rows_of ?c_rows_of ?k_rows_of ?a__law_deck ?l__law_deck ?c__law_deck ?k__law_deck ?a__law_take ?l__law_take ?c__law_take ?k__law_take ?a__law_many ?l__law_many ?c__law_many ?k__law_many ?a__law_kinds ?l__law_kinds ?c__law_kinds ?k__law_kinds ?a__law_pair ?l__law_pair ?c__law_pair ?k__law_pair ?a__law_cell ?l__law_cell ?c__law_cell ?k__law_cell ?a__law_weight ?l__law_weight ?c__law_weight ?k__law_weight ?a__law_picked ?l__law_picked ?c__law_picked ?k__law_picked ?a__law_defs ?l__law_defs ?c__law_defs ?k__law_defs ?a__law_does ?l__law_does ?c__law_does ?k__law_does ?a__law_forms ?l__law_forms ?c__law_forms ?k__law_forms ?a__law_narrow ?l__law_narrow ?c__law_narrow ?k__law_narrow ?a__law_spots ?l__law_spots ?c__law_spots ?k__law_spots ?a__law_any ?l__law_any ?c__law_any ?k__law_any ?a__law_bound ?l__law_bound ?c__law_bound ?k__law_bound ?a__law_made ?l__law_made ?c__law_made ?k__law_made ?a__law_call ?l__law_call ?c__law_call ?k__law_call ?a__law_core ?l__law_core ?c__law_core ?k__law_core ?a__law_count ?l__law_count ?c__law_count ?k__law_count ?a__law_taken ?l__law_taken ?c__law_taken ?k__law_taken ?a__law_worth ?l__law_worth ?c__law_worth ?k__law_worth ?a__law_plain_rows ?l__law_plain_rows ?c__law_plain_rows ?k__law_plain_rows ?a__law_machine ?l__law_machine ?c__law_machine ?k__law_machine ?a__law_anew ?l__law_anew ?c__law_anew ?k__law_anew ?a_law ?l_law ?c_law ?k_law ?a_RowMaker ?pg_RowMaker ?hd_RowMaker ?po_RowMaker ?sa_RowMaker ?mk_RowMaker ?kc_RowMaker ?na_RowMaker_rows ?na_RowMaker_places ?na_RowMaker_seats ?na_RowMaker_held ?na_RowMaker_due ?a_RowMaker___init__ ?fn_RowMaker___init__ ?l_RowMaker___init__ ?c_RowMaker___init__ ?k_RowMaker___init__ ?a_RowMaker_write ?fn_RowMaker_write ?l_RowMaker_write ?c_RowMaker_write ?k_RowMaker_write ?a_RowMaker_aimed ?fn_RowMaker_aimed ?l_RowMaker_aimed ?c_RowMaker_aimed ?k_RowMaker_aimed ?a_RowMaker_mark ?fn_RowMaker_mark ?l_RowMaker_mark ?c_RowMaker_mark ?k_RowMaker_mark ?a_RowMaker_queue ?fn_RowMaker_queue ?l_RowMaker_queue ?c_RowMaker_queue ?k_RowMaker_queue ?a_RowMaker_put ?fn_RowMaker_put ?l_RowMaker_put ?c_RowMaker_put ?k_RowMaker_put ?a_RowMaker_put_if ?fn_RowMaker_put_if ?l_RowMaker_put_if ?c_RowMaker_put_if ?k_RowMaker_put_if ?a_RowMaker_put_case ?fn_RowMaker_put_case ?l_RowMaker_put_case ?c_RowMaker_put_case ?k_RowMaker_put_case ?a_RowMaker_tests ?fn_RowMaker_tests ?l_RowMaker_tests ?c_RowMaker_tests ?k_RowMaker_tests ?z_len ?z_int ?z_tuple ?z_list ?z_sum ?z_max ?z_range ?z_enumerate ?z_isinstance ?z_bool ?z_str
    (case a_rows_of => k_is); (case l_rows_of => k_is); (case c_rows_of => k_is); (case k_rows_of => k_is); (case a__law_deck => k_is); (case l__law_deck => k_is)
    (case c__law_deck => k_is); (case k__law_deck => k_is); (case a__law_take => k_is); (case l__law_take => k_is); (case c__law_take => k_is); (case k__law_take => k_is)
    (case a__law_many => k_is); (case l__law_many => k_is); (case c__law_many => k_is); (case k__law_many => k_is); (case a__law_kinds => k_is); (case l__law_kinds => k_is)
    (case c__law_kinds => k_is); (case k__law_kinds => k_is); (case a__law_pair => k_is); (case l__law_pair => k_is); (case c__law_pair => k_is); (case k__law_pair => k_is)
    (case a__law_cell => k_is); (case l__law_cell => k_is); (case c__law_cell => k_is); (case k__law_cell => k_is); (case a__law_weight => k_is); (case l__law_weight => k_is)
    (case c__law_weight => k_is); (case k__law_weight => k_is); (case a__law_picked => k_is); (case l__law_picked => k_is); (case c__law_picked => k_is); (case k__law_picked => k_is)
    (case a__law_defs => k_is); (case l__law_defs => k_is); (case c__law_defs => k_is); (case k__law_defs => k_is); (case a__law_does => k_is); (case l__law_does => k_is)
    (case c__law_does => k_is); (case k__law_does => k_is); (case a__law_forms => k_is); (case l__law_forms => k_is); (case c__law_forms => k_is); (case k__law_forms => k_is)
    (case a__law_narrow => k_is); (case l__law_narrow => k_is); (case c__law_narrow => k_is); (case k__law_narrow => k_is); (case a__law_spots => k_is); (case l__law_spots => k_is)
    (case c__law_spots => k_is); (case k__law_spots => k_is); (case a__law_any => k_is); (case l__law_any => k_is); (case c__law_any => k_is); (case k__law_any => k_is)
    (case a__law_bound => k_is); (case l__law_bound => k_is); (case c__law_bound => k_is); (case k__law_bound => k_is); (case a__law_made => k_is); (case l__law_made => k_is)
    (case c__law_made => k_is); (case k__law_made => k_is); (case a__law_call => k_is); (case l__law_call => k_is); (case c__law_call => k_is); (case k__law_call => k_is)
    (case a__law_core => k_is); (case l__law_core => k_is); (case c__law_core => k_is); (case k__law_core => k_is); (case a__law_count => k_is); (case l__law_count => k_is)
    (case c__law_count => k_is); (case k__law_count => k_is); (case a__law_taken => k_is); (case l__law_taken => k_is); (case c__law_taken => k_is); (case k__law_taken => k_is)
    (case a__law_worth => k_is); (case l__law_worth => k_is); (case c__law_worth => k_is); (case k__law_worth => k_is); (case a__law_plain_rows => k_is); (case l__law_plain_rows => k_is)
    (case c__law_plain_rows => k_is); (case k__law_plain_rows => k_is); (case a__law_machine => k_is); (case l__law_machine => k_is); (case c__law_machine => k_is); (case k__law_machine => k_is)
    (case a__law_anew => k_is); (case l__law_anew => k_is); (case c__law_anew => k_is); (case k__law_anew => k_is); (case a_law => k_is); (case l_law => k_is)
    (case c_law => k_is); (case k_law => k_is); (case a_RowMaker => k_is); (case pg_RowMaker => k_is); (case hd_RowMaker => k_is); (case po_RowMaker => k_is)
    (case sa_RowMaker => k_is); (case mk_RowMaker => k_is); (case kc_RowMaker => k_is); (case na_RowMaker_rows => k_is); (case na_RowMaker_places => k_is); (case na_RowMaker_seats => k_is)
    (case na_RowMaker_held => k_is); (case na_RowMaker_due => k_is); (case a_RowMaker___init__ => k_is); (case fn_RowMaker___init__ => k_is); (case l_RowMaker___init__ => k_is); (case c_RowMaker___init__ => k_is)
    (case k_RowMaker___init__ => k_is); (case a_RowMaker_write => k_is); (case fn_RowMaker_write => k_is); (case l_RowMaker_write => k_is); (case c_RowMaker_write => k_is); (case k_RowMaker_write => k_is)
    (case a_RowMaker_aimed => k_is); (case fn_RowMaker_aimed => k_is); (case l_RowMaker_aimed => k_is); (case c_RowMaker_aimed => k_is); (case k_RowMaker_aimed => k_is); (case a_RowMaker_mark => k_is)
    (case fn_RowMaker_mark => k_is); (case l_RowMaker_mark => k_is); (case c_RowMaker_mark => k_is); (case k_RowMaker_mark => k_is); (case a_RowMaker_queue => k_is); (case fn_RowMaker_queue => k_is)
    (case l_RowMaker_queue => k_is); (case c_RowMaker_queue => k_is); (case k_RowMaker_queue => k_is); (case a_RowMaker_put => k_is); (case fn_RowMaker_put => k_is); (case l_RowMaker_put => k_is)
    (case c_RowMaker_put => k_is); (case k_RowMaker_put => k_is); (case a_RowMaker_put_if => k_is); (case fn_RowMaker_put_if => k_is); (case l_RowMaker_put_if => k_is); (case c_RowMaker_put_if => k_is)
    (case k_RowMaker_put_if => k_is); (case a_RowMaker_put_case => k_is); (case fn_RowMaker_put_case => k_is); (case l_RowMaker_put_case => k_is); (case c_RowMaker_put_case => k_is); (case k_RowMaker_put_case => k_is)
    (case a_RowMaker_tests => k_is); (case fn_RowMaker_tests => k_is); (case l_RowMaker_tests => k_is); (case c_RowMaker_tests => k_is); (case k_RowMaker_tests => k_is); (case z_len => k_is)
    (case z_int => k_is); (case z_tuple => k_is); (case z_list => k_is); (case z_sum => k_is); (case z_max => k_is); (case z_range => k_is)
    (case z_enumerate => k_is); (case z_isinstance => k_is); (case z_bool => k_is); (case z_str => k_is)
#print axioms PySem.Challenge.cw_asiffresh_k87_rows_of_a_core_holds

