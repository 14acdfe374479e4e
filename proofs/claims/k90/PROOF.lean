import PyProof.Rows.All
import Wide.All
import OpenK.AllK
import Wide.FinOn
import HandS.ForMost
import HandS.Flow
import HandS.TupAny
import HandS.IsInst
import HandS.More
import HandS.Iter
import HandS.TupMul
import HandS.Evl
import HandS.Exc
import HandS.ExcOwn
import HandS.WordsExc
import HandS.ExcIs
import HandS.ExcCtx
import HandS.HotCalls
import HandS.RaiseMore
import PySem.Challenge.RW_asiffresh_k90_calls_and_refusals
set_option linter.all false
/-! The machine in plain Lean: cells, rows, a checked run within a frame (Run), a piece of such a run (Steps), the whole run with its frames (Whole). -/
namespace Mch
inductive Cell where
  | mk (n : Int) (cs : List Cell)
mutual
def Cell.size : Cell → Nat
  | .mk _ cs => 1 + sizes cs
def sizes : List Cell → Nat
  | [] => 0
  | c :: r => c.size + sizes r
end
mutual
def Cell.depth : Cell → Nat
  | .mk _ cs => 1 + depths cs
def depths : List Cell → Nat
  | [] => 0
  | c :: r => max c.depth (depths r)
end
def Cell.num : Cell → Int
  | .mk n _ => n
def Cell.parts : Cell → List Cell
  | .mk _ cs => cs
mutual
def Cell.eqb : Cell → Cell → Bool
  | .mk n cs, .mk m ds => decide (n = m) && eqbs cs ds
def eqbs : List Cell → List Cell → Bool
  | [], [] => true
  | c :: r, d :: q => c.eqb d && eqbs r q
  | [], _ :: _ => false
  | _ :: _, [] => false
end
def boolC (b : Bool) : Cell := .mk (if b then 1 else 0) []
theorem sizes_append (a b : List Cell) : sizes (a ++ b) = sizes a + sizes b := by
  induction a with
  | nil => simp [sizes]
  | cons c r ih => simp [sizes, ih]; omega
theorem sizes_reverse (a : List Cell) : sizes a.reverse = sizes a := by
  induction a with
  | nil => rfl
  | cons c r ih => simp [sizes, sizes_append, ih]; omega
theorem size_pos (c : Cell) : 1 ≤ c.size := by cases c; simp [Cell.size]
theorem sizes_mem {c : Cell} {l : List Cell} (h : c ∈ l) : c.size ≤ sizes l := by
  induction l with
  | nil => cases h
  | cons d r ih =>
    rcases List.mem_cons.mp h with rfl | h
    · simp [sizes]
    · have := ih h
      simp [sizes]; omega
theorem depths_append (a b : List Cell) : depths (a ++ b) = max (depths a) (depths b) := by
  induction a with
  | nil => simp [depths]
  | cons c r ih => simp only [List.cons_append, depths, ih, Nat.max_assoc]
theorem depths_reverse (a : List Cell) : depths a.reverse = depths a := by
  induction a with
  | nil => rfl
  | cons c r ih => simp only [List.reverse_cons, depths_append, ih, depths]; omega
theorem depths_mem {c : Cell} {l : List Cell} (h : c ∈ l) : c.depth ≤ depths l := by
  induction l with
  | nil => cases h
  | cons d r ih =>
    rcases List.mem_cons.mp h with rfl | h
    · simp only [depths]; omega
    · have := ih h
      simp only [depths]; omega
theorem depths_le {n : Nat} {l : List Cell} (h : ∀ c ∈ l, c.depth ≤ n) : depths l ≤ n := by
  induction l with
  | nil => simp [depths]
  | cons d r ih =>
    have h1 := h d List.mem_cons_self
    have h2 := ih fun c hc => h c (List.mem_cons_of_mem _ hc)
    simp only [depths]; omega
theorem depths_take (n : Nat) (l : List Cell) : depths (l.take n) ≤ depths l := depths_le fun c hc => depths_mem (List.mem_of_mem_take hc)
theorem depths_drop (n : Nat) (l : List Cell) : depths (l.drop n) ≤ depths l := depths_le fun c hc => depths_mem (List.mem_of_mem_drop hc)
theorem sizes_take (n : Nat) (l : List Cell) : sizes (l.take n) ≤ sizes l := by
  induction l generalizing n with
  | nil => simp
  | cons c r ih =>
    cases n with
    | zero => simp [sizes]
    | succ n => have := ih n; simp only [List.take_succ_cons, sizes]; omega
theorem length_le_sizes (l : List Cell) : l.length ≤ sizes l := by
  induction l with
  | nil => simp [sizes]
  | cons c r ih => have := size_pos c; simp [sizes]; omega

inductive Row (N : Type) where
  | loc (n : Nat) | drop | keep | forget (n : Nat) | part (n : Nat) | make (m : Int) (n : Nat) | same
  | call (f : N) (n : Nat) | isr (m : Int) (to : Nat) | go (to : Nat) | back
abbrev Built (N : Type) := N → Option (Nat × List (Row N))
section
variable {N : Type}
/-- a row that only moves cells; the stack's top is its head -/
inductive Simp1 : Row N → List Cell → List Cell → List Cell → List Cell → Prop
  | loc {n held st c} : held[n]? = some c → Simp1 (.loc n) held st held (c :: st)
  | drop {held c st} : Simp1 .drop held (c :: st) held st
  | keep {held c st} : Simp1 .keep held (c :: st) (held ++ [c]) st
  | forget {n held st} : n ≤ held.length → Simp1 (.forget n) held st (held.take (held.length - n)) st
  | part {n held m cs c st} : cs[n]? = some c → Simp1 (.part n) held (.mk m cs :: st) held (c :: st)
  | make {m n held st} : n ≤ st.length → 1 + sizes (st.take n) ≤ 256 → Simp1 (.make m n) held st held (.mk m (st.take n).reverse :: st.drop n)
  | same {held c d st} : c.depth ≤ 250 → Simp1 .same held (c :: d :: st) held (boolC (c.eqb d) :: st)
/-- Run B rows at held st v c d k h: from this row on, within this frame, to its end: v is answered; c calls are made (at any depth), d rows done (at any depth), k of them in this frame; calls nest at most h deep -/
inductive Run (B : Built N) : List (Row N) → Nat → List Cell → List Cell → Cell → Nat → Nat → Nat → Nat → Prop
  | back {rows i held st v} : rows[i]? = some .back → Run B rows i held (v :: st) v 0 1 1 0
  | simp {rows i held st r held' st' v c d k h} : rows[i]? = some r → Simp1 r held st held' st' → Run B rows (i + 1) held' st' v c d k h → Run B rows i held st v c (d + 1) (k + 1) h
  | go {rows i held st to v c d k h} : rows[i]? = some (.go to) → Run B rows to held st v c d k h → Run B rows i held st v c (d + 1) (k + 1) h
  | isr {rows i held m to n cs st v c d k h} : rows[i]? = some (.isr m to) → Run B rows (if n = m then i + 1 else to) held (.mk n cs :: st) v c d k h → Run B rows i held (.mk n cs :: st) v c (d + 1) (k + 1) h
  | call {rows i held st f n rows' w c1 d1 k1 h1 v c d k h} : rows[i]? = some (.call f n) → n ≤ st.length → B f = some (n, rows') → Run B rows' 0 (st.take n).reverse [] w c1 d1 k1 h1 → k1 ≤ 400 →
      Run B rows (i + 1) held (w :: st.drop n) v c d k h → Run B rows i held st v (c1 + c + 1) (d1 + d + 1) (k + 1) (max (h1 + 1) h)
/-- a piece of a run -/
inductive Steps (B : Built N) (rows : List (Row N)) : Nat → List Cell → List Cell → Nat → List Cell → List Cell → Nat → Nat → Nat → Nat → Prop
  | refl {i held st} : Steps B rows i held st i held st 0 0 0 0
  | simp {i held st r held' st' j held2 st2 c d k h} : rows[i]? = some r → Simp1 r held st held' st' → Steps B rows (i + 1) held' st' j held2 st2 c d k h → Steps B rows i held st j held2 st2 c (d + 1) (k + 1) h
  | go {i held st to j held2 st2 c d k h} : rows[i]? = some (.go to) → Steps B rows to held st j held2 st2 c d k h → Steps B rows i held st j held2 st2 c (d + 1) (k + 1) h
  | isr {i held m to n cs st j held2 st2 c d k h} : rows[i]? = some (.isr m to) → Steps B rows (if n = m then i + 1 else to) held (.mk n cs :: st) j held2 st2 c d k h → Steps B rows i held (.mk n cs :: st) j held2 st2 c (d + 1) (k + 1) h
  | call {i held st f n rows' w c1 d1 k1 h1 j held2 st2 c d k h} : rows[i]? = some (.call f n) → n ≤ st.length → B f = some (n, rows') → Run B rows' 0 (st.take n).reverse [] w c1 d1 k1 h1 → k1 ≤ 400 →
      Steps B rows (i + 1) held (w :: st.drop n) j held2 st2 c d k h → Steps B rows i held st j held2 st2 (c1 + c + 1) (d1 + d + 1) (k + 1) (max (h1 + 1) h)
theorem Steps.trans {B : Built N} {rows : List (Row N)} {i j l : Nat} {held st held2 st2 held3 st3 : List Cell} {c d k h c' d' k' h' : Nat}
    (a : Steps B rows i held st j held2 st2 c d k h) (b : Steps B rows j held2 st2 l held3 st3 c' d' k' h') : Steps B rows i held st l held3 st3 (c + c') (d + d') (k + k') (max h h') := by
  induction a with
  | refl => simpa using b
  | simp e s _ ih =>
    have := Steps.simp e s (ih b)
    rw [show ∀ a b : Nat, a + 1 + b = a + b + 1 by omega, show ∀ a b : Nat, a + 1 + b = a + b + 1 by omega]; exact this
  | go e _ ih =>
    have := Steps.go e (ih b)
    rw [show ∀ a b : Nat, a + 1 + b = a + b + 1 by omega, show ∀ a b : Nat, a + 1 + b = a + b + 1 by omega]; exact this
  | isr e _ ih =>
    have := Steps.isr e (ih b)
    rw [show ∀ a b : Nat, a + 1 + b = a + b + 1 by omega, show ∀ a b : Nat, a + 1 + b = a + b + 1 by omega]; exact this
  | @call i held st f n rows' w c1 d1 k1 h1 j held2 st2 c d k h e hn hB r hk _ ih =>
    have := Steps.call e hn hB r hk (ih b)
    rw [show c1 + c + 1 + c' = c1 + (c + c') + 1 by omega, show d1 + d + 1 + d' = d1 + (d + d') + 1 by omega, show k + 1 + k' = k + k' + 1 by omega, Nat.max_assoc]; exact this
theorem Steps.run {B : Built N} {rows : List (Row N)} {i j : Nat} {held st held2 st2 : List Cell} {v : Cell} {c d k h c' d' k' h' : Nat}
    (a : Steps B rows i held st j held2 st2 c d k h) (b : Run B rows j held2 st2 v c' d' k' h') : Run B rows i held st v (c + c') (d + d') (k + k') (max h h') := by
  induction a with
  | refl => simpa using b
  | simp e s _ ih =>
    have := Run.simp e s (ih b)
    rw [show ∀ a b : Nat, a + 1 + b = a + b + 1 by omega, show ∀ a b : Nat, a + 1 + b = a + b + 1 by omega]; exact this
  | go e _ ih =>
    have := Run.go e (ih b)
    rw [show ∀ a b : Nat, a + 1 + b = a + b + 1 by omega, show ∀ a b : Nat, a + 1 + b = a + b + 1 by omega]; exact this
  | isr e _ ih =>
    have := Run.isr e (ih b)
    rw [show ∀ a b : Nat, a + 1 + b = a + b + 1 by omega, show ∀ a b : Nat, a + 1 + b = a + b + 1 by omega]; exact this
  | @call i held st f n rows' w c1 d1 k1 h1 j held2 st2 c d k h e hn hB r hk _ ih =>
    have := Run.call e hn hB r hk (ih b)
    rw [show c1 + c + 1 + c' = c1 + (c + c') + 1 by omega, show d1 + d + 1 + d' = d1 + (d + d') + 1 by omega, show k + 1 + k' = k + k' + 1 by omega, Nat.max_assoc]; exact this
/-- more defs, more rows: the run stays -/
theorem Run.more {B B' : Built N} (hB : ∀ f x, B f = some x → B' f = some x) {rows : List (Row N)} {i : Nat} {held st : List Cell} {v : Cell} {c d k h : Nat} (a : Run B rows i held st v c d k h) : Run B' rows i held st v c d k h := by
  induction a with
  | back e => exact .back e
  | simp e s _ ih => exact .simp e s ih
  | go e _ ih => exact .go e ih
  | isr e _ ih => exact .isr e ih
  | call e hn hf _ hk _ ih1 ih2 => exact .call e hn (hB _ _ hf) ih1 hk ih2
theorem get_pre {α : Type} {a b : List α} {i : Nat} {x : α} (h : a[i]? = some x) : (a ++ b)[i]? = some x := by
  rw [List.getElem?_append_left (List.getElem?_eq_some_iff.mp h).1]; exact h
theorem Steps.more {B B' : Built N} (hB : ∀ f x, B f = some x → B' f = some x) {rows more : List (Row N)} {i j : Nat} {held st held2 st2 : List Cell} {c d k h : Nat} (a : Steps B rows i held st j held2 st2 c d k h) :
    Steps B' (rows ++ more) i held st j held2 st2 c d k h := by
  induction a with
  | refl => exact .refl
  | simp e s _ ih => exact .simp (get_pre e) s ih
  | go e _ ih => exact .go (get_pre e) ih
  | isr e _ ih => exact .isr (get_pre e) ih
  | call e hn hf r hk _ ih => exact .call (get_pre e) hn (hB _ _ hf) (r.more hB) hk ih

/-! ### the whole machine: frames that wait -/
structure Frame (N : Type) where
  rows : List (Row N)
  i : Nat
  held : List Cell
  st : List Cell
inductive Whole (B : Built N) (v : Cell) : List (Frame N) → List (Row N) → Nat → List Cell → List Cell → Nat → Nat → Prop
  | top {rows i held st c d k h} : Run B rows i held st v c d k h → Whole B v [] rows i held st c d
  | more {fs : List (Frame N)} {fr : Frame N} {rows i held st w c1 d1 k h c d} : Run B rows i held st w c1 d1 k h → Whole B v fs fr.rows fr.i fr.held (w :: fr.st) c d → Whole B v (fr :: fs) rows i held st (c1 + c) (d1 + d)
/-- what the next row is, and what is left behind it -/
inductive Next (B : Built N) (v : Cell) (fs : List (Frame N)) (rows : List (Row N)) (i : Nat) (held st : List Cell) (c d : Nat) : Prop
  | fin : rows[i]? = some .back → fs = [] → (∃ st', st = v :: st') → Next B v fs rows i held st c d
  | ret {w st' fr fs' d'} : rows[i]? = some .back → fs = fr :: fs' → st = w :: st' → d = d' + 1 → Whole B v fs' fr.rows fr.i fr.held (w :: fr.st) c d' → Next B v fs rows i held st c d
  | simp {r held' st' d'} : rows[i]? = some r → Simp1 r held st held' st' → d = d' + 1 → Whole B v fs rows (i + 1) held' st' c d' → Next B v fs rows i held st c d
  | go {to d'} : rows[i]? = some (.go to) → d = d' + 1 → Whole B v fs rows to held st c d' → Next B v fs rows i held st c d
  | isr {m to n cs st' d'} : rows[i]? = some (.isr m to) → st = .mk n cs :: st' → d = d' + 1 → Whole B v fs rows (if n = m then i + 1 else to) held st c d' → Next B v fs rows i held st c d
  | call {f n rows' c' d'} : rows[i]? = some (.call f n) → n ≤ st.length → B f = some (n, rows') → c = c' + 1 → d = d' + 1 → Whole B v (⟨rows, i + 1, held, st.drop n⟩ :: fs) rows' 0 (st.take n).reverse [] c' d' → Next B v fs rows i held st c d
theorem Whole.pos {B : Built N} {v : Cell} {fs : List (Frame N)} {rows : List (Row N)} {i : Nat} {held st : List Cell} {c d : Nat} (w : Whole B v fs rows i held st c d) : Next B v fs rows i held st c d := by
  cases w with
  | top r =>
    cases r with
    | back e => exact .fin e rfl ⟨_, rfl⟩
    | simp e s r => exact .simp e s rfl (.top r)
    | go e r => exact .go e rfl (.top r)
    | isr e r => exact .isr e rfl rfl (.top r)
    | @call _ _ _ _ f n rows' w c1 d1 k1 h1 _ c d k h e hn hB r hk r2 => exact .call e hn hB rfl rfl (.more r (.top r2))
  | @more fs fr _ _ _ _ w c1 d1 k h c d r W =>
    cases r with
    | back e => exact .ret e rfl rfl (d' := d) (by omega) (by simpa using W)
    | @simp _ _ _ _ r held' st' _ _ d1 k h e s r => exact .simp e s (d' := d1 + d) (by omega) (.more r W)
    | @go _ _ _ _ _ _ _ d1 _ _ e r => exact .go e (d' := d1 + d) (by omega) (.more r W)
    | @isr _ _ _ _ _ _ _ _ _ _ d1 _ _ e r => exact .isr e rfl (d' := d1 + d) (by omega) (.more r W)
    | @call _ _ _ _ f n rows' w c1 d1 k1 h1 _ c2 d2 k h e hn hB r hk r2 =>
      refine .call e hn hB (c' := c1 + (c2 + c)) (d' := d1 + (d2 + d)) (by omega) (by omega) ?_
      exact .more r (.more (fr := ⟨_, _, _, _⟩) r2 W)
end
end Mch

set_option Elab.async false
set_option linter.all false
set_option maxRecDepth 100000
set_option maxHeartbeats 2000000
/-! Rules of our own over the hand layer: del xs[a:], xs.extend(tuple), == and != of cells at any depth. -/
namespace Ru
open PySem PySem.Spec PyProof.Rows L2

theorem filt_from {α : Type} {p : Nat → Bool} {a : Nat} : ∀ (its : List α) (i : Nat), (∀ k, i ≤ k → k < i + its.length → p k = decide (a ≤ k)) →
    ((its.zipIdx i).filterMap fun x => if p x.2 = true then none else some x.1) = its.take (a - i)
  | [], i, _ => by simp
  | x :: r, i, h => by
    have ih := filt_from (p := p) (a := a) r (i + 1) fun k h1 h2 => h k (by omega) (by simp only [List.length_cons]; omega)
    have e := h i (Nat.le_refl _) (by simp only [List.length_cons]; omega)
    rw [List.zipIdx_cons, List.filterMap_cons]
    by_cases c : a ≤ i
    · have e' : p i = true := by rw [e]; exact decide_eq_true c
      have z1 : a - i = 0 := by omega
      have z2 : a - (i + 1) = 0 := by omega
      simp only [e', if_true]
      rw [ih, z1, z2]
      simp
    · have e' : p i = false := by rw [e]; exact decide_eq_false c
      have z : a - i = (a - (i + 1)) + 1 := by omega
      simp only [e', Bool.false_eq_true, if_false]
      rw [ih, z, List.take_succ_cons]

section
variable {prog : Program} {w : World} {A : Around} {E : Value → Shared → Prop} {s : Shared}
theorem bounds_from {a n : Nat} (ha : a ≤ n) : sliceBounds (some (a : Int)) none none n = ((a : Int), (n : Int), 1) := by
  simp only [sliceBounds, Option.getD_none]
  have h1 : ¬ ((a : Int) < 0) := by omega
  simp only [h1, if_false, show (1 : Int) > 0 by decide, if_true]
  congr 1
  omega
theorem slot_delitem : PySem.Slot "list" "__delitem__" "list.__delitem__" := PySem.F.slot_list_delitem
set_option maxRecDepth 100000 in
/-- list.__delitem__ with a slice that has a beginning alone -/
theorem delItem_from {l sl : Addr} {its : List Value} {n : Nat} {vl : Value} {a : Nat} {Q : Unit → Shared → Prop}
    (e : s.heap.get? l = some { cls := .type "list", data := .seq its.toArray n }) (hs : s.heap.IsSliceOf sl vl .none .none) (pl : IsPart vl (some (a : Int))) (ha : a ≤ its.length)
    (hz : its.length ≤ sizeLine) (h : ∀ f : Array Value → Array Value, f its.toArray = (its.take a).toArray → Q () { s with heap := s.heap.update l (Obj.mapSeq f) }) :
    wpAny (model prog w) A (delItem (.ref l) (.ref sl)) Q E s := by
  have hl : s.heap.IsList l its.toArray := PySem.IsL.isList e
  obtain ⟨os, hos, hcs, hds⟩ := id hs
  have hTs : s.TypeIs (.ref sl) "slice" := ⟨os, hos, hcs⟩
  have hstep : ¬ ((rawPart none == rawInt 0) = true) := Bool.false_ne_true
  refine PySem.wpAny_delItem_slot hl.typeIs (by decide) PySem.F.slot_list_delitem
    (wpAny_call_entry PySem.F.slot_list_delitem hl.typeIs PySem.F.entry_list_delitem ?_ (PySem.F.args_list_delitem_2 _ _))
  show wpAny _ _ (Builtin.List.listSubscript? (.ref sl) >>= _) _ _ s
  refine wpAny_bind ?_
  unfold Builtin.List.listSubscript?
  refine wpAny_bind (wpAny_specialOf hTs slice_no_index ?_)
  simp only [Option.isNone_none, if_true]
  refine wpAny_pure ?_
  show wpAny _ _ (typeOf (.ref sl) >>= _) _ _ s
  refine wpAny_bind (wpAny_typeOf hTs ?_)
  first
    | rw [if_neg (by decide)]
    | refine PySem.W.KFB.if_not (by decide) ?_
  rw [listSliceParts_eq]
  refine wpAny_bind (wpAny_bind (wpAny_field hos hds (x := .none) rfl (wpAny_bind (wpAny_listPart .none ?_))))
  rw [if_neg hstep]
  refine wpAny_bind (wpAny_field hos hds (x := vl) rfl (wpAny_bind (wpAny_listPart pl ?_)))
  refine wpAny_bind (wpAny_field hos hds (x := .none) rfl (wpAny_bind (wpAny_listPart .none (wpAny_pure ?_))))
  unfold Builtin.List.listItems
  refine wpAny_bind (wpAny_bind (wpAny_seqItems e rfl (wpAny_pure ?_)))
  refine wpAny_bind (wpAny_of_eq ((sliceIndices_raw (some (a : Int)) none none its.toArray.size (by simp)).trans (congrArg (pure : Int × Int × Int → Sem (Int × Int × Int)) (bounds_from (n := its.toArray.size) (by rw [List.size_toArray]; exact ha)))) ?_)
  refine wpAny_bind (wpAny_rule ?_)
  have key : ∀ p : Nat → Bool, (∀ k, k < its.length → p k = decide (a ≤ k)) → (fun xs : Array Value => (xs.toList.zipIdx.filterMap fun x => if p x.2 = true then none else some x.1).toArray) its.toArray = (its.take a).toArray := fun p hp => by
    have q := filt_from (p := p) (a := a) its 0 fun k _ h2 => hp k (by omega)
    simpa using congrArg List.toArray q
  have size_ok : ∀ f : Array Value → Array Value, f its.toArray = (its.take a).toArray → (f its.toArray).size ≤ sizeLine + 1 := fun f hf => by
    rw [hf, List.size_toArray, List.length_take]
    omega
  refine wpAny_bind ?_
  have pk : ∀ k : Nat, k < its.length → ((decide ((a : Int) ≤ (k : Int)) && decide ((k : Int) < (its.toArray.size : Int)) && ((k : Int) - (a : Int)) % 1 == 0)) = decide (a ≤ k) := fun k hk => by
    have h1 : decide ((k : Int) < (its.toArray.size : Int)) = true := decide_eq_true (by rw [List.size_toArray]; omega)
    have h2 : (((k : Int) - (a : Int)) % 1 == 0) = true := by rw [Int.emod_one]; rfl
    have h3 : decide ((a : Int) ≤ (k : Int)) = decide (a ≤ k) := by
      by_cases c : a ≤ k
      · rw [decide_eq_true c, decide_eq_true (by omega)]
      · rw [decide_eq_false c, decide_eq_false (by omega)]
    rw [h1, h2, h3]
    simp
  have upd := fun (f : Array Value → Array Value) (hf : f its.toArray = (its.take a).toArray) (Q' : Unit → Shared → Prop) (q : Q' () { s with heap := s.heap.update l (Obj.mapSeq f) }) =>
    (wpAny_updateSeq (M := model prog w) (A := A.in1) (E := E) (Q := Q') (f := f) (hz := by rw [List.size_toArray]; exact hz) (_hz' := size_ok f hf) e rfl q)
  refine upd _ (key _ pk) _ ?_
  refine wpAny_bind (wpAny_letGo ?_)
  first
    | exact wpAny_bind (wpAny_pure (wpAny_pure ⟨.none, rfl, wpAny_pure (h _ (key _ pk))⟩))
    | exact wpAny_pure ⟨.none, rfl, h _ (key _ pk)⟩
    | exact wpAny_pure ⟨.none, rfl, wpAny_pure (h _ (key _ pk))⟩
end
end Ru

set_option Elab.async false
set_option linter.all false
set_option maxRecDepth 100000
set_option maxHeartbeats 2000000
namespace Ru
open PySem PySem.Spec PyProof.Rows L2
section
variable {X : Cx}
/-- del xs[a:] -/
def tDelFrom (to ti : TE) : TS := fun D σ H => to σ H fun x H1 => ti σ H1 fun y H2 => ∃ (l : Addr) (xs : List V) (a : Nat), x = .ref l ∧ y = .int (a : Int) ∧ H2 l = some (.lst xs) ∧ a ≤ xs.length ∧ D.nx σ (upd H2 l (.lst (xs.take a)))
theorem ps_delFrom {o i : Expr} {to ti : TE} {tpos p2 pos : Pos} (ho : PE X o to) (hi : PE X i ti) : PS X (.Delete [.Subscript o (.Slice (some i) none none p2) tpos] pos) (tDelFrom to ti) := by
  refine ⟨fun pins s σ H D I h => ?_⟩
  refine wpAny_Delete (wpAny_deleteEach_cons (wpAny_delete_Subscript (thn (ho.run pins s σ H _ I h) fun u s1 ⟨x, H1, I1, rx, q1⟩ => ?_)))
  refine wpAny_Slice ?_
  rw [evalPart_some]
  refine thn (hi.run pins s1 σ H1 _ I1 q1) fun iv s2 ⟨y, H2, I2, ry, q2⟩ => ?_
  rw [evalPart_none]
  refine wpAny_pure (wpAny_pure ?_)
  obtain ⟨l, xs, a, ex, ey, hH, ha, q2⟩ := q2
  subst ex
  subst ey
  cases (show u = Value.ref l from rx)
  obtain ⟨t, rfl⟩ := (show ∃ t, iv = Value.int (a : Int) t from ry)
  have I3 : Inv X pins σ H2 { s2 with heap := s2.heap.push { cls := .type "slice", data := .fields #[.int (a : Int) t, .none, .none] } } := I2.kept (t' := s2.toks) fun b ob q => Heap.get?_push_of_some _ q
  obtain ⟨z, its, n, r, hl, e⟩ := I3.lstM hH
  refine delItem_from (its := its) e (Heap.IsSliceOf.new ..) (.int _ _) (by rw [← hl]; exact ha) (by rw [← hl]; exact z) fun f hf => ?_
  refine wpAny_deleteEach_nil ⟨σ, _, ?_, q2⟩
  refine I3.lset (its' := its.take a) (t' := s2.toks) hH e hf (r.take a) ?_
  rw [List.length_take]
  omega

set_option maxRecDepth 8000 in
theorem list_extend_tupA (l : Addr) (items : Array Value) (n : Nat) (b : Addr) (items2 : Array Value) (n2 : Nat) (dd : Option Addr) (sl : Array (Option Value)) (hs0 : ¬(!items.isEmpty && Builtin.List.listTooLong (items.size + items2.size)) = true) (hs1 : items.size ≤ sizeLine) (hs2 : items.size + items2.size ≤ sizeLine + 1) :
    Meets (Builtin.«list.extend» ⟨[.ref l, .ref b], []⟩) (fun _ R s => s.heap.get? l = some { cls := .type "list", dict := none, data := .seq items n, slots := #[] } ∧ s.heap.get? b = some { cls := .type "tuple", dict := dd, data := .seq items2 n2, slots := sl } ∧ R (.ok (.ret Value.none)) { s with heap := s.heap.update l (Obj.mapSeq fun x => x ++ items2), toks := s.toks }) :=
  .of_wp fun prog w A R s h => by
    obtain ⟨hp, g, d, tk, os⟩ := s; obtain ⟨hl, hb, h⟩ := h
    have f1 := PySem.AutoSeq1.idx_int; have f2 := PySem.AutoSeq1.sub_tuple_tuple; have f3 := PySem.AutoSeq1.sub_list_list; have f4 := PySem.AutoSeq1.sub_tuple_list; have f5 := PySem.AutoSeq1.sub_list_tuple
    have hz' : (items ++ items2).size ≤ sizeLine + 1 := by rw [Array.size_append]; exact hs2
    wp_walk using (wpAny_updateSeq hl rfl (hz := hs1) (_hz' := hz')), wpAny_loadPart' hl, wpAny_loadPart' hb; exact ⟨_, rfl, h⟩
/-- xs.extend(t), t a tuple -/
def rExtendT (K : PySem.W.Frag) : V → List V → Hp → VK → Prop := fun x vs H Q => ∃ l b xs zs, x = .ref l ∧ vs = [.ref b] ∧ H l = some (.lst xs) ∧ SqT K H b zs ∧ xs.length + zs.length ≤ sizeLine ∧ Q .non (upd H l (.lst (xs ++ zs)))
theorem mt_extendT : MtM X "list.extend" (rExtendT X.K) := by
  intro pins s σ H x vs v us Q I rx rv h
  obtain ⟨l, b, xs, zs, rfl, rfl, hH, hB, hz, q⟩ := h
  cases rx
  obtain ⟨u, rfl, ru⟩ := rv.one
  cases ru
  obtain ⟨z, its, n, r, hl, e⟩ := I.lstM hH
  obtain ⟨its2, r2, ⟨⟨oc, od, dt, sl⟩, e2, hc2, n2, hd2⟩, z2⟩ := I.tuple hB
  simp only at hc2 hd2
  subst hc2 hd2
  have hl2 := r2.length
  have hsz : its.toArray.size + its2.toArray.size ≤ sizeLine := by rw [List.size_toArray, List.size_toArray]; omega
  have hlong : ¬ (!its.toArray.isEmpty && Builtin.List.listTooLong (its.toArray.size + its2.toArray.size)) = true := by
    rw [notLongL hsz, Bool.and_false]
    exact Bool.false_ne_true
  refine call_meets F.slot_list_extend ⟨_, e, rfl⟩ F.entry_list_extend (F.args_list_extend_2 _ _)
    (list_extend_tupA l its.toArray n b its2.toArray n2 od sl hlong (by rw [List.size_toArray]; omega) (by omega)) ⟨e, e2, ?_⟩
  refine ⟨.non, _, I.lset (its' := its ++ its2) hH e (by simp) (r.append r2) ?_, rfl, q⟩
  rw [List.length_append]
  omega

/-- == of data, m deep at most -/
def rEqM (K : PySem.W.Frag) (m : Nat) : R2 := fun x y H Q => ∃ d e, Dp K H x d ∧ Dp K H y e ∧ d.canLay0 = true ∧ e.canLay0 = true ∧ min d.depth e.depth ≤ m ∧ Q (.bl (PyData.eqv d e)) H
theorem op_eqM {m : Nat} (hu : X.A.units + m < cLine) : OpR X (compareOp .Eq) (rEqM X.K m) := by
  intro pins s σ H x y v u Q I rx ry h
  obtain ⟨d, e, hd, he, sd, se, hm, q⟩ := h
  obtain ⟨as, r1⟩ := Dp.reads I d x v hd rx
  obtain ⟨bs, r2⟩ := Dp.reads I e y u he ry
  exact SeqAt.compareEq_reads r1 r2 sd se (by omega) ⟨.bl _, H, I, rfl, q⟩
end

/-! ### two dicts with tuples as keys that hold the same pairs -/
section
variable {prog : Program} {w : World} {A : Around} {E : Value → Shared → Prop} {s : Shared} {κ : Type} [DecidableEq κ] {knd : HeapKind prog w κ}
theorem nodup_get {α : Type} {l : List α} (hn : l.Nodup) {i j : Nat} {x : α} (h1 : l[i]? = some x) (h2 : l[j]? = some x) : i = j := by
  obtain ⟨a1, e1⟩ := List.getElem?_eq_some_iff.mp h1
  obtain ⟨a2, e2⟩ := List.getElem?_eq_some_iff.mp h2
  exact (List.getElem_inj hn).mp (e1.trans e2.symm)
theorem samePairsT {nm : String} {a b : Addr} {xs ys : List (κ × Addr × Value)} {Q : Bool → Shared → Prop} (hr : knd.room A) (ha : (a == sysModules) = false) (hb : (b == sysModules) = false)
    (da : s.heap.DictOfH knd a xs) (db : s.heap.DictOfH knd b ys) (hsame : xs.map (fun x => (x.1, x.2.2)) = ys.map (fun x => (x.1, x.2.2))) (h : Q true s) :
    wpAny (model prog w) A (Builtin.Dict.samePairs nm a b) Q E s := by
  obtain ⟨oa, es, ep, hoa, _, hda, hea, hia, hna⟩ := da
  obtain ⟨ob, es', ep', hob, _, hdb, heb, hib, hnb⟩ := db
  have hla := size_of_entries hea
  have hlb := size_of_entries heb
  have hlen : xs.length = ys.length := by simpa using congrArg List.length hsame
  unfold Builtin.Dict.samePairs Builtin.Dict.showsAll
  rw [if_neg (show ¬ (a == sysModules) = true by rw [ha]; exact Bool.false_ne_true), if_neg (show ¬ (b == sysModules) = true by rw [hb]; exact Bool.false_ne_true)]
  refine wpAny_bind (wpAny_pure (wpAny_bind (wpAny_pure ?_)))
  refine wpAny_bind (wpAny_dictEntries hoa hda ?_)
  dsimp only
  refine wpAny_bind (wpAny_dictEntries hob hdb ?_)
  rw [if_neg (by rw [hla, hlb, hlen]; simp)]
  refine wpAny_bind (wpAny_dictEpoch hoa hda ?_)
  refine wpAny_bind ?_
  rw [Std.Legacy.Range.forIn_eq_forIn_range']
  simp only [Std.Legacy.Range.size, Nat.sub_zero, Nat.add_sub_cancel, Nat.div_one]
  refine wpAny_forIn_list _
    (fun rest q s' => s' = s ∧ q = (none, ()) ∧ ∃ i, rest = List.range' i (es.size - i) ∧ i ≤ es.size)
    _ ?_ ?_ _ _ ⟨rfl, rfl, 0, by simp, Nat.zero_le _⟩
  · rintro x rest q s' ⟨rfl, rfl, i, hr', hi⟩
    have hlt : i < es.size := by
      rcases Nat.lt_or_ge i es.size with h | h
      · exact h
      · rw [Nat.sub_eq_zero_of_le h] at hr'; simp at hr'
    obtain ⟨rfl, hrest⟩ : x = i ∧ rest = List.range' (i + 1) (es.size - (i + 1)) := by
      have e : es.size - i = (es.size - (i + 1)) + 1 := by omega
      rw [e, List.range'_succ] at hr'
      injection hr' with h1 h2
      exact ⟨h1, h2⟩
    refine wpAny_bind (wpAny_dictEntries hoa hda ?_)
    have hltx : x < xs.length := by rw [← hla]; exact hlt
    have hex : es[x]? = some (entryOfKey knd xs[x]) := by rw [entry_at hea, List.getElem?_eq_getElem hltx]; rfl
    rw [hex]
    have hmem : xs[x] ∈ xs := List.getElem_mem hltx
    have hkey := hia _ hmem
    have hy : ∃ p, ys[x]? = some (xs[x].1, p) ∧ p.2 = xs[x].2.2 := by
      have hlty : x < ys.length := by omega
      have e1 : (ys.map (fun x => (x.1, x.2.2)))[x]? = some (xs[x].1, xs[x].2.2) := by rw [← hsame, List.getElem?_map, List.getElem?_eq_getElem hltx]; rfl
      rw [List.getElem?_map, List.getElem?_eq_getElem hlty] at e1
      have e2 : (ys[x].1, ys[x].2.2) = (xs[x].1, xs[x].2.2) := Option.some.inj e1
      refine ⟨ys[x].2, ?_, (Prod.mk.inj e2).2⟩
      rw [List.getElem?_eq_getElem hlty]
      have e3 : ys[x].1 = xs[x].1 := (Prod.mk.inj e2).1
      rw [← e3]
    obtain ⟨p, hp1, hp2⟩ := hy
    show wpAny _ _ (holding [Value.ref xs[x].2.1, xs[x].2.2] _ >>= _) _ _ _
    refine wpAny_bind (wpAny_holding (wpAny_bind (wpAny_dictFind_heap (knd := knd) (k := xs[x].1) hr hkey hob hdb heb hib hnb (fun hno => absurd hp1 (hno x p)) fun j q hj => ?_)))
    have hq : q.2 = xs[x].2.2 := by
      have hjl := (List.getElem?_eq_some_iff.mp hj).1
      have hxl := (List.getElem?_eq_some_iff.mp hp1).1
      have ej : j = x := by
        have n1 : (ys.map (·.1))[j]? = some xs[x].1 := by rw [List.getElem?_map, hj]; rfl
        have n2 : (ys.map (·.1))[x]? = some xs[x].1 := by rw [List.getElem?_map, hp1]; rfl
        exact nodup_get hnb n1 n2
      subst ej
      rw [hp1] at hj
      have := Option.some.inj hj
      have e4 : p = q := congrArg Prod.snd this
      rw [← e4]; exact hp2
    refine wpAny_bind (wpAny_dictEntries hob hdb ?_)
    have hej : es'[j]? = some (entryOfKey knd (xs[x].1, q)) := by rw [entry_at heb, hj]; rfl
    rw [hej]
    show wpAny _ _ (holding [q.2] (eqBool xs[x].2.2 q.2)) _ _ _
    rw [hq]
    refine wpAny_holding (SeqAt.EqAt.same _ _ _ _ _ ?_)
    show wpAny _ _ (if (!true) = true then _ else _) _ _ _
    rw [if_neg (by decide)]
    refine wpAny_bind (wpAny_dictEpoch hoa hda ?_)
    rw [if_neg (by simp)]
    exact wpAny_pure ⟨rfl, rfl, x + 1, hrest, hlt⟩
  · rintro q s' ⟨rfl, rfl, i, hr', hi⟩
    exact wpAny_pure h
theorem keqT_ne {a b : Addr} {xs ys : List (κ × Addr × Value)} {Q : Value → Shared → Prop} (hr : knd.room A.in1) (ha : (a == sysModules) = false) (hb : (b == sysModules) = false)
    (da : s.heap.DictOfH knd a xs) (db : s.heap.DictOfH knd b ys) (hsame : xs.map (fun x => (x.1, x.2.2)) = ys.map (fun x => (x.1, x.2.2))) (hu : A.units < cLine) (h : Q (.bool false) s) :
    wpAny (model prog w) A (compareOp .NotEq (.ref a) (.ref b)) Q E s := by
  refine wpAny_richCompare_same_room (op := .NotEq) da.typeIs db.typeIs PySem.F.slot_dict_ne (wpAny_call_entry PySem.F.slot_dict_ne da.typeIs PySem.F.entry_dict_ne ?_ (PySem.F.args_dict_ne_2 _ _)) hu
  show wpAny _ _ (Builtin.Dict.dictSlotArgs "__ne__" ⟨[.ref a, .ref b], []⟩ >>= _) _ _ s
  refine wpAny_bind ?_
  unfold Builtin.Dict.dictSlotArgs
  refine wpAny_bind (wpAny_notOrdered_dict da.typeIs ?_)
  show wpAny _ _ (pure (Value.ref a, Value.ref b)) _ _ s
  refine wpAny_pure ?_
  refine wpAny_bind (wpAny_isInstance (T := "dict") db.typeIs PySem.F.sub_dict_dict ?_)
  simp only [Bool.not_true, Bool.false_eq_true, if_false]
  refine wpAny_bind (wpAny_pure (wpAny_bind (wpAny_pure ?_)))
  refine wpAny_bind (samePairsT hr ha hb da db hsame ?_)
  refine wpAny_pure ⟨_, rfl, ?_, ?_⟩
  · exact fun x => nomatch x
  · simpa using h
end
section
variable {X : Cx}
/-- a != b of two dicts with tuple keys that hold the same objects -/
def rNeT : R2 := fun x y H Q => ∃ a b kvs, x = .ref a ∧ y = .ref b ∧ H a = some (.dT kvs) ∧ H b = some (.dT kvs) ∧ (∀ p ∈ kvs, ∃ c, p.2 = .ref c) ∧ Q (.bl false) H
theorem same_vals {H : Hp} : ∀ {kvs : List (List Key × V)} {xs ys : List (List Key × Addr × Value)}, KT H kvs xs → KT H kvs ys → (∀ p ∈ kvs, ∃ c, p.2 = .ref c) → xs.map (fun x => (x.1, x.2.2)) = ys.map (fun x => (x.1, x.2.2))
  | _, _, _, .nil, .nil, _ => rfl
  | _, _, _, .cons (a := p) a r, .cons b q, h => by
    obtain ⟨c, e⟩ := h _ List.mem_cons_self
    have ih := same_vals r q fun p hp => h p (List.mem_cons_of_mem _ hp)
    obtain ⟨a1, _, a2⟩ := a
    obtain ⟨b1, _, b2⟩ := b
    rw [e] at a2 b2
    have a2 := (show _ = Value.ref c from a2)
    have b2 := (show _ = Value.ref c from b2)
    rw [List.map_cons, List.map_cons, ih, ← a1, ← b1, a2, b2]
theorem op_neT (hu : X.A.units + 1 < cLine) : OpR X (compareOp .NotEq) rNeT := by
  intro pins s σ H x y v u Q I rx ry h
  obtain ⟨a, b, kvs, rfl, rfl, ea, eb, hv, q⟩ := h
  obtain rfl : v = Value.ref a := rx
  obtain rfl : u = Value.ref b := ry
  obtain ⟨_, ya, xa, ra, da⟩ := dt_of I.hok ea
  obtain ⟨_, yb, xb, rb, db⟩ := dt_of I.hok eb
  exact keqT_ne (knd := tupleKind (mixKind X.prog X.w)) (tupleKind_room_in1 hu) ya yb da db (same_vals ra rb hv) (by omega) ⟨.bl _, H, I, rfl, q⟩
end
end Ru

set_option Elab.async false
set_option linter.all false
set_option maxRecDepth 100000
set_option maxHeartbeats 2000000
/-! How cells, rows and what was built stand in the heap. -/
namespace Rp
open PySem PySem.Spec PyProof.Rows L2 Ru Mch
/-- tuples that can be read stay -/
def TEx (H H' : Hp) : Prop := ∀ a xs, Rd H a (.tup xs) → Rd H' a (.tup xs)
theorem TEx.refl (H : Hp) : TEx H H := fun _ _ h => h
theorem TEx.trans {H H1 H2 : Hp} (a : TEx H H1) (b : TEx H1 H2) : TEx H H2 := fun x o h => b x o (a x o h)
theorem TEx.of_same {H H' : Hp} (e : Same H H') : TEx H H' := fun a xs h => by
  rcases h with h | ⟨o, h⟩
  · exact Or.inl (e a _ h)
  · exact Or.inr ⟨o, e a _ h⟩
/-- a list that is written leaves the tuples -/
theorem TEx.upd_lst {H : Hp} {l : Addr} {xs ys : List V} (h : H l = some (.lst xs)) : TEx H (upd H l (.lst ys)) := fun a zs r => by
  have ne : a ≠ l := by
    rintro rfl
    rcases r with r | ⟨o, r⟩ <;> (rw [h] at r; cases r)
  rcases r with r | ⟨o, r⟩
  · exact Or.inl (by rw [upd_ne ne]; exact r)
  · exact Or.inr ⟨o, by rw [upd_ne ne]; exact r⟩
theorem TEx.upd_new {H : Hp} {l : Addr} {o : HO} (h : H l = none) : TEx H (upd H l o) := TEx.of_same fun b u e => by
  rw [upd_ne (ne_of_none e h)]; exact e
theorem TEx.sq {K : PySem.W.Frag} {H H' : Hp} {a : Addr} {xs : List V} (e : TEx H H') (h : SqT K H a xs) : SqT K H' a xs := by
  rcases h with h | h
  · exact Or.inl (e _ _ h)
  · exact Or.inr h
/-- all but the objects at l, m stand -/
def But2 (H H' : Hp) (l m : Addr) : Prop := ∀ b o, H b = some o → b ≠ l → b ≠ m → H' b = some o
theorem TEx.but2 {H H' : Hp} {l m : Addr} {xs ys : List V} (hl : H l = some (.lst xs)) (hm : H m = some (.lst ys)) (k : But2 H H' l m) : TEx H H' := fun a zs r => by
  have n1 : a ≠ l := by
    rintro rfl
    rcases r with r | ⟨o, r⟩ <;> (rw [hl] at r; cases r)
  have n2 : a ≠ m := by
    rintro rfl
    rcases r with r | ⟨o, r⟩ <;> (rw [hm] at r; cases r)
  rcases r with r | ⟨o, r⟩
  · exact Or.inl (k _ _ r n1 n2)
  · exact Or.inr ⟨o, k _ _ r n1 n2⟩

section
variable (K : PySem.W.Frag)
mutual
def CellAt (H : Hp) : V → Cell → Prop
  | v, .mk n cs => ∃ a b vs, v = .ref a ∧ SqT K H a [.int n, .ref b] ∧ SqT K H b vs ∧ CellsAt H vs cs
def CellsAt (H : Hp) : List V → List Cell → Prop
  | vs, [] => vs = []
  | vs, c :: r => ∃ v q, vs = v :: q ∧ CellAt H v c ∧ CellsAt H q r
end
end
section
variable {K : PySem.W.Frag} {H H' : Hp}
mutual
theorem CellAt.mono (e : TEx H H') : ∀ (c : Cell) (v : V), CellAt K H v c → CellAt K H' v c
  | .mk n cs, v, h => by
    unfold CellAt at h ⊢
    obtain ⟨a, b, vs, rfl, h1, h2, h3⟩ := h
    exact ⟨a, b, vs, rfl, e.sq h1, e.sq h2, CellsAt.mono e cs vs h3⟩
theorem CellsAt.mono (e : TEx H H') : ∀ (cs : List Cell) (vs : List V), CellsAt K H vs cs → CellsAt K H' vs cs
  | [], vs, h => by
    unfold CellsAt at h ⊢
    exact h
  | c :: r, vs, h => by
    unfold CellsAt at h ⊢
    obtain ⟨v, q, rfl, h1, h2⟩ := h
    exact ⟨v, q, rfl, CellAt.mono e c v h1, CellsAt.mono e r q h2⟩
end
theorem CellAt.to (e : TEx H H') {c : Cell} {v : V} (h : CellAt K H v c) : CellAt K H' v c := CellAt.mono e c v h
theorem CellsAt.to (e : TEx H H') {c : List Cell} {v : List V} (h : CellsAt K H v c) : CellsAt K H' v c := CellsAt.mono e c v h
theorem cellAt_mk {v : V} {n : Int} {cs : List Cell} : CellAt K H v (.mk n cs) ↔ ∃ a b vs, v = .ref a ∧ SqT K H a [.int n, .ref b] ∧ SqT K H b vs ∧ CellsAt K H vs cs := by unfold CellAt; exact Iff.rfl
theorem cells_nil {vs : List V} : CellsAt K H vs [] ↔ vs = [] := by unfold CellsAt; exact Iff.rfl
theorem cells_cons {vs : List V} {c : Cell} {r : List Cell} : CellsAt K H vs (c :: r) ↔ ∃ v q, vs = v :: q ∧ CellAt K H v c ∧ CellsAt K H q r := by rw [CellsAt]
theorem cells_len : ∀ {cs : List Cell} {vs : List V}, CellsAt K H vs cs → vs.length = cs.length
  | [], vs, h => by rw [cells_nil.mp h]; rfl
  | c :: r, vs, h => by
    obtain ⟨v, q, rfl, _, h2⟩ := cells_cons.mp h
    simp [cells_len h2]
theorem cells_append : ∀ {cs ds : List Cell} {vs ws : List V}, CellsAt K H vs cs → CellsAt K H ws ds → CellsAt K H (vs ++ ws) (cs ++ ds)
  | [], _, vs, ws, h, g => by rw [cells_nil.mp h]; exact g
  | c :: r, ds, vs, ws, h, g => by
    obtain ⟨v, q, rfl, h1, h2⟩ := cells_cons.mp h
    exact cells_cons.mpr ⟨v, q ++ ws, rfl, h1, cells_append h2 g⟩
theorem cells_split : ∀ {cs ds : List Cell} {vs : List V}, CellsAt K H vs (cs ++ ds) → ∃ us ws, vs = us ++ ws ∧ CellsAt K H us cs ∧ CellsAt K H ws ds
  | [], _, vs, h => ⟨[], vs, rfl, cells_nil.mpr rfl, h⟩
  | c :: r, ds, vs, h => by
    obtain ⟨v, q, rfl, h1, h2⟩ := cells_cons.mp h
    obtain ⟨us, ws, rfl, g1, g2⟩ := cells_split h2
    exact ⟨v :: us, ws, rfl, cells_cons.mpr ⟨v, us, rfl, h1, g1⟩, g2⟩
theorem cells_one {v : V} {c : Cell} : CellAt K H v c → CellsAt K H [v] [c] := fun h => cells_cons.mpr ⟨v, [], rfl, h, cells_nil.mpr rfl⟩
theorem cells_snoc {cs : List Cell} {vs : List V} {c : Cell} {v : V} (h : CellsAt K H vs cs) (g : CellAt K H v c) : CellsAt K H (vs ++ [v]) (cs ++ [c]) := cells_append h (cells_one g)
theorem cells_last {cs : List Cell} {vs : List V} {c : Cell} (h : CellsAt K H vs (cs ++ [c])) : ∃ q v, vs = q ++ [v] ∧ CellsAt K H q cs ∧ CellAt K H v c := by
  obtain ⟨us, ws, rfl, g1, g2⟩ := cells_split h
  obtain ⟨v, q, rfl, h1, h2⟩ := cells_cons.mp g2
  rw [cells_nil.mp h2]
  exact ⟨us, v, rfl, g1, h1⟩
theorem cells_get : ∀ {cs : List Cell} {vs : List V} {i : Nat} {c : Cell}, CellsAt K H vs cs → cs[i]? = some c → ∃ v, vs[i]? = some v ∧ CellAt K H v c
  | [], _, i, c, _, e => by simp at e
  | d :: r, vs, 0, c, h, e => by
    obtain ⟨v, q, rfl, h1, h2⟩ := cells_cons.mp h
    have e' : d = c := by simpa using e
    subst e'
    exact ⟨v, rfl, h1⟩
  | d :: r, vs, i + 1, c, h, e => by
    obtain ⟨v, q, rfl, h1, h2⟩ := cells_cons.mp h
    obtain ⟨w, e1, e2⟩ := cells_get (i := i) h2 (by simpa using e)
    exact ⟨w, by simpa using e1, e2⟩
theorem cells_take : ∀ {cs : List Cell} {vs : List V} (n : Nat), CellsAt K H vs cs → CellsAt K H (vs.take n) (cs.take n)
  | _, _, 0, _ => by simp [cells_nil]
  | [], vs, n + 1, h => by rw [cells_nil.mp h]; simp [cells_nil]
  | c :: r, vs, n + 1, h => by
    obtain ⟨v, q, rfl, h1, h2⟩ := cells_cons.mp h
    exact cells_cons.mpr ⟨v, q.take n, rfl, h1, cells_take n h2⟩
theorem cells_drop : ∀ {cs : List Cell} {vs : List V} (n : Nat), CellsAt K H vs cs → CellsAt K H (vs.drop n) (cs.drop n)
  | _, _, 0, h => h
  | [], vs, n + 1, h => by rw [cells_nil.mp h]; simp [cells_nil]
  | c :: r, vs, n + 1, h => by
    obtain ⟨v, q, rfl, h1, h2⟩ := cells_cons.mp h
    exact cells_drop n h2
theorem cellAt_ref {v : V} {c : Cell} (h : CellAt K H v c) : ∃ a, v = .ref a := by
  cases c with
  | mk n cs =>
    obtain ⟨a, _, _, rfl, _⟩ := cellAt_mk.mp h
    exact ⟨a, rfl⟩
end

/-! ### cells as data -/
mutual
def cellD : Cell → PyData
  | .mk n cs => .tuple [.int n, .tuple (cellsD cs)]
def cellsD : List Cell → List PyData
  | [] => []
  | c :: r => cellD c :: cellsD r
end
mutual
theorem cell_dp {K : PySem.W.Frag} {H : Hp} : ∀ (c : Cell) (v : V), CellAt K H v c → Dp K H v (cellD c)
  | .mk n cs, v, h => by
    obtain ⟨a, b, vs, rfl, h1, h2, h3⟩ := cellAt_mk.mp h
    unfold cellD
    exact .tup h1 (.cons (.int n) (.cons (.tup h2 (cells_dp cs vs h3)) .nil))
theorem cells_dp {K : PySem.W.Frag} {H : Hp} : ∀ (cs : List Cell) (vs : List V), CellsAt K H vs cs → DpAll K H vs (cellsD cs)
  | [], vs, h => by
    rw [cells_nil.mp h]; unfold cellsD; exact .nil
  | c :: r, vs, h => by
    obtain ⟨v, q, rfl, h1, h2⟩ := cells_cons.mp h
    unfold cellsD
    exact .cons (cell_dp c v h1) (cells_dp r q h2)
end
mutual
theorem cell_eqv : ∀ (c d : Cell), PyData.eqv (cellD c) (cellD d) = c.eqb d
  | .mk n cs, .mk m ds => by
    have ih := cells_eqv cs ds
    simp only [cellD, PyData.eqv, PyData.eqvAll, Cell.eqb, ih, Bool.and_true, Bool.beq_eq_decide_eq]
theorem cells_eqv : ∀ (cs ds : List Cell), PyData.eqvAll (cellsD cs) (cellsD ds) = eqbs cs ds
  | [], [] => by simp [cellsD, PyData.eqvAll, eqbs]
  | c :: r, d :: q => by
    have h1 := cell_eqv c d
    have h2 := cells_eqv r q
    simp [cellsD, PyData.eqvAll, eqbs, h1, h2]
  | [], _ :: _ => by simp [cellsD, PyData.eqvAll, eqbs]
  | _ :: _, [] => by simp [cellsD, PyData.eqvAll, eqbs]
end
mutual
theorem cell_can : ∀ c : Cell, (cellD c).canLay0 = true
  | .mk n cs => by
    have ih := cells_can cs
    simp [cellD, PyData.canLay0, PyData.canLayAll0, ih]
theorem cells_can : ∀ cs : List Cell, PyData.canLayAll0 (cellsD cs) = true
  | [] => by simp [cellsD, PyData.canLayAll0]
  | c :: r => by simp [cellsD, PyData.canLayAll0, cell_can c, cells_can r]
end
mutual
theorem cell_depth : ∀ c : Cell, (cellD c).depth ≤ 2 * c.depth
  | .mk n cs => by
    have ih := cells_depth cs
    simp only [cellD, PyData.depth, PyData.depthAll, Cell.depth]
    omega
theorem cells_depth : ∀ cs : List Cell, PyData.depthAll (cellsD cs) ≤ 2 * depths cs
  | [] => by simp [cellsD, PyData.depthAll]
  | c :: r => by
    have h1 := cell_depth c
    have h2 := cells_depth r
    simp only [cellsD, PyData.depthAll, depths]
    omega
end

/-! ### rows, what was built -/
abbrev Nm := Str × Str
def rowV : Row Nm → List V
  | .loc n => [.str "local", .int (n : Int)]
  | .drop => [.str "drop"]
  | .keep => [.str "keep"]
  | .forget n => [.str "forget", .int (n : Int)]
  | .part n => [.str "part", .int (n : Int)]
  | .make m n => [.str "make", .int m, .int (n : Int)]
  | .same => [.str "same"]
  | .call f n => [.str "call", .str f.1, .str f.2, .int (n : Int)]
  | .isr m to => [.str "is", .int m, .int (to : Int)]
  | .go to => [.str "go", .int (to : Int)]
  | .back => [.str "back"]
section
variable (K : PySem.W.Frag) (H : Hp)
def RowAt (v : V) (r : Row Nm) : Prop := ∃ a, v = .ref a ∧ SqT K H a (rowV r)
def RowsOf : List V → List (Row Nm) → Prop := Paired (RowAt K H)
def RowsAt (v : V) (rs : List (Row Nm)) : Prop := ∃ a vs, v = .ref a ∧ SqT K H a vs ∧ RowsOf K H vs rs
/-- (givens, rows) -/
def DefAt (v : V) (g : Nat) (rs : List (Row Nm)) : Prop := ∃ a r, v = .ref a ∧ SqT K H a [.int (g : Int), r] ∧ RowsAt K H r rs
def keyOf (f : Nm) : List Key := [Sum.inr f.1, Sum.inr f.2]
def BuiltOf (kvs : List (List Key × V)) (B : Built Nm) : Prop := ∀ f, (B f = none → valV kvs (keyOf f) = none) ∧ ∀ g rs, B f = some (g, rs) → ∃ v, valV kvs (keyOf f) = some v ∧ DefAt K H v g rs
end
section
variable {K : PySem.W.Frag} {H H' : Hp}
theorem RowAt.to (e : TEx H H') {v : V} {r : Row Nm} (h : RowAt K H v r) : RowAt K H' v r := by
  obtain ⟨a, rfl, h⟩ := h
  exact ⟨a, rfl, e.sq h⟩
theorem RowsOf.to (e : TEx H H') {vs : List V} {rs : List (Row Nm)} (h : RowsOf K H vs rs) : RowsOf K H' vs rs := L2.Paired.mapP h fun _ _ q => q.to e
theorem RowsAt.to (e : TEx H H') {v : V} {rs : List (Row Nm)} (h : RowsAt K H v rs) : RowsAt K H' v rs := by
  obtain ⟨a, vs, rfl, h1, h2⟩ := h
  exact ⟨a, vs, rfl, e.sq h1, h2.to e⟩
theorem DefAt.to (e : TEx H H') {v : V} {g : Nat} {rs : List (Row Nm)} (h : DefAt K H v g rs) : DefAt K H' v g rs := by
  obtain ⟨a, r, rfl, h1, h2⟩ := h
  exact ⟨a, r, rfl, e.sq h1, h2.to e⟩
theorem BuiltOf.to (e : TEx H H') {kvs : List (List Key × V)} {B : Built Nm} (h : BuiltOf K H kvs B) : BuiltOf K H' kvs B := fun f =>
  ⟨(h f).1, fun g rs q => by
    obtain ⟨v, h1, h2⟩ := (h f).2 g rs q
    exact ⟨v, h1, h2.to e⟩⟩
theorem paired_get {α β : Type} {F : α → β → Prop} : ∀ {xs : List α} {ys : List β} {i : Nat} {y : β}, Paired F xs ys → ys[i]? = some y → ∃ x, xs[i]? = some x ∧ F x y
  | _, _, _, _, .nil, e => by simp at e
  | _, _, 0, y, .cons (a := a) (b := b) f r, e => by
    have : b = y := by simpa using e
    subst this
    exact ⟨a, rfl, f⟩
  | _, _, i + 1, y, .cons f r, e => by
    obtain ⟨x, h1, h2⟩ := paired_get (i := i) r (by simpa using e)
    exact ⟨x, by simpa using h1, h2⟩
theorem paired_append {α β : Type} {F : α → β → Prop} : ∀ {xs zs : List α} {ys ws : List β}, Paired F xs ys → Paired F zs ws → Paired F (xs ++ zs) (ys ++ ws)
  | _, _, _, _, .nil, h => h
  | _, _, _, _, .cons f r, h => .cons f (paired_append r h)
theorem keyOf_map (f : Nm) : (keyOf f).map kV = [V.str f.1, V.str f.2] := rfl
theorem keyOf_inj {f g : Nm} (h : keyOf f = keyOf g) : f = g := by
  obtain ⟨a, b⟩ := f
  obtain ⟨c, d⟩ := g
  unfold keyOf at h
  injection h with h1 h2
  injection h2 with h2 _
  injection h1 with h1
  injection h2 with h2
  have e1 : a = c := h1
  have e2 : b = d := h2
  rw [e1, e2]
end
end Rp

set_option linter.all false
set_option maxRecDepth 100000
/-! The machine with its three bounds: states, one row, the ways to end. -/
namespace Mch
inductive Bad where | name | value | long
inductive Out where | val (v : Cell) | bad (e : Bad)
structure S (N : Type) where
  fs : List (Frame N)
  rows : List (Row N)
  i : Nat
  held : List Cell
  st : List Cell
  calls : Nat
  done : Nat
def Row.isCall {N : Type} : Row N → Bool
  | .call _ _ => true
  | _ => false
section
variable {N : Type}
/-- one row, with no end -/
inductive StepR (B : Built N) : S N → S N → Prop
  | simp {fs rows i held st r held' st' c d} : rows[i]? = some r → Simp1 r held st held' st' → c ≤ 100000 → d + 1 ≤ 1000000 → StepR B ⟨fs, rows, i, held, st, c, d⟩ ⟨fs, rows, i + 1, held', st', c, d + 1⟩
  | go {fs rows i held st to c d} : rows[i]? = some (.go to) → c ≤ 100000 → d + 1 ≤ 1000000 → StepR B ⟨fs, rows, i, held, st, c, d⟩ ⟨fs, rows, to, held, st, c, d + 1⟩
  | isr {fs rows i held m to n cs st c d} : rows[i]? = some (.isr m to) → c ≤ 100000 → d + 1 ≤ 1000000 → StepR B ⟨fs, rows, i, held, .mk n cs :: st, c, d⟩ ⟨fs, rows, if n = m then i + 1 else to, held, .mk n cs :: st, c, d + 1⟩
  | ret {fr fs rows i held w st c d} : rows[i]? = some .back → c ≤ 100000 → d + 1 ≤ 1000000 → StepR B ⟨fr :: fs, rows, i, held, w :: st, c, d⟩ ⟨fs, fr.rows, fr.i, fr.held, w :: fr.st, c, d + 1⟩
  | call {fs rows i held st f n rows' c d} : rows[i]? = some (.call f n) → n ≤ st.length → B f = some (n, rows') → c + 1 ≤ 100000 → d + 1 ≤ 1000000 →
      StepR B ⟨fs, rows, i, held, st, c, d⟩ ⟨⟨rows, i + 1, held, st.drop n⟩ :: fs, rows', 0, (st.take n).reverse, [], c + 1, d + 1⟩
/-- the ends -/
inductive EndR (B : Built N) : S N → Out → Prop
  | fin {rows i held v st c d} : rows[i]? = some .back → c ≤ 100000 → d + 1 ≤ 1000000 → EndR B ⟨[], rows, i, held, v :: st, c, d⟩ (.val v)
  | lack {fs rows i held st f n c d} : rows[i]? = some (.call f n) → n ≤ st.length → B f = none → d ≤ 1000000 → EndR B ⟨fs, rows, i, held, st, c, d⟩ (.bad .name)
  | wrong {fs rows i held st f n g rows' c d} : rows[i]? = some (.call f n) → n ≤ st.length → B f = some (g, rows') → g ≠ n → d ≤ 1000000 → EndR B ⟨fs, rows, i, held, st, c, d⟩ (.bad .value)
  | calls {fs rows i held st f n rows' c d} : rows[i]? = some (.call f n) → n ≤ st.length → B f = some (n, rows') → 100000 < c + 1 → d ≤ 1000000 → EndR B ⟨fs, rows, i, held, st, c, d⟩ (.bad .long)
  | rows {fs rows i held st r c d} : rows[i]? = some r → r.isCall = false → c ≤ 100000 → 1000000 < d + 1 → d ≤ 1000000 → EndR B ⟨fs, rows, i, held, st, c, d⟩ (.bad .long)
  | great {fs rows i held st m n c d} : rows[i]? = some (.make m n) → n ≤ st.length → 256 < 1 + sizes (st.take n) → sizes (st.take n) ≤ 90000 → c ≤ 100000 → d + 1 ≤ 1000000 → EndR B ⟨fs, rows, i, held, st, c, d⟩ (.bad .long)
/-- m rows, then the end o -/
inductive Ev (B : Built N) : Nat → S N → Out → Prop
  | fin {s o} : EndR B s o → Ev B 0 s o
  | step {m s s' o} : StepR B s s' → Ev B m s' o → Ev B (m + 1) s o
def Ends (B : Built N) (s : S N) (o : Out) : Prop := ∃ m, Ev B m s o
theorem Ev.bound {B : Built N} {m : Nat} {s : S N} {o : Out} (h : Ev B m s o) : s.done ≤ 1000000 → s.done + m ≤ 1000000 := by
  induction h with
  | fin _ => exact fun z => z
  | step s _ ih =>
    intro z
    have z2 := fun q => ih q
    cases s <;> (simp only at z2 z ⊢; omega)
theorem Ends.of_step {B : Built N} {s s' : S N} {o : Out} (h : StepR B s s') (e : Ends B s' o) : Ends B s o := by
  obtain ⟨m, e⟩ := e
  exact ⟨m + 1, .step h e⟩
theorem Ends.of_end {B : Built N} {s : S N} {o : Out} (h : EndR B s o) : Ends B s o := ⟨0, .fin h⟩
/-- a piece of a run within a frame, then what comes -/
theorem ends_run {B : Built N} {rows : List (Row N)} {i : Nat} {held st : List Cell} {v : Cell} {c d k h : Nat} (r : Run B rows i held st v c d k h) : ∀ (fr : Frame N) (fs : List (Frame N)) (c0 d0 : Nat) (o : Out), c0 + c ≤ 100000 → d0 + d ≤ 1000000 →
    Ends B ⟨fs, fr.rows, fr.i, fr.held, v :: fr.st, c0 + c, d0 + d⟩ o → Ends B ⟨fr :: fs, rows, i, held, st, c0, d0⟩ o := by
  induction r with
  | back e => intro fr fs c0 d0 o h1 h2 q; exact .of_step (.ret e (by omega) (by omega)) q
  | @simp _ _ _ _ _ _ _ _ c d k h e s _ ih =>
    intro fr fs c0 d0 o h1 h2 q
    refine .of_step (.simp e s (by omega) (by omega)) (ih fr fs c0 (d0 + 1) o (by omega) (by omega) ?_)
    rw [show d0 + 1 + d = d0 + (d + 1) by omega]; exact q
  | @go _ _ _ _ _ _ c d k h e _ ih =>
    intro fr fs c0 d0 o h1 h2 q
    refine .of_step (.go e (by omega) (by omega)) (ih fr fs c0 (d0 + 1) o (by omega) (by omega) ?_)
    rw [show d0 + 1 + d = d0 + (d + 1) by omega]; exact q
  | @isr _ _ _ _ _ _ _ _ _ c d k h e _ ih =>
    intro fr fs c0 d0 o h1 h2 q
    refine .of_step (.isr e (by omega) (by omega)) (ih fr fs c0 (d0 + 1) o (by omega) (by omega) ?_)
    rw [show d0 + 1 + d = d0 + (d + 1) by omega]; exact q
  | @call rows i held st f n rows' w c1 d1 k1 h1 v c d k h e hn hB _ hk _ ih1 ih2 =>
    intro fr fs c0 d0 o g1 g2 q
    refine .of_step (.call e hn hB (by omega) (by omega)) (ih1 ⟨rows, i + 1, held, st.drop n⟩ (fr :: fs) (c0 + 1) (d0 + 1) o (by omega) (by omega) ?_)
    refine ih2 fr fs (c0 + 1 + c1) (d0 + 1 + d1) o (by omega) (by omega) ?_
    rw [show c0 + 1 + c1 + c = c0 + (c1 + c + 1) by omega, show d0 + 1 + d1 + d = d0 + (d1 + d + 1) by omega]; exact q
/-- .. and of a piece that stays in its frame -/
theorem ends_steps {B : Built N} {rows : List (Row N)} {i j : Nat} {held st held2 st2 : List Cell} {c d k h : Nat} (r : Steps B rows i held st j held2 st2 c d k h) : ∀ (fs : List (Frame N)) (c0 d0 : Nat) (o : Out), c0 + c ≤ 100000 → d0 + d ≤ 1000000 →
    Ends B ⟨fs, rows, j, held2, st2, c0 + c, d0 + d⟩ o → Ends B ⟨fs, rows, i, held, st, c0, d0⟩ o := by
  induction r with
  | refl => intro fs c0 d0 o h1 h2 q; exact q
  | @simp _ _ _ _ _ _ _ _ _ c d k h e s _ ih =>
    intro fs c0 d0 o h1 h2 q
    refine .of_step (.simp e s (by omega) (by omega)) (ih fs c0 (d0 + 1) o (by omega) (by omega) ?_)
    rw [show d0 + 1 + d = d0 + (d + 1) by omega]; exact q
  | @go _ _ _ _ _ _ _ c d k h e _ ih =>
    intro fs c0 d0 o h1 h2 q
    refine .of_step (.go e (by omega) (by omega)) (ih fs c0 (d0 + 1) o (by omega) (by omega) ?_)
    rw [show d0 + 1 + d = d0 + (d + 1) by omega]; exact q
  | @isr _ _ _ _ _ _ _ _ _ _ c d k h e _ ih =>
    intro fs c0 d0 o h1 h2 q
    refine .of_step (.isr e (by omega) (by omega)) (ih fs c0 (d0 + 1) o (by omega) (by omega) ?_)
    rw [show d0 + 1 + d = d0 + (d + 1) by omega]; exact q
  | @call i held st f n rows' w c1 d1 k1 h1 j held2 st2 c d k h e hn hB r hk _ ih =>
    intro fs c0 d0 o g1 g2 q
    refine .of_step (.call e hn hB (by omega) (by omega)) (ends_run r ⟨rows, i + 1, held, st.drop n⟩ fs (c0 + 1) (d0 + 1) o (by omega) (by omega) ?_)
    refine ih fs (c0 + 1 + c1) (d0 + 1 + d1) o (by omega) (by omega) ?_
    rw [show c0 + 1 + c1 + c = c0 + (c1 + c + 1) by omega, show d0 + 1 + d1 + d = d0 + (d1 + d + 1) by omega]; exact q
/-- a whole run that comes to its end -/
theorem ends_top {B : Built N} {rows : List (Row N)} {i : Nat} {held st : List Cell} {v : Cell} {c d k h : Nat} (r : Run B rows i held st v c d k h) : ∀ (c0 d0 : Nat), c0 + c ≤ 100000 → d0 + d ≤ 1000000 → Ends B ⟨[], rows, i, held, st, c0, d0⟩ (.val v) := by
  induction r with
  | back e => intro c0 d0 h1 h2; exact .of_end (.fin e (by omega) (by omega))
  | simp e s _ ih => intro c0 d0 h1 h2; exact .of_step (.simp e s (by omega) (by omega)) (ih c0 (d0 + 1) (by omega) (by omega))
  | go e _ ih => intro c0 d0 h1 h2; exact .of_step (.go e (by omega) (by omega)) (ih c0 (d0 + 1) (by omega) (by omega))
  | isr e _ ih => intro c0 d0 h1 h2; exact .of_step (.isr e (by omega) (by omega)) (ih c0 (d0 + 1) (by omega) (by omega))
  | @call rows i held st f n rows' w c1 d1 k1 h1 v c d k h e hn hB r hk _ ih1 ih2 =>
    intro c0 d0 g1 g2
    exact .of_step (.call e hn hB (by omega) (by omega)) (ends_run r ⟨rows, i + 1, held, st.drop n⟩ [] (c0 + 1) (d0 + 1) _ (by omega) (by omega) (ih2 (c0 + 1 + c1) (d0 + 1 + d1) (by omega) (by omega)))
/-- what a run that is asked for comes to -/
inductive RunsTo (B : Built N) (f : N) (cells : List Cell) : Out → Prop
  | lack : B f = none → RunsTo B f cells (.bad .name)
  | wrong {g rows} : B f = some (g, rows) → g ≠ cells.length → RunsTo B f cells (.bad .value)
  | runs {rows o} : B f = some (cells.length, rows) → Ends B ⟨[], rows, 0, cells, [], 1, 0⟩ o → RunsTo B f cells o
end
end Mch

set_option Elab.async false
set_option linter.all false
set_option maxRecDepth 100000
set_option maxHeartbeats 4000000
namespace K90
open PySem PySem.Spec PyProof.Rows L2 Ru Rp Mch
def top (i : Nat) : Stmt := PySem.Challenge.pw_asiffresh_k90_calls_and_refusals.main.body.getD i (.Pass ⟨0, 0, 0, 0⟩)
abbrev s_popped : Stmt := top 10
abbrev s_rows_for : Stmt := top 17
abbrev s_is_great : Stmt := top 18
abbrev s_do_row : Stmt := top 19
abbrev s_run : Stmt := top 20
abbrev s__law_deck : Stmt := top 22
abbrev s__law_take : Stmt := top 23
abbrev s__law_alike : Stmt := top 24
abbrev s__law_word : Stmt := top 25
abbrev s__law_copy : Stmt := top 26
abbrev s__law_tree : Stmt := top 27
abbrev s__law_powers : Stmt := top 28
abbrev s__law_many_calls : Stmt := top 29
abbrev s__law_many_rows : Stmt := top 30
abbrev s__law_wide : Stmt := top 31
abbrev s__law_users : Stmt := top 32
abbrev s_law : Stmt := top 33
/-- what the top has written -/
structure Txt (K : PySem.W.Frag) (mg : Str → Option Value) where
  f_popped : Addr
  fd_popped : FuncData
  F_popped : Fun K "popped" "popped" s_popped f_popped fd_popped
  g_popped : mg "popped" = some (.ref f_popped)
  k_popped : PySem.W.keepIn K (.ref f_popped) = true
  b_popped : Binds K fd_popped ["stack", "many"] []
  f_rows_for : Addr
  fd_rows_for : FuncData
  F_rows_for : Fun K "rows_for" "rows_for" s_rows_for f_rows_for fd_rows_for
  g_rows_for : mg "rows_for" = some (.ref f_rows_for)
  k_rows_for : PySem.W.keepIn K (.ref f_rows_for) = true
  b_rows_for : Binds K fd_rows_for ["built", "pair", "many"] []
  f_is_great : Addr
  fd_is_great : FuncData
  F_is_great : Fun K "is_great" "is_great" s_is_great f_is_great fd_is_great
  g_is_great : mg "is_great" = some (.ref f_is_great)
  k_is_great : PySem.W.keepIn K (.ref f_is_great) = true
  b_is_great : Binds K fd_is_great ["cell"] []
  f_do_row : Addr
  fd_do_row : FuncData
  F_do_row : Fun K "do_row" "do_row" s_do_row f_do_row fd_do_row
  g_do_row : mg "do_row" = some (.ref f_do_row)
  k_do_row : PySem.W.keepIn K (.ref f_do_row) = true
  b_do_row : Binds K fd_do_row ["row", "held", "stack"] []
  f_run : Addr
  fd_run : FuncData
  F_run : Fun K "run" "run" s_run f_run fd_run
  g_run : mg "run" = some (.ref f_run)
  k_run : PySem.W.keepIn K (.ref f_run) = true
  b_run : Binds K fd_run ["built", "module", "name", "cells"] []
  f__law_deck : Addr
  fd__law_deck : FuncData
  F__law_deck : Fun K "_law_deck" "_law_deck" s__law_deck f__law_deck fd__law_deck
  g__law_deck : mg "_law_deck" = some (.ref f__law_deck)
  k__law_deck : PySem.W.keepIn K (.ref f__law_deck) = true
  b__law_deck : Binds K fd__law_deck ["script", "many"] []
  f__law_take : Addr
  fd__law_take : FuncData
  F__law_take : Fun K "_law_take" "_law_take" s__law_take f__law_take fd__law_take
  g__law_take : mg "_law_take" = some (.ref f__law_take)
  k__law_take : PySem.W.keepIn K (.ref f__law_take) = true
  b__law_take : Binds K fd__law_take ["deck", "many"] []
  f__law_alike : Addr
  fd__law_alike : FuncData
  F__law_alike : Fun K "_law_alike" "_law_alike" s__law_alike f__law_alike fd__law_alike
  g__law_alike : mg "_law_alike" = some (.ref f__law_alike)
  k__law_alike : PySem.W.keepIn K (.ref f__law_alike) = true
  b__law_alike : Binds K fd__law_alike ["told", "due"] []
  f__law_word : Addr
  fd__law_word : FuncData
  F__law_word : Fun K "_law_word" "_law_word" s__law_word f__law_word fd__law_word
  g__law_word : mg "_law_word" = some (.ref f__law_word)
  k__law_word : PySem.W.keepIn K (.ref f__law_word) = true
  b__law_word : Binds K fd__law_word ["built", "module", "name", "cells"] []
  f__law_copy : Addr
  fd__law_copy : FuncData
  F__law_copy : Fun K "_law_copy" "_law_copy" s__law_copy f__law_copy fd__law_copy
  g__law_copy : mg "_law_copy" = some (.ref f__law_copy)
  k__law_copy : PySem.W.keepIn K (.ref f__law_copy) = true
  b__law_copy : Binds K fd__law_copy ["built"] []
  f__law_tree : Addr
  fd__law_tree : FuncData
  F__law_tree : Fun K "_law_tree" "_law_tree" s__law_tree f__law_tree fd__law_tree
  g__law_tree : mg "_law_tree" = some (.ref f__law_tree)
  k__law_tree : PySem.W.keepIn K (.ref f__law_tree) = true
  b__law_tree : Binds K fd__law_tree ["built", "high", "leaf"] []
  f__law_powers : Addr
  fd__law_powers : FuncData
  F__law_powers : Fun K "_law_powers" "_law_powers" s__law_powers f__law_powers fd__law_powers
  g__law_powers : mg "_law_powers" = some (.ref f__law_powers)
  k__law_powers : PySem.W.keepIn K (.ref f__law_powers) = true
  b__law_powers : Binds K fd__law_powers ["many"] []
  f__law_many_calls : Addr
  fd__law_many_calls : FuncData
  F__law_many_calls : Fun K "_law_many_calls" "_law_many_calls" s__law_many_calls f__law_many_calls fd__law_many_calls
  g__law_many_calls : mg "_law_many_calls" = some (.ref f__law_many_calls)
  k__law_many_calls : PySem.W.keepIn K (.ref f__law_many_calls) = true
  b__law_many_calls : Binds K fd__law_many_calls ["way"] []
  f__law_many_rows : Addr
  fd__law_many_rows : FuncData
  F__law_many_rows : Fun K "_law_many_rows" "_law_many_rows" s__law_many_rows f__law_many_rows fd__law_many_rows
  g__law_many_rows : mg "_law_many_rows" = some (.ref f__law_many_rows)
  k__law_many_rows : PySem.W.keepIn K (.ref f__law_many_rows) = true
  b__law_many_rows : Binds K fd__law_many_rows ["more"] []
  f__law_wide : Addr
  fd__law_wide : FuncData
  F__law_wide : Fun K "_law_wide" "_law_wide" s__law_wide f__law_wide fd__law_wide
  g__law_wide : mg "_law_wide" = some (.ref f__law_wide)
  k__law_wide : PySem.W.keepIn K (.ref f__law_wide) = true
  b__law_wide : Binds K fd__law_wide ["a", "size"] []
  f__law_users : Addr
  fd__law_users : FuncData
  F__law_users : Fun K "_law_users" "_law_users" s__law_users f__law_users fd__law_users
  g__law_users : mg "_law_users" = some (.ref f__law_users)
  k__law_users : PySem.W.keepIn K (.ref f__law_users) = true
  b__law_users : Binds K fd__law_users ["built", "a", "b", "number"] []
  f_law : Addr
  fd_law : FuncData
  F_law : Fun K "law" "law" s_law f_law fd_law
  g_law : mg "law" = some (.ref f_law)
  k_law : PySem.W.keepIn K (.ref f_law) = true
  b_law : Binds K fd_law ["script"] []
  u_MOST_CALLS : Value
  g_MOST_CALLS : mg "MOST_CALLS" = some u_MOST_CALLS
  r_MOST_CALLS : RelV (.int 100000) u_MOST_CALLS
  u_MOST_ROWS : Value
  g_MOST_ROWS : mg "MOST_ROWS" = some u_MOST_ROWS
  r_MOST_ROWS : RelV (.int 1000000) u_MOST_ROWS
  u_MOST_CELLS : Value
  g_MOST_CELLS : mg "MOST_CELLS" = some u_MOST_CELLS
  r_MOST_CELLS : RelV (.int 256) u_MOST_CELLS
  a_NO : Addr
  c_NO : Addr
  g_NO : mg "NO" = some (.ref a_NO)
  t_NO : ∃ (o : Obj) (t : Tok) (n : Nat), K.lookup a_NO = some o ∧ o.cls = .type "tuple" ∧ o.data = .seq #[.int 0 t, .ref c_NO] n
  e_NO : ∃ (o : Obj) (n : Nat), K.lookup c_NO = some o ∧ o.cls = .type "tuple" ∧ o.data = .seq #[] n
  a_YES : Addr
  c_YES : Addr
  g_YES : mg "YES" = some (.ref a_YES)
  t_YES : ∃ (o : Obj) (t : Tok) (n : Nat), K.lookup a_YES = some o ∧ o.cls = .type "tuple" ∧ o.data = .seq #[.int 1 t, .ref c_YES] n
  e_YES : ∃ (o : Obj) (n : Nat), K.lookup c_YES = some o ∧ o.cls = .type "tuple" ∧ o.data = .seq #[] n
  C_AsiffreshError : Addr
  g_AsiffreshError : mg "AsiffreshError" = some (.ref C_AsiffreshError)
  k_AsiffreshError : PySem.W.keepIn K (.ref C_AsiffreshError) = true
  C_BadAsk : Addr
  g_BadAsk : mg "BadAsk" = some (.ref C_BadAsk)
  k_BadAsk : PySem.W.keepIn K (.ref C_BadAsk) = true
  C_BadDeed : Addr
  g_BadDeed : mg "BadDeed" = some (.ref C_BadDeed)
  k_BadDeed : PySem.W.keepIn K (.ref C_BadDeed) = true
  C_NotYet : Addr
  g_NotYet : mg "NotYet" = some (.ref C_NotYet)
  k_NotYet : PySem.W.keepIn K (.ref C_NotYet) = true
  C_BadName : Addr
  g_BadName : mg "BadName" = some (.ref C_BadName)
  k_BadName : PySem.W.keepIn K (.ref C_BadName) = true
  C_BadValue : Addr
  g_BadValue : mg "BadValue" = some (.ref C_BadValue)
  k_BadValue : PySem.W.keepIn K (.ref C_BadValue) = true
  C_TooLong : Addr
  g_TooLong : mg "TooLong" = some (.ref C_TooLong)
  k_TooLong : PySem.W.keepIn K (.ref C_TooLong) = true
  C_TooMany : Addr
  g_TooMany : mg "TooMany" = some (.ref C_TooMany)
  k_TooMany : PySem.W.keepIn K (.ref C_TooMany) = true
  x_BadName : PySem.W.excIn K C_BadName [.type "ValueError", .type "Exception", .type "BaseException", .type "object"] "ValueError.__new__" = true
  s_BadName : PySem.W.subIn K (.ref C_BadName) (.type "BaseException") = some true
  t_BadName : PySem.W.typeIn K (.ref C_BadName) = some (.type "type")
  e_BadName : ExcC K C_BadName
  m_BadName : PySem.W.exmOne K (.ref C_BadName) (.ref C_AsiffreshError) = some true
  i_BadName_ValueError : PySem.W.kitOne K (.ref C_BadName) (.type "ValueError") = some true
  i_BadName_BadAsk : PySem.W.kitOne K (.ref C_BadName) (.ref C_BadAsk) = some false
  i_BadName_BadDeed : PySem.W.kitOne K (.ref C_BadName) (.ref C_BadDeed) = some false
  i_BadName_NotYet : PySem.W.kitOne K (.ref C_BadName) (.ref C_NotYet) = some false
  i_BadName_BadName : PySem.W.kitOne K (.ref C_BadName) (.ref C_BadName) = some true
  i_BadName_BadValue : PySem.W.kitOne K (.ref C_BadName) (.ref C_BadValue) = some false
  i_BadName_TooLong : PySem.W.kitOne K (.ref C_BadName) (.ref C_TooLong) = some false
  i_BadName_TooMany : PySem.W.kitOne K (.ref C_BadName) (.ref C_TooMany) = some false
  x_BadValue : PySem.W.excIn K C_BadValue [.type "ValueError", .type "Exception", .type "BaseException", .type "object"] "ValueError.__new__" = true
  s_BadValue : PySem.W.subIn K (.ref C_BadValue) (.type "BaseException") = some true
  t_BadValue : PySem.W.typeIn K (.ref C_BadValue) = some (.type "type")
  e_BadValue : ExcC K C_BadValue
  m_BadValue : PySem.W.exmOne K (.ref C_BadValue) (.ref C_AsiffreshError) = some true
  i_BadValue_ValueError : PySem.W.kitOne K (.ref C_BadValue) (.type "ValueError") = some true
  i_BadValue_BadAsk : PySem.W.kitOne K (.ref C_BadValue) (.ref C_BadAsk) = some false
  i_BadValue_BadDeed : PySem.W.kitOne K (.ref C_BadValue) (.ref C_BadDeed) = some false
  i_BadValue_NotYet : PySem.W.kitOne K (.ref C_BadValue) (.ref C_NotYet) = some false
  i_BadValue_BadName : PySem.W.kitOne K (.ref C_BadValue) (.ref C_BadName) = some false
  i_BadValue_BadValue : PySem.W.kitOne K (.ref C_BadValue) (.ref C_BadValue) = some true
  i_BadValue_TooLong : PySem.W.kitOne K (.ref C_BadValue) (.ref C_TooLong) = some false
  i_BadValue_TooMany : PySem.W.kitOne K (.ref C_BadValue) (.ref C_TooMany) = some false
  x_TooLong : PySem.W.excIn K C_TooLong [.type "ValueError", .type "Exception", .type "BaseException", .type "object"] "ValueError.__new__" = true
  s_TooLong : PySem.W.subIn K (.ref C_TooLong) (.type "BaseException") = some true
  t_TooLong : PySem.W.typeIn K (.ref C_TooLong) = some (.type "type")
  e_TooLong : ExcC K C_TooLong
  m_TooLong : PySem.W.exmOne K (.ref C_TooLong) (.ref C_AsiffreshError) = some true
  i_TooLong_ValueError : PySem.W.kitOne K (.ref C_TooLong) (.type "ValueError") = some true
  i_TooLong_BadAsk : PySem.W.kitOne K (.ref C_TooLong) (.ref C_BadAsk) = some false
  i_TooLong_BadDeed : PySem.W.kitOne K (.ref C_TooLong) (.ref C_BadDeed) = some false
  i_TooLong_NotYet : PySem.W.kitOne K (.ref C_TooLong) (.ref C_NotYet) = some false
  i_TooLong_BadName : PySem.W.kitOne K (.ref C_TooLong) (.ref C_BadName) = some false
  i_TooLong_BadValue : PySem.W.kitOne K (.ref C_TooLong) (.ref C_BadValue) = some false
  i_TooLong_TooLong : PySem.W.kitOne K (.ref C_TooLong) (.ref C_TooLong) = some true
  i_TooLong_TooMany : PySem.W.kitOne K (.ref C_TooLong) (.ref C_TooMany) = some false
  z_len : mg "len" = none
  z_int : mg "int" = none
  z_tuple : mg "tuple" = none
  z_list : mg "list" = none
  z_range : mg "range" = none
  z_isinstance : mg "isinstance" = none
  z_bool : mg "bool" = none
  z_str : mg "str" = none
  z_ValueError : mg "ValueError" = none
end K90

set_option Elab.async false
set_option linter.all false
set_option maxRecDepth 100000
set_option maxHeartbeats 4000000
/-! A list comprehension within an except suite: the suite's exception stays pinned through the block. -/
namespace Hl
open PySem PySem.Spec PyProof.Rows L2 L2H
abbrev hblk (X : Cx) (s : Shared) (H : Hp) (sc : Scope) (ce : Env) (fp : List Addr) (p : Addr × Obj) : Cx := { X.blk s H sc ce fp with pn := [p] }
section
variable {X : Cx} {s0 s1 : Shared} {H0 H1 : Hp} {sc : Scope} {ce : Env} {fp : List Addr} {p : Addr × Obj} {σ : L2.St}
theorem with_pin (I : Inv (X.blk s0 H0 sc ce fp) [] σ H1 s1) (hp : s1.heap.get? p.1 = some p.2 ∧ H1 p.1 = none ∧ p.1 ≠ ce.locals ∧ p.1 ∉ (X.blk s0 H0 sc ce fp).fs ∧ ∀ v, p.2.data ≠ .cell v) : Inv (hblk X s0 H0 sc ce fp p) [] σ H1 s1 := by
  have k := I.ok
  refine ⟨⟨k.mod, k.kind, k.glob, k.blt, k.above, k.inj, k.has, k.cab, k.hd, k.frames, k.stk, k.exf, k.bs, k.bsz, k.noex, k.exfs, k.funs, k.frf⟩, I.os, I.bare, I.base, I.loc, I.cell, I.free, I.freeC, ?_, I.hok, I.len⟩
  intro q hq
  obtain rfl : q = p := by simpa using hq
  exact hp
variable {elt tg iter : Expr} {ifs : List Expr} {pos : Pos} {own : List Nat} {g : TG} {tt : TT} {te : TE} {J : It} {it D : Addr} {tn : Nat → Heap → Prop} {W : Nat → Nat → Hp → Prop} {Qd : Hp → Prop} {R : Result → Shared → Prop} {m0 : Nat}
theorem hot_loop (hot : Hot1 X.A p) (T : TurnH X.prog X.w X.K tg J fp it tn) (pg : PG (hblk X s0 H0 sc ce fp p) tg g) (pt : PTs (hblk X s0 H0 sc ce fp p) ifs tt) (pe : PE (hblk X s0 H0 sc ce fp p) elt te) (np : ∀ b ∈ fp, p.1 ≠ b)
    (turn : ∀ i m H, W i m H → (J.stop i H ∧ Qd H) ∨ (J.go i H ∧ ∃ Nx : Hp → Prop, (∀ H', Nx H' → ∃ m', m' < m ∧ W (i + 1) m' H') ∧ ∀ x H', J.yld i H x H' → g x (wipe σ own) H' fun σ2 H2 => wipe σ2 own = wipe σ own ∧ tt σ2 H2 fun b H3 =>
      if b = true then te σ2 H3 fun y H4 => ∃ acc, H4 D = some (.lst acc) ∧ acc.length < sizeLine ∧ Nx (upd H4 D (.lst (acc ++ [y]))) else Nx H3))
    (start : Inv (hblk X s0 H0 sc ce fp p) [] (wipe σ own) H1 s1) (st : tn 0 s1.heap) (nf : ∀ b ∈ fp, H1 b = none) (w0 : W 0 m0 H1)
    (last : ∀ s' H', Inv (hblk X s0 H0 sc ce fp p) [] (wipe σ own) H' s' → Qd H' → R (.ok .next) s') :
    codeAny (model X.prog X.w) X.A (.compLoop (.ListComp elt [⟨tg, iter, ifs, 0⟩] sc pos) 0 (.ref it) (.ref D) ce) R s1 := by
  have hotX : HotC (hblk X s0 H0 sc ce fp p) := ⟨p, hot, List.mem_singleton.mpr rfl⟩
  have okf : ∀ {σ' : L2.St} {H' : Hp} {s' : Shared}, Inv (hblk X s0 H0 sc ce fp p) [] σ' H' s' → (∀ b ∈ fp, H' b = none) → ∀ b ∈ fp, FpOk (hblk X s0 H0 sc ce fp p) [] H' b := by
    intro σ' H' s' I' hn b hb
    refine ⟨hn b hb, (I'.ok.exf b hb).1, I'.ok.exfs b hb, Or.inl hb, fun x c e => (I'.ok.exf b hb).2 x c e, fun q hq => ?_⟩
    obtain rfl : q = p := by simpa using hq
    exact np b hb
  apply compLoop_any (fun n s' => ∃ i H', Inv (hblk X s0 H0 sc ce fp p) [] (wipe σ own) H' s' ∧ tn i s'.heap ∧ (∀ b ∈ fp, H' b = none) ∧ W i n H')
  case h => exact ⟨0, H1, start, st, nf, w0⟩
  intro n s5 ⟨i, H5, I5, st5, n5, w5⟩
  cases turn i n H5 w5 with
  | inl q =>
    apply thnF (T.done (hblk X s0 H0 sc ce fp p) rfl rfl rfl hotX i [] s5 _ H5 (fun _ _ => False) I5 (okf I5 n5) st5 q.1)
    rintro r s6 ⟨rfl, I6⟩
    exact last _ _ I6 q.2
  | inr q =>
    obtain ⟨go, Nx, hNx, step⟩ := q
    apply thnF (T.item (hblk X s0 H0 sc ce fp p) rfl rfl rfl hotX i [] s5 _ H5 (fun _ _ => False) I5 (okf I5 n5) st5 go)
    rintro r s6 ⟨u, rfl, h6⟩
    apply thnF h6
    rintro _ s7 ⟨x, H7, I7, r7, y7, st7, n7⟩
    apply thnF (pg.run _ s7 _ H7 x u _ (I7.pinned (okf I7 n7) (T.obj _ _ st7)) r7 (step x H7 y7))
    rintro _ s8 ⟨σ8, H8, I8, hw8, q8⟩
    apply thnF (pt.run _ s8 σ8 H8 _ I8 q8)
    rintro b s9 ⟨H9, I9, q9⟩
    have again : ∀ (s' : Shared) (H' : Hp), Inv (hblk X s0 H0 sc ce fp p) ([] ++ pinsAt fp s7.heap) σ8 H' s' → Nx H' → ∃ m, m < n ∧ ∃ i H', Inv (hblk X s0 H0 sc ce fp p) [] (wipe σ own) H' s' ∧ tn i s'.heap ∧ (∀ b ∈ fp, H' b = none) ∧ W i m H' := by
      intro s' H' I' nx
      obtain ⟨m', hm, w'⟩ := hNx H' nx
      have held : ∀ b ∈ fp, ∀ o, s7.heap.get? b = some o → s'.heap.get? b = some o ∧ H' b = none := by
        intro b hb o e
        have z := I'.pin (b, o) (List.mem_append_right _ (List.mem_append_right _ (mem_pinsAt hb e)))
        exact ⟨z.1, z.2.1⟩
      refine ⟨m', hm, i + 1, H', (Inv.unpinned (pins := []) I').weak (by rw [← hw8, wipe_length]) ?_, T.keep _ _ _ st7 (fun b hb o e => (held b hb o e).1), ?_, w'⟩
      · intro j v e
        rw [← hw8] at e
        exact (wipe_some e).1
      · intro b hb
        obtain ⟨o, e, _⟩ := T.obj _ _ st7 b hb
        exact (held b hb o e).2
    cases b with
    | false =>
      rw [if_neg (by decide)] at q9
      rw [if_neg (by decide)]
      exact again _ _ I9 q9
    | true =>
      rw [if_pos rfl] at q9
      rw [if_pos rfl]
      apply thnF (pe.run _ s9 σ8 H9 _ I9 q9)
      rintro z s10 ⟨yv, H10, I10, r10, acc, hD10, hz10, nx⟩
      exact app_ok (X := hblk X s0 H0 sc ce fp p) I10 hD10 hz10 r10 (fun s11 I11 => again _ _ I11 nx)
end
section
variable {X : Cx} {i : Nat} {y : Str} {py : Pos} {elt tg iter : Expr} {ifs : List Expr} {sc : Scope} {own : List (Str × Nat)} {pos spos : Pos} {wi : TI} {g : TG} {tt : TT} {te : TE}
/-- name = [..] on one line within an except suite -/
theorem ps_setLcH (hc : HotC X) (hN : X.N.Nodup) (hy : X.N[i]? = some y) (hyl : X.env.scope.names.lookup y = some .local)
    (hsw : swapsWith (.ListComp elt [⟨tg, iter, ifs, 0⟩] sc pos) (some (.Name y py)) spos.line X.env = pure true) (hi : PIH X tg iter wi) (ok : BlkOk X.N X.env.scope sc own)
    (hg : ∀ (s : Shared) (H : Hp) (C : Addr) (cl : List (Str × Addr)) (fp : List Addr) (p : Addr × Obj), PG (hblk X s H sc (compEnvC sc cl C X.env) fp p) tg g)
    (ht : ∀ (s : Shared) (H : Hp) (C : Addr) (cl : List (Str × Addr)) (fp : List Addr) (p : Addr × Obj), PTs (hblk X s H sc (compEnvC sc cl C X.env) fp p) ifs tt)
    (he : ∀ (s : Shared) (H : Hp) (C : Addr) (cl : List (Str × Addr)) (fp : List Addr) (p : Addr × Obj), PE (hblk X s H sc (compEnvC sc cl C X.env) fp p) elt te) (hs : ∀ x, foldedSetIterable iter X.env x = pure x := by intro _; rfl) :
    PS X (.Assign [.Name y py] (.ListComp elt [⟨tg, iter, ifs, 0⟩] sc pos) spos) (tAsg (tLc wi g tt te (own.map (·.2))) (gName i)) := by
  obtain ⟨p, hot, hpn⟩ := hc
  constructor
  intro pins s σ H E I reading
  rw [exec_Assign_Name_used _ _ _ _ hsw]
  apply wpAny_bind
  apply wpAny_standAt
  apply wpAny_bind
  show wpAny _ X.A (do let _ ← comprehension (.ListComp elt [⟨tg, iter, ifs, 0⟩] sc pos) sc X.env (firstIterPos [⟨tg, iter, ifs, 0⟩] pos) (newList []) false (eval iter X.env) (some (assign (.Name y py) X.env))) _ _ s
  apply wpAny_bind
  have reading : tLc wi g tt te (own.map (·.2)) σ H (fun x H1 => gName i x σ H1 E.nx) := reading
  have bound : ∀ z ∈ sc.names, z.2 = .free → ∃ c, X.env.cells.lookup z.1 = some c := by
    intro z hz e
    cases ok.free z hz e with
    | inl k => exact I.ok.has _ (Or.inl k)
    | inr k => exact I.ok.has _ (Or.inr k)
  refine thn (Q := fun _ s' => SP X pins E .next s') ?_ (fun _ s' hq => wpAny_pure (wpAny_pure hq))
  apply wpAny_comprehension_free (use := some (assign (.Name y py) X.env)) rfl hs (closure_ok bound) ok.kind (fun z hz e => by rw [ok.uniq z hz, e])
  apply thn (hi.run pins s σ H _ I reading)
  intro xv s1 hx
  apply thn hx
  rintro itv s2 ⟨it, fp, tn, J, H2, rfl, I2, T, st2, f2, q⟩
  refine wpAny_newObj_type (newEnv_comp ?_) (by show 0 ≤ sizeLine; decide)
  -- the new list, then the block
  have hDn : H2 s2.heap.objs.size = none := I2.hok.fresh (Nat.le_refl _)
  obtain ⟨W, ⟨m0, w0⟩, turn⟩ := q _ hDn
  have I3 : Inv X pins σ (upd H2 s2.heap.objs.size (.lst [])) { s2 with heap := s2.heap.push { cls := .type "list", data := .seq ([] : List Value).toArray } } :=
    I2.laid (t' := s2.toks) (fun b o e => Heap.get?_push_of_some _ e) (Nat.le_refl _) ⟨Nat.zero_le _, [], 0, .nil, Heap.get?_push_size _ rfl⟩
  have small : ∀ b ∈ fp, b < s2.heap.objs.size := by
    intro b hb
    obtain ⟨o, e, _⟩ := T.obj _ _ st2 b hb
    exact Heap.lt_size e
  have f3 : ∀ b ∈ fp, FpOk X pins (upd H2 s2.heap.objs.size (.lst [])) b ∧ b < (⟨s2.heap.push { cls := .type "list", data := .seq ([] : List Value).toArray }, s2.gens, s2.drawn, s2.toks, s2.os⟩ : Shared).heap.objs.size := by
    intro b hb
    refine ⟨⟨?_, (f2 b hb).2⟩, by show b < (s2.heap.push _).objs.size; rw [Heap.size_push]; exact Nat.lt_succ_of_lt (small b hb)⟩
    rw [upd_ne (Nat.ne_of_lt (small b hb))]
    exact (f2 b hb).1
  have st3 : tn 0 (⟨s2.heap.push { cls := .type "list", data := .seq ([] : List Value).toArray }, s2.gens, s2.drawn, s2.toks, s2.os⟩ : Shared).heap := T.keep _ _ _ st2 fun b _ o e => Heap.get?_push_of_some _ e
  have pinned := I3.pin p (List.mem_append_left _ hpn)
  have npf : ∀ b ∈ fp, p.1 ≠ b := fun b hb => (f3 b hb).1.2.2.2.2.2 p (List.mem_append_left _ hpn)
  generalize (⟨s2.heap.push { cls := .type "list", data := .seq ([] : List Value).toArray }, s2.gens, s2.drawn, s2.toks, s2.os⟩ : Shared) = s3 at *
  have I4 := block_start I3 ok hN f3
  have pg := hg s3 (upd H2 s2.heap.objs.size (.lst [])) s3.heap.objs.size (cellsFrom (s3.heap.objs.size + 1) sc.names (cloFrom X.env.cells sc.names [])) fp p
  have pt := ht s3 (upd H2 s2.heap.objs.size (.lst [])) s3.heap.objs.size (cellsFrom (s3.heap.objs.size + 1) sc.names (cloFrom X.env.cells sc.names [])) fp p
  have pe := he s3 (upd H2 s2.heap.objs.size (.lst [])) s3.heap.objs.size (cellsFrom (s3.heap.objs.size + 1) sc.names (cloFrom X.env.cells sc.names [])) fp p
  have kept : ∀ b o, s3.heap.get? b = some o → (pushCells (s3.heap.push { cls := .type "dict", data := .dict #[] }) sc.names).get? b = some o := fun b o e => pushCells_keeps _ _ _ _ (Heap.get?_push_of_some _ e)
  have st4 : tn 0 (pushCells (s3.heap.push { cls := .type "dict", data := .dict #[] }) sc.names) := T.keep _ _ _ st3 fun b _ o e => kept b o e
  have low : p.1 < s3.heap.objs.size := Heap.lt_size pinned.1
  have inFs : p.1 ∉ frs X.stack := by
    intro hm
    cases List.mem_cons.mp (I3.stkSub _ hm) with
    | inl z => exact pinned.2.2.1 z
    | inr z => exact pinned.2.2.2.1 z
  have I5 := with_pin (p := p) I4 ⟨kept _ _ pinned.1, pinned.2.1, Nat.ne_of_lt low, inFs, pinned.2.2.2.2⟩
  have none3 : ∀ b ∈ fp, (upd H2 s2.heap.objs.size (.lst [])) b = none := fun b hb => (f3 b hb).1.1
  have last : ∀ (s6 : Shared) (H6 : Hp), Inv (hblk X s3 (upd H2 s2.heap.objs.size (.lst [])) sc (compEnvC sc (cellsFrom (s3.heap.objs.size + 1) sc.names (cloFrom X.env.cells sc.names [])) s3.heap.objs.size X.env) fp p) [] (wipe σ (own.map (·.2))) H6 s6 →
      gName i (.ref s2.heap.objs.size) σ H6 E.nx → compPost (model X.prog X.w) X.A X.xe (some (assign (.Name y py) X.env)) (fun _ s' => SP X pins E .next s') (.ref s2.heap.objs.size) s3.heap.objs.size (.ok .next) s6 := by
    -- back in the suite
    intro s6 H6 I6 q6
    have I7 : Inv X pins σ H6 s6 := I3.call' (ch := fp) I6.os I6.base I6.hok I6.bare fun b hb => ⟨(f3 b hb).1.2.2.2.1, (f3 b hb).1.2.1, (f3 b hb).1.2.2.2.2.1, (f3 b hb).1.2.2.2.2.2⟩
    obtain ⟨m, ns, _⟩ := I6.loc
    have freeL : H6 s3.heap.objs.size = none := I6.free
    obtain ⟨f0, f1, f2', f3', f4, f5⟩ := I3.fpOk (Nat.le_refl _) freeL
    show wpAny _ _ (assign (.Name y py) X.env (.ref s2.heap.objs.size)) _ _ _
    refine wpAny_assign_Name (store_ok2 (v := V.ref s2.heap.objs.size) I7 hN hy (Or.inl hyl) rfl (fun s8 I8 ⟨a, same, ha⟩ => ?_) (Or.inr hyl))
    have away : s3.heap.objs.size ≠ a := by
      cases ha with
      | inl z => rw [z]; exact f1
      | inr z => exact fun e => f4 y a z e.symm
    exact ⟨m, Heap.Ns.sameBut ns same away, fun h9 same9 => ⟨_, H6, I8.turned (t' := s8.toks) (fun b o hb e => (same9.2 b hb).trans e) f0 f1 f3' f4 f5, q6⟩⟩
  have walked := hot_loop (iter := iter) (elt := elt) (ifs := ifs) (D := s2.heap.objs.size) (pos := pos) (R := compPost (model X.prog X.w) X.A X.xe (some (assign (.Name y py) X.env)) (fun _ s' => SP X pins E .next s') (.ref s2.heap.objs.size) s3.heap.objs.size) hot T pg pt pe npf turn I5 st4 none3 w0 last
  exact codeAny_compStart_list walked (T.self X.A 0 _ _ _ st4 walked)
end
theorem hot_suite {X : Cx} {a : Addr} {cls : Value} {d : Option Addr} {oe : Obj} {pn : List (Addr × Obj)} (hz : L2N.Zn cls d oe) (hf : ∃ vs, oe.data = .fields vs) : HotC (X.suite a ((a, oe) :: pn)) := by
  obtain ⟨vs, hv⟩ := hf
  exact ⟨(a, oe), ⟨rfl, vs, hv, hz.2.2 vs hv⟩, List.mem_cons_self⟩
theorem takes0N {X : Cx} : L2N.Takes X (fun _ _ _ _ => False) := by
  intro u s' x
  obtain ⟨_, _, _, _, _, _, _, _, _, _, _, _, _, _, _, _, z⟩ := x
  exact z.elim
section
variable {P : Program} {w : World} {K : PySem.W.Frag} {mg : Str → Option Value} {base : Heap}
/-- a def that may raise where nothing is handled -/
theorem okN {x qual : Str} {st : Stmt} {f : Addr} {fd : FuncData} {N ps : List Str} {k : Nat} {sp : Sp} (F : Fun K x qual st f fd) (S : FnScope N ps (defScope st)) (len : ∀ vs H Q E, sp vs H Q E → vs.length = ps.length)
    (walk : ∀ (cdv : Value) (A : Around) (outer : List Env) (s : Shared) (H : Hp) (vs : List V) (Q : VK) (E : XK), Room k (A.deeper (envOfC qual (defScope st) s.heap.objs.size f cdv)) → sp vs H Q E →
      ∃ t, PSs (cxOf (L2N.CX P w) P w K mg base N qual (defScope st) f cdv A outer s H E) (defBody st) t ∧ t { nx := fun _ H' => Q .non H', rt := Q } (start N vs) H) : FnOk P w K mg base (L2N.CX P w) (k + 1) f fd ps sp := by
  obtain ⟨c1, d1, kw, dc, pm, an, cdv, ct, sl, rfl, look, code⟩ := F.ex
  exact fn_of look code S len (fun A outer s H vs Q E near promise => walk cdv A outer s H vs Q E near promise)
end
end Hl

set_option Elab.async false
set_option linter.all false
set_option maxRecDepth 100000
set_option maxHeartbeats 4000000
namespace K90
open PySem PySem.Spec PyProof.Rows L2 Ru Rp Mch
section
variable {P : Program} {w : World} {K : PySem.W.Frag} {mg : Str → Option Value} {base : Heap}
theorem int_is {Q : V → Hp → Prop} {H : Hp} {i j : Int} (e : i = j) (h : Q (.int j) H) : Q (.int i) H := by rw [e]; exact h
theorem cut_from {xs : List V} {a : Nat} (h : a ≤ xs.length) : cutV xs (some (a : Int)) none = xs.drop a := by
  unfold cutV
  rw [HT.sIx_nat, HT.sIx_none, Nat.min_eq_left h]
  exact List.take_of_length_le (by simp)
abbrev N_popped : List Str := ["stack", "many", "first", "row"]
theorem sc_popped : FnScope N_popped ["stack", "many"] (defScope s_popped) := ⟨rfl, rfl, rfl, by decide +kernel, rfl, by decide +kernel, by decide +kernel⟩
/-- the last m cells are taken off -/
def spPopped : Sp := fun vs H Q _ => ∃ (l : Addr) (xs : List V) (m : Nat), vs = [.ref l, .int (m : Int)] ∧ H l = some (.lst xs) ∧ m ≤ xs.length ∧
  ∀ p, H p = none → Q (.ref p) (upd (upd H p (.lst (xs.drop (xs.length - m)))) l (.lst (xs.take (xs.length - m))))
theorem ok_popped (T : Txt K mg) : FnOk P w K mg base CX0 1 T.f_popped T.fd_popped ["stack", "many"] spPopped := by
  refine T.F_popped.ok sc_popped (fun vs H Q E h => ?_) (fun cdv A outer s H vs Q E hr h => ?_)
  · obtain ⟨l, xs, m, rfl, _⟩ := h
    rfl
  · obtain ⟨l, xs, m, rfl, hl, hm, k⟩ := h
    have nd := sc_popped.nd
    refine ⟨_, (pss_cons (ps_set (i := 2) nd rfl (Or.inl rfl) (pe_op op_sub (pe_callB call_len_seq (by rfl) T.z_len (by decide +kernel) (pa_cons (pv 0) pa_nil)) (pv 1)))
          (pss_cons (ps_set (i := 3) nd rfl (Or.inl rfl) (pe_slice sl_list (pv 0) (po_some (pv 2)) po_none))
          (pss_cons (ps_delFrom (pv 0) (pv 2))
          (pss_one (ps_ret (pv 3)))))), ?_⟩
    refine ⟨_, rfl, l, xs, rfl, .inl (SqL.of hl), _, rfl, _, _, rfl, rfl, ?_⟩
    refine ⟨_, rfl, _, rfl, _, rfl, l, xs, rfl, SqL.of hl, fun p hp => ?_⟩
    have ne : l ≠ p := ne_of_none hl hp
    have ei : (xs.length : Int) - (m : Int) = ((xs.length - m : Nat) : Int) := by omega
    have ec : cutV xs (some ((xs.length : Int) - (m : Int))) none = xs.drop (xs.length - m) := by rw [ei, cut_from (by omega)]
    rw [ec]
    refine ⟨_, rfl, _, rfl, l, xs, xs.length - m, rfl, congrArg V.int ei, by rw [upd_ne ne]; exact hl, by omega, _, rfl, ?_⟩
    exact k p hp
abbrev N_rows_for : List Str := ["built", "pair", "many", "givens", "rows"]
theorem sc_rows_for : FnScope N_rows_for ["built", "pair", "many"] (defScope s_rows_for) := ⟨rfl, rfl, rfl, by decide +kernel, rfl, by decide +kernel, by decide +kernel⟩
def spRowsFor (T : Txt K mg) : Sp := fun vs H Q E => ∃ (d p : Addr) (kvs : List (List Key × V)) (B : Built Nm) (f : Nm) (n : Nat), vs = [.ref d, .ref p, .int (n : Int)] ∧ H d = some (.dT kvs) ∧ BuiltOf K H kvs B ∧
  H p = some (.tup [.str f.1, .str f.2]) ∧ (B f = none → E (.ref T.C_BadName) none H) ∧ (∀ g rs, B f = some (g, rs) → g ≠ n → E (.ref T.C_BadValue) none H) ∧ ∀ rs, B f = some (n, rs) → ∀ v, RowsAt K H v rs → Q v H
theorem ok_rows_for (T : Txt K mg) : FnOk P w K mg base (L2N.CX P w) 1 T.f_rows_for T.fd_rows_for ["built", "pair", "many"] (spRowsFor T) := by
  refine Hl.okN T.F_rows_for sc_rows_for (fun vs H Q E h => ?_) (fun cdv A outer s H vs Q E hr h => ?_)
  · obtain ⟨d, p, kvs, B, f, n, rfl, _⟩ := h
    rfl
  · obtain ⟨d, p, kvs, B, f, n, rfl, hd, hB, hp, kN, kV, k⟩ := h
    have nd := sc_rows_for.nd
    have hu := hu_of hr
    refine ⟨_, (pss_cons (ps_if (pt_cmp (pc_dnotin hu (pv 1) (pv 0)))
            (pss_one (L2N.ps_raise rfl (L2N.takes_of rfl rfl rfl rfl) (L2N.pmk_own PySem.F.excBase_ValueError T.x_BadName T.g_BadName T.k_BadName (raises_own T.s_BadName T.t_BadName) (by exact rfl))))
            pss_nil)
          (pss_cons (ps_asg (pe_dget hu (pv 0) (pv 1) (fun _ _ => rfl)) (pg_tup (by rfl) (pgs_cons (pg_name (i := 3) nd rfl (Or.inl rfl)) (pgs_cons (pg_name (i := 4) nd rfl (Or.inl rfl)) pgs_nil))))
          (pss_cons (ps_if (pt_cmpR op_ne (pv 3) (pv 2) (nomark _))
            (pss_one (L2N.ps_raise rfl (L2N.takes_of rfl rfl rfl rfl) (L2N.pmk_own PySem.F.excBase_ValueError T.x_BadValue T.g_BadValue T.k_BadValue (raises_own T.s_BadValue T.t_BadValue) (by exact rfl))))
            pss_nil)
          (pss_one (ps_ret (pv 4)))))), ?_⟩
    cases hf : B f with
    | none =>
      have hv := (hB f).1 hf
      refine ⟨_, rfl, _, rfl, d, _, rfl, DGet.t (k := keyOf f) hd hp, _, rfl, ?_⟩
      rw [hv]
      refine iteT ?_
      exact kN hf
    | some x =>
      obtain ⟨g, rs⟩ := x
      obtain ⟨v, hv, a, r, rfl, hq, hR⟩ := (hB f).2 g rs hf
      refine ⟨_, rfl, _, rfl, d, _, rfl, DGet.t (k := keyOf f) hd hp, _, rfl, ?_⟩
      rw [hv]
      refine iteF ?_
      refine ⟨_, rfl, _, rfl, d, _, rfl, by rw [← hv]; exact DGet.t (k := keyOf f) hd hp, a, _, rfl, hq, rfl, _, _, rfl, _, _, rfl, rfl, ?_⟩
      refine ⟨_, rfl, _, rfl, rfl, _, rfl, ?_⟩
      by_cases hg : g = n
      · subst hg
        exact iteNS rfl ⟨_, rfl, k rs hf r hR⟩
      · rw [decide_eq_false (show ¬ V.int (g : Int) = V.int (n : Int) from fun z => hg (by injection z with z; omega))]
        exact iteT (kV g rs hf hg)
end
end K90

set_option Elab.async false
set_option linter.all false
set_option maxRecDepth 100000
set_option maxHeartbeats 4000000
namespace K90
open PySem PySem.Spec PyProof.Rows L2 Ru Rp Mch
theorem isT {x y : V} {A B : Prop} (e : x = y) (h : A) : if decide (x = y) = true then A else B := by
  rw [decide_eq_true e]; exact iteT h
theorem isF {x y : V} {A B : Prop} (e : ¬ x = y) (h : B) : if decide (x = y) = true then A else B := by
  rw [decide_eq_false e]; exact iteF h
theorem sl_le {n : Nat} (h : n ≤ 10000000) : n ≤ sizeLine := Nat.le_trans h (by decide)
theorem sl_lt {n : Nat} (h : n ≤ 10000000) : n < sizeLine := Nat.lt_of_le_of_lt h (by decide)
theorem last_at {α : Type} (q : List α) (v : α) : (q ++ [v])[(q ++ [v]).length - 1]? = some v := by simp
theorem snoc_of {α : Type} {l : List α} (h : l ≠ []) : ∃ q x, l = q ++ [x] := ⟨l.dropLast, l.getLast h, (List.dropLast_concat_getLast h).symm⟩
section
variable {P : Program} {w : World} {K : PySem.W.Frag} {mg : Str → Option Value} {base : Heap}
abbrev N_is_great : List Str := ["cell", "todo", "many"]
theorem sc_is_great : FnScope N_is_great ["cell"] (defScope s_is_great) := ⟨rfl, rfl, rfl, by decide +kernel, rfl, by decide +kernel, by decide +kernel⟩
def spGreat (K : PySem.W.Frag) : Sp := fun vs H Q _ => ∃ (v : V) (c : Cell), vs = [v] ∧ CellAt K H v c ∧ c.size ≤ 100000 ∧ ∀ H', Same H H' → Q (.bl (decide (256 < c.size))) H'
theorem ok_is_great (T : Txt K mg) : FnOk P w K mg base CX0 1 T.f_is_great T.fd_is_great ["cell"] (spGreat K) := by
  refine T.F_is_great.ok sc_is_great (fun vs H Q E h => ?_) (fun cdv A outer s H vs Q E hr h => ?_)
  · obtain ⟨v, c, rfl, _⟩ := h
    rfl
  · obtain ⟨v, c, rfl, hc, hz, k⟩ := h
    have nd := sc_is_great.nd
    refine ⟨_, (pss_cons (ps_par (i := 1) (j := 2) (by rfl) nd rfl rfl (by decide) rfl rfl (pa_cons (pe_lst (pa_cons (pv 0) pa_nil)) (pa_cons pe_int pa_nil)) (by rfl))
          (pss_cons (ps_while PassesOwn.never (pt_truth (pv 1) (by intro _; rfl))
            (pss_cons (ps_aug (i := 2) nd rfl (Or.inl rfl) pe_int ip_add)
            (pss_cons (ps_if (pt_cmpR op_gt (pv 2) (pe_glob rfl T.g_MOST_CELLS T.r_MOST_CELLS) (nomark _))
              (pss_one (ps_ret pe_bl))
              pss_nil)
            (pss_one (ps_expr (pe_bm PySem.F.plainAttrs_list PySem.F.slot_list_extend PySem.F.type_list_extend mt_extendT (pv 1) (pa_cons (pe_ix ix_tup (pe_bm0 PySem.F.plainAttrs_list PySem.F.slot_list_pop PySem.F.type_list_pop mt_pop (pv 1)) pe_int (fun _ _ => rfl)) pa_nil)))))))
          (pss_one (ps_ret pe_bl)))), ?_⟩
    refine ⟨_, rfl, sl_le (by show 1 ≤ 10000000; decide), fun l hl => ⟨_, _, rfl, ?_⟩⟩
    have t0 : TEx H (upd H l (.lst [v])) := TEx.upd_new hl
    have s0 : Same H (upd H l (.lst [v])) := fun b o e => by rw [upd_ne (ne_of_none e hl)]; exact e
    refine ⟨fun n σ H' => ∃ (xs : List V) (ds : List Cell) (m : Nat), σ = [some v, some (.ref l), some (.int (m : Int))] ∧ Same H H' ∧ H' l = some (.lst xs) ∧ CellsAt K H' xs ds ∧ m + sizes ds = c.size ∧ m ≤ 256 ∧ n = sizes ds,
      ⟨sizes [c], [v], [c], 0, rfl, s0, upd_same, cells_one (hc.to t0), by simp [sizes], by omega, rfl⟩, ?_⟩
    rintro n σ H' ⟨xs, ds, m, rfl, s1, h1, hd, hm, hm2, rfl⟩
    refine ⟨_, rfl, _, .inl ⟨xs, SqL.of h1, rfl⟩, ?_⟩
    by_cases he : ds = []
    · subst he
      have := cells_nil.mp hd
      subst this
      refine iteF ?_
      have e : decide (256 < c.size) = false := decide_eq_false (by simp [sizes] at hm; omega)
      rw [e] at k
      exact k H' s1
    · obtain ⟨es, d, rfl⟩ := snoc_of he
      obtain ⟨q, y, rfl, g1, g2⟩ := cells_last hd
      have et : (!(q ++ [y]).isEmpty) = true := by simp
      rw [et]
      refine iteT ⟨fun σ2 H2 => ∃ m', m' < sizes (es ++ [d]) ∧ ∃ (xs : List V) (ds : List Cell) (m : Nat), σ2 = [some v, some (.ref l), some (.int (m : Int))] ∧ Same H H2 ∧ H2 l = some (.lst xs) ∧ CellsAt K H2 xs ds ∧ m + sizes ds = c.size ∧ m ≤ 256 ∧ m' = sizes ds, fun _ _ z => z, ?_⟩
      refine ⟨_, rfl, _, _, rfl, rfl, ?_⟩
      refine ⟨_, rfl, _, _, rfl, rfl, _, rfl, ?_⟩
      refine ite2 (fun z => ?_) (fun z => ?_)
      · have z' : (256 : Int) < (m : Int) + 1 := of_decide_eq_true z
        have hp := size_pos d
        rw [sizes_append] at hm
        simp only [sizes] at hm
        have e : decide (256 < c.size) = true := decide_eq_true (by omega)
        rw [e] at k
        exact k H' s1
      · have z' : ¬ (256 : Int) < (m : Int) + 1 := fun q => z (decide_eq_true q)
        obtain ⟨dn, dcs⟩ := d
        obtain ⟨a, b, vs, rfl, q1, q2, q3⟩ := cellAt_mk.mp g2
        have t1 : TEx H' (upd H' l (.lst q)) := TEx.upd_lst h1
        have ed : (q ++ [V.ref a]).dropLast = q := by simp
        have hsz : sizes (es ++ [Cell.mk dn dcs]) = sizes es + 1 + sizes dcs := by rw [sizes_append]; simp [sizes, Cell.size]; omega
        have l1 : q.length = es.length := cells_len g1
        have l2 : vs.length = dcs.length := cells_len q3
        have l3 := length_le_sizes es
        have l4 := length_le_sizes dcs
        refine ⟨_, rfl, .inl ⟨rfl, _, SqL.of h1⟩, _, rfl, .inl ⟨rfl, _, SqL.of h1⟩, l, _, _, rfl, rfl, h1, last_at _ _, ?_⟩
        rw [ed]
        refine ⟨a, _, _, _, rfl, rfl, t1.sq q1, rfl, l, b, q, vs, rfl, rfl, upd_same, t1.sq q2, sl_le (by omega), ?_⟩
        rw [upd_upd]
        have t2 : TEx H' (upd H' l (.lst (q ++ vs))) := TEx.upd_lst h1
        refine ⟨sizes (es ++ dcs), by rw [hsz, sizes_append]; omega, q ++ vs, es ++ dcs, m + 1, ?_, ?_, upd_same, cells_append (g1.to t2) (q3.to t2), by rw [sizes_append]; omega, by omega, rfl⟩
        · rfl
        · intro b' o e
          have nb : b' ≠ l := ne_of_none e hl
          rw [upd_ne nb]
          exact s1 b' o e
end
end K90

set_option Elab.async false
set_option linter.all false
set_option maxRecDepth 100000
set_option maxHeartbeats 4000000
namespace K90
open PySem PySem.Spec PyProof.Rows L2 Ru Rp Mch
section
variable {P : Program} {w : World} {K : PySem.W.Frag} {mg : Str → Option Value} {base : Heap}
theorem bool_at (T : Txt K mg) {H : Hp} (b : Bool) : CellAt K H (if b = true then .ref T.a_YES else .ref T.a_NO) (boolC b) := by
  have e : ∀ c : Addr, (∃ (o : Obj) (n : Nat), K.lookup c = some o ∧ o.cls = .type "tuple" ∧ o.data = .seq #[] n) → SqT K H c [] := fun c ⟨o, n, h1, h2, h3⟩ => .inr ⟨o, _, n, h1, h2, h3, Nat.zero_le _, .nil⟩
  have f : ∀ (a c : Addr) (i : Int), (∃ (o : Obj) (t : Tok) (n : Nat), K.lookup a = some o ∧ o.cls = .type "tuple" ∧ o.data = .seq #[.int i t, .ref c] n) → SqT K H a [.int i, .ref c] := fun a c i ⟨o, t, n, h1, h2, h3⟩ =>
    .inr ⟨o, _, n, h1, h2, h3, sl_le (by show 2 ≤ 10000000; decide), .cons ⟨t, rfl⟩ (.cons rfl .nil)⟩
  cases b with
  | true => exact cellAt_mk.mpr ⟨_, _, [], rfl, f _ _ _ T.t_YES, e _ T.e_YES, cells_nil.mpr rfl⟩
  | false => exact cellAt_mk.mpr ⟨_, _, [], rfl, f _ _ _ T.t_NO, e _ T.e_NO, cells_nil.mpr rfl⟩
abbrev N_do_row : List Str := ["row", "held", "stack", "word"]
theorem sc_do_row : FnScope N_do_row ["row", "held", "stack"] (defScope s_do_row) := ⟨rfl, rfl, rfl, by decide +kernel, rfl, by decide +kernel, by decide +kernel⟩
/-- what a row that is no jump, call or end does -/
inductive DoR (r : Row Nm) (held st : List Cell) : Option (List Cell × List Cell) → Prop
  | ok {held' st'} : Simp1 r held st held' st' → DoR r held st (some (held', st'))
  | great {m n} : r = .make m n → n ≤ st.length → 256 < 1 + sizes (st.take n) → sizes (st.take n) ≤ 90000 → DoR r held st none
def spDoRow (T : Txt K mg) : Sp := fun vs H Q E => ∃ (vr : V) (h s : Addr) (hv sv : List V) (r : Row Nm) (held st : List Cell) (x : Option (List Cell × List Cell)), vs = [vr, .ref h, .ref s] ∧ RowAt K H vr r ∧ h ≠ s ∧
  H h = some (.lst hv) ∧ CellsAt K H hv held ∧ H s = some (.lst sv) ∧ CellsAt K H sv st.reverse ∧ held.length ≤ 5000000 ∧ st.length ≤ 5000000 ∧ DoR r held st x ∧
  (∀ (held' st' : List Cell), x = some (held', st') → ∀ (H' : Hp) (hv' sv' : List V), But2 H H' h s → H' h = some (.lst hv') → CellsAt K H' hv' held' → H' s = some (.lst sv') → CellsAt K H' sv' st'.reverse → Q .non H') ∧
  (x = none → ∀ H' : Hp, But2 H H' h s → E (.ref T.C_TooLong) none H')
theorem ok_do_row (T : Txt K mg) : FnOk P w K mg base (L2N.CX P w) 30 T.f_do_row T.fd_do_row ["row", "held", "stack"] (spDoRow T) := by
  refine Hl.okN T.F_do_row sc_do_row (fun vs H Q E h => ?_) (fun cdv A outer sh H vs Q E hr h => ?_)
  · obtain ⟨vr, h, s, hv, sv, r, held, st, x, rfl, _⟩ := h
    rfl
  · obtain ⟨vr, h, s, hv, sv, r, held, st, x, rfl, ⟨ar, rfl, hr0⟩, hne, eh, ch, es, cs, lh, ls, hX, kOk, kBad⟩ := h
    have nd := sc_do_row.nd
    have hu := hu_of hr
    have hum : (A.deeper (envOfC (Str.ofString "do_row") (defScope s_do_row) sh.heap.objs.size T.f_do_row cdv)).units + 520 < cLine := by have := hr.un; omega
    have G_popped : FnOk P w K mg base CX0 1 T.f_popped T.fd_popped ["stack", "many"] spPopped := ok_popped T
    have G_is_great : FnOk P w K mg base CX0 1 T.f_is_great T.fd_is_great ["cell"] (spGreat K) := ok_is_great T
    have hr_popped : Room 1 _ := hr.mono (by decide)
    have hr_is_great : Room 1 _ := hr.mono (by decide)
    refine ⟨_, (pss_cons (ps_set (i := 3) nd rfl (Or.inl rfl) (pe_ix ix_tup (pv 0) pe_int (fun _ _ => rfl)))
          (pss_one (ps_if (pt_cmpR op_eq (pv 3) pe_str (nomark _))
            (pss_one (ps_expr (pe_bm PySem.F.plainAttrs_list PySem.F.slot_list_append PySem.F.type_list_append mt_append (pv 2) (pa_cons (pe_ix ix_list (pv 1) (pe_ix ix_tup (pv 0) pe_int (fun _ _ => rfl)) (fun _ _ => rfl)) pa_nil))))
            (pss_one (ps_if (pt_cmpR op_eq (pv 3) pe_str (nomark _))
              (pss_one (ps_expr (pe_bm0 PySem.F.plainAttrs_list PySem.F.slot_list_pop PySem.F.type_list_pop mt_pop (pv 2))))
              (pss_one (ps_if (pt_cmpR op_eq (pv 3) pe_str (nomark _))
                (pss_one (ps_expr (pe_bm PySem.F.plainAttrs_list PySem.F.slot_list_append PySem.F.type_list_append mt_append (pv 1) (pa_cons (pe_bm0 PySem.F.plainAttrs_list PySem.F.slot_list_pop PySem.F.type_list_pop mt_pop (pv 2)) pa_nil))))
                (pss_one (ps_if (pt_cmpR op_eq (pv 3) pe_str (nomark _))
                  (pss_one (ps_delFrom (pv 1) (pe_op op_sub (pe_callB call_len_seq (by rfl) T.z_len (by decide +kernel) (pa_cons (pv 1) pa_nil)) (pe_ix ix_tup (pv 0) pe_int (fun _ _ => rfl)))))
                  (pss_one (ps_if (pt_cmpR op_eq (pv 3) pe_str (nomark _))
                    (pss_one (ps_expr (pe_bm PySem.F.plainAttrs_list PySem.F.slot_list_append PySem.F.type_list_append mt_append (pv 2) (pa_cons (pe_ix ix_tup (pe_ix ix_tup (pe_bm0 PySem.F.plainAttrs_list PySem.F.slot_list_pop PySem.F.type_list_pop mt_pop (pv 2)) pe_int (fun _ _ => rfl)) (pe_ix ix_tup (pv 0) pe_int (fun _ _ => rfl)) (fun _ _ => rfl)) pa_nil))))
                    (pss_one (ps_if (pt_cmpR op_eq (pv 3) pe_str (nomark _))
                      (pss_cons (ps_expr (pe_bm PySem.F.plainAttrs_list PySem.F.slot_list_append PySem.F.type_list_append mt_append (pv 2) (pa_cons (pe_tup (pa_cons (pe_ix ix_tup (pv 0) pe_int (fun _ _ => rfl)) (pa_cons (pe_callTy call_tuple_of (by rfl) T.z_tuple (by decide +kernel) (pa_cons (pe_call G_popped hr_popped rfl T.g_popped T.k_popped T.b_popped .nil pass0 (pa_cons (pv 2) (pa_cons (pe_ix ix_tup (pv 0) pe_int (fun _ _ => rfl)) pa_nil))) pa_nil)) pa_nil))) pa_nil)))
                      (pss_one (ps_if (pt_val (pe_call G_is_great hr_is_great rfl T.g_is_great T.k_is_great T.b_is_great .nil pass0 (pa_cons (pe_ix ix_list (pv 2) (pe_un un_neg pe_int) (fun _ _ => rfl)) pa_nil)))
                        (pss_one (L2N.ps_raise rfl (L2N.takes_of rfl rfl rfl rfl) (L2N.pmk_own PySem.F.excBase_ValueError T.x_TooLong T.g_TooLong T.k_TooLong (raises_own T.s_TooLong T.t_TooLong) (by exact rfl))))
                        pss_nil)))
                      (pss_one (ps_expr (pe_bm PySem.F.plainAttrs_list PySem.F.slot_list_append PySem.F.type_list_append mt_append (pv 2) (pa_cons (pe_ifExp (pt_cmpR (op_eqM hum) (pe_bm0 PySem.F.plainAttrs_list PySem.F.slot_list_pop PySem.F.type_list_pop mt_pop (pv 2)) (pe_bm0 PySem.F.plainAttrs_list PySem.F.slot_list_pop PySem.F.type_list_pop mt_pop (pv 2)) (nomark _)) (pe_glob (v := .ref T.a_YES) rfl T.g_YES rfl) (pe_glob (v := .ref T.a_NO) rfl T.g_NO rfl)) pa_nil))))))))))))))))), ?_⟩
    have len_h := cells_len ch
    have len_s := cells_len cs
    rw [List.length_reverse] at len_s
    cases hX with
    | @ok held' st' hS =>
      have k := kOk held' st' rfl
      cases hS with
      | @loc n _ _ c hc =>
        refine ⟨_, rfl, ar, _, _, _, rfl, rfl, hr0, rfl, ?_⟩
        refine ⟨_, rfl, rfl, _, rfl, isT (by decide +kernel) ?_⟩
        obtain ⟨v, e1, e2⟩ := cells_get ch hc
        refine ⟨_, rfl, .inl ⟨rfl, _, SqL.of es⟩, _, rfl, _, rfl, ar, _, _, _, rfl, rfl, hr0, rfl, h, hv, _, v, rfl, rfl, SqL.of eh, atI_nat e1, s, sv, v, rfl, rfl, es, sl_lt (by omega), ?_⟩
        have t : TEx H (upd H s (.lst (sv ++ [v]))) := TEx.upd_lst es
        exact k _ hv (sv ++ [v]) (fun b o e n1 n2 => by rw [upd_ne n2]; exact e) (by rw [upd_ne hne]; exact eh) (ch.to t) upd_same (by rw [List.reverse_cons]; exact cells_snoc (cs.to t) (e2.to t))
      | @drop _ c st2 =>
        refine ⟨_, rfl, ar, _, _, _, rfl, rfl, hr0, rfl, ?_⟩
        refine ⟨_, rfl, rfl, _, rfl, isF (by decide +kernel) ?_⟩
        refine ⟨_, rfl, rfl, _, rfl, isT (by decide +kernel) ?_⟩
        rw [List.reverse_cons] at cs
        obtain ⟨q, y, rfl, g1, g2⟩ := cells_last cs
        refine ⟨_, rfl, .inl ⟨rfl, _, SqL.of es⟩, s, _, _, rfl, rfl, es, last_at _ _, ?_⟩
        rw [List.dropLast_concat]
        have t : TEx H (upd H s (.lst q)) := TEx.upd_lst es
        exact k _ hv q (fun b o e n1 n2 => by rw [upd_ne n2]; exact e) (by rw [upd_ne hne]; exact eh) (ch.to t) upd_same (g1.to t)
      | @keep _ c st2 =>
        refine ⟨_, rfl, ar, _, _, _, rfl, rfl, hr0, rfl, ?_⟩
        refine ⟨_, rfl, rfl, _, rfl, isF (by decide +kernel) ?_⟩
        refine ⟨_, rfl, rfl, _, rfl, isF (by decide +kernel) ?_⟩
        refine ⟨_, rfl, rfl, _, rfl, isT (by decide +kernel) ?_⟩
        rw [List.reverse_cons] at cs
        obtain ⟨q, y, rfl, g1, g2⟩ := cells_last cs
        refine ⟨_, rfl, .inl ⟨rfl, _, SqL.of eh⟩, _, rfl, .inl ⟨rfl, _, SqL.of es⟩, s, _, _, rfl, rfl, es, last_at _ _, ?_⟩
        rw [List.dropLast_concat]
        have t : TEx H (upd H s (.lst q)) := TEx.upd_lst es
        have eh' : (upd H s (.lst q)) h = some (.lst hv) := by rw [upd_ne hne]; exact eh
        refine ⟨h, hv, y, rfl, rfl, eh', sl_lt (by omega), ?_⟩
        have t2 : TEx H (upd (upd H s (.lst q)) h (.lst (hv ++ [y]))) := t.trans (TEx.upd_lst eh')
        exact k _ (hv ++ [y]) q (fun b o e n1 n2 => by rw [upd_ne n1, upd_ne n2]; exact e) upd_same (cells_snoc (ch.to t2) (g2.to t2)) (by rw [upd_ne hne.symm]; exact upd_same) (g1.to t2)
      | @forget n _ _ hn =>
        refine ⟨_, rfl, ar, _, _, _, rfl, rfl, hr0, rfl, ?_⟩
        refine ⟨_, rfl, rfl, _, rfl, isF (by decide +kernel) ?_⟩
        refine ⟨_, rfl, rfl, _, rfl, isF (by decide +kernel) ?_⟩
        refine ⟨_, rfl, rfl, _, rfl, isF (by decide +kernel) ?_⟩
        refine ⟨_, rfl, rfl, _, rfl, isT (by decide +kernel) ?_⟩
        refine ⟨_, rfl, _, rfl, h, hv, rfl, .inl (SqL.of eh), _, rfl, ar, _, _, _, rfl, rfl, hr0, rfl, _, _, rfl, rfl, h, hv, held.length - n, rfl, congrArg V.int (by omega), eh, by omega, ?_⟩
        have t : TEx H (upd H h (.lst (hv.take (held.length - n)))) := TEx.upd_lst eh
        exact k _ (hv.take (held.length - n)) sv (fun b o e n1 n2 => by rw [upd_ne n1]; exact e) upd_same (cells_take _ (ch.to t)) (by rw [upd_ne hne.symm]; exact es) (cs.to t)
      | @part n _ m ds c st2 hc =>
        refine ⟨_, rfl, ar, _, _, _, rfl, rfl, hr0, rfl, ?_⟩
        refine ⟨_, rfl, rfl, _, rfl, isF (by decide +kernel) ?_⟩
        refine ⟨_, rfl, rfl, _, rfl, isF (by decide +kernel) ?_⟩
        refine ⟨_, rfl, rfl, _, rfl, isF (by decide +kernel) ?_⟩
        refine ⟨_, rfl, rfl, _, rfl, isF (by decide +kernel) ?_⟩
        refine ⟨_, rfl, rfl, _, rfl, isT (by decide +kernel) ?_⟩
        rw [List.reverse_cons] at cs
        obtain ⟨q, y, rfl, g1, g2⟩ := cells_last cs
        obtain ⟨a, b, vs, rfl, q1, q2, q3⟩ := cellAt_mk.mp g2
        obtain ⟨v, e1, e2⟩ := cells_get q3 hc
        have t : TEx H (upd H s (.lst q)) := TEx.upd_lst es
        refine ⟨_, rfl, .inl ⟨rfl, _, SqL.of es⟩, _, rfl, .inl ⟨rfl, _, SqL.of es⟩, s, _, _, rfl, rfl, es, last_at _ _, ?_⟩
        rw [List.dropLast_concat]
        refine ⟨a, _, _, _, rfl, rfl, t.sq q1, rfl, _, rfl, ar, _, _, _, rfl, rfl, t.sq hr0, rfl, b, vs, _, v, rfl, rfl, t.sq q2, atI_nat e1, ?_⟩
        have l1 := cells_len g1
        refine ⟨s, _, v, rfl, rfl, upd_same, sl_lt (by simp at len_s ls; omega), ?_⟩
        rw [upd_upd]
        have t2 : TEx H (upd H s (.lst (q ++ [v]))) := TEx.upd_lst es
        exact k _ hv (q ++ [v]) (fun b o e n1 n2 => by rw [upd_ne n2]; exact e) (by rw [upd_ne hne]; exact eh) (ch.to t2) upd_same (by rw [List.reverse_cons]; exact cells_snoc (g1.to t2) (e2.to t2))
      | @make m n _ _ hn hz =>
        refine ⟨_, rfl, ar, _, _, _, rfl, rfl, hr0, rfl, ?_⟩
        refine ⟨_, rfl, rfl, _, rfl, isF (by decide +kernel) ?_⟩
        refine ⟨_, rfl, rfl, _, rfl, isF (by decide +kernel) ?_⟩
        refine ⟨_, rfl, rfl, _, rfl, isF (by decide +kernel) ?_⟩
        refine ⟨_, rfl, rfl, _, rfl, isF (by decide +kernel) ?_⟩
        refine ⟨_, rfl, rfl, _, rfl, isF (by decide +kernel) ?_⟩
        refine ⟨_, rfl, rfl, _, rfl, isT (by decide +kernel) ?_⟩
        refine ⟨_, rfl, .inl ⟨rfl, _, SqL.of es⟩, _, rfl, ar, _, _, _, rfl, rfl, hr0, rfl, _, rfl, _, rfl, ar, _, _, _, rfl, rfl, hr0, rfl, ?_⟩
        refine ⟨s, sv, n, rfl, es, by omega, fun p hp => ?_⟩
        have nps : s ≠ p := ne_of_none es hp
        have nph : h ≠ p := ne_of_none eh hp
        have nap : ∀ a xs, Rd H a (.tup xs) → a ≠ p := fun a xs r => by rcases r with r | ⟨o, r⟩ <;> exact ne_of_none r hp
        have t1 : TEx H (upd H p (.lst (sv.drop (sv.length - n)))) := TEx.upd_new hp
        have es1 : (upd H p (.lst (sv.drop (sv.length - n)))) s = some (.lst sv) := by rw [upd_ne nps]; exact es
        have t2 : TEx H (upd (upd H p (.lst (sv.drop (sv.length - n)))) s (.lst (sv.take (sv.length - n)))) := t1.trans (TEx.upd_lst es1)
        have esplit : sv.length - n = st.length - n := by omega
        have c1 : CellsAt K H (sv.take (sv.length - n)) (st.drop n).reverse := by
          have := cells_take (sv.length - n) cs
          rw [List.take_reverse, esplit] at this
          rw [esplit]
          rw [show st.length - (st.length - n) = n by omega] at this
          exact this
        have c2 : CellsAt K H (sv.drop (sv.length - n)) (st.take n).reverse := by
          have := cells_drop (sv.length - n) cs
          rw [List.drop_reverse, esplit] at this
          rw [esplit]
          rw [show st.length - (st.length - n) = n by omega] at this
          exact this
        -- tuple(..)
        refine ⟨p, _, rfl, .inl ⟨SqL.of (by rw [upd_ne nps.symm]; exact upd_same), fun t ht => ?_⟩⟩
        have hts : s ≠ t := ne_of_none (H := upd (upd H p (.lst (sv.drop (sv.length - n)))) s (.lst (sv.take (sv.length - n)))) upd_same ht
        have htp : p ≠ t := ne_of_none (H := upd (upd H p (.lst (sv.drop (sv.length - n)))) s (.lst (sv.take (sv.length - n)))) (by rw [upd_ne nps.symm]; exact upd_same) ht
        have t3 := t2.trans (TEx.upd_new (o := .tup (sv.drop (sv.length - n))) ht)
        refine ⟨sl_le (by show 2 ≤ 10000000; decide), fun u hu' => ?_⟩
        have t4 := t3.trans (TEx.upd_new (o := .tup [.int m, .ref t]) hu')
        have hus : s ≠ u := ne_of_none (H := upd (upd (upd H p (.lst (sv.drop (sv.length - n)))) s (.lst (sv.take (sv.length - n)))) t (.tup (sv.drop (sv.length - n)))) (by rw [upd_ne hts]; exact upd_same) hu'
        have htu : t ≠ u := ne_of_none (H := upd (upd (upd H p (.lst (sv.drop (sv.length - n)))) s (.lst (sv.take (sv.length - n)))) t (.tup (sv.drop (sv.length - n)))) upd_same hu'
        have es4 : (upd (upd (upd (upd H p (.lst (sv.drop (sv.length - n)))) s (.lst (sv.take (sv.length - n)))) t (.tup (sv.drop (sv.length - n)))) u (.tup [.int m, .ref t])) s = some (.lst (sv.take (sv.length - n))) := by
          rw [upd_ne hus, upd_ne hts]; exact upd_same
        refine ⟨s, _, .ref u, rfl, rfl, es4, sl_lt (by rw [List.length_take]; omega), ?_⟩
        have t5 := t4.trans (TEx.upd_lst (ys := sv.take (sv.length - n) ++ [.ref u]) es4)
        have hh4 : ∀ b o, H b = some o → b ≠ s → (upd (upd (upd (upd (upd H p (.lst (sv.drop (sv.length - n)))) s (.lst (sv.take (sv.length - n)))) t (.tup (sv.drop (sv.length - n)))) u (.tup [.int m, .ref t])) s (.lst (sv.take (sv.length - n) ++ [.ref u]))) b = some o := fun b o e n2 => by
          have z1 : b ≠ p := ne_of_none e hp
          have e1 : (upd (upd H p (.lst (sv.drop (sv.length - n)))) s (.lst (sv.take (sv.length - n)))) b = some o := by rw [upd_ne n2, upd_ne z1]; exact e
          have z2 : b ≠ t := ne_of_none e1 ht
          have e2 : (upd (upd (upd H p (.lst (sv.drop (sv.length - n)))) s (.lst (sv.take (sv.length - n)))) t (.tup (sv.drop (sv.length - n)))) b = some o := by rw [upd_ne z2]; exact e1
          have z3 : b ≠ u := ne_of_none e2 hu'
          rw [upd_ne n2, upd_ne z3]; exact e2
        have newc : CellAt K (upd (upd (upd (upd (upd H p (.lst (sv.drop (sv.length - n)))) s (.lst (sv.take (sv.length - n)))) t (.tup (sv.drop (sv.length - n)))) u (.tup [.int m, .ref t])) s (.lst (sv.take (sv.length - n) ++ [.ref u]))) (.ref u) (.mk m (st.take n).reverse) :=
          cellAt_mk.mpr ⟨u, t, sv.drop (sv.length - n), rfl, SqT.of (by rw [upd_ne hus.symm]; exact upd_same), SqT.of (by rw [upd_ne hts.symm, upd_ne htu]; exact upd_same), c2.to t5⟩
        -- is_great
        have al : atI (sv.take (sv.length - n) ++ [V.ref u]) (-1) = some (V.ref u) := atI_last _ _
        refine ⟨_, rfl, _, rfl, s, _, _, _, rfl, rfl, SqL.of upd_same, al, ?_⟩
        refine ⟨.ref u, _, rfl, newc, ?_, fun H' s' => ?_⟩
        · simp only [Cell.size, sizes_reverse]; omega
        have e : decide (256 < (Cell.mk m (st.take n).reverse).size) = false := decide_eq_false (by simp only [Cell.size, sizes_reverse]; omega)
        rw [e]
        refine ⟨_, rfl, iteF ?_⟩
        have t6 := t5.trans (TEx.of_same s')
        exact k H' hv (sv.take (sv.length - n) ++ [.ref u]) (fun b o e n1 n2 => s' _ _ (hh4 b o e n2)) (s' _ _ (hh4 h _ eh hne)) (ch.to t6) (s' _ _ upd_same) (by rw [List.reverse_cons]; exact cells_snoc (c1.to t6) (newc.to (TEx.of_same s')))
      | @same _ c d st2 hcz =>
        refine ⟨_, rfl, ar, _, _, _, rfl, rfl, hr0, rfl, ?_⟩
        refine ⟨_, rfl, rfl, _, rfl, isF (by decide +kernel) ?_⟩
        refine ⟨_, rfl, rfl, _, rfl, isF (by decide +kernel) ?_⟩
        refine ⟨_, rfl, rfl, _, rfl, isF (by decide +kernel) ?_⟩
        refine ⟨_, rfl, rfl, _, rfl, isF (by decide +kernel) ?_⟩
        refine ⟨_, rfl, rfl, _, rfl, isF (by decide +kernel) ?_⟩
        refine ⟨_, rfl, rfl, _, rfl, isF (by decide +kernel) ?_⟩
        rw [List.reverse_cons, List.reverse_cons] at cs
        obtain ⟨q, y, rfl, g1, g2⟩ := cells_last cs
        obtain ⟨q', y', rfl, g3, g4⟩ := cells_last g1
        have l1 := cells_len g3
        have t : TEx H (upd H s (.lst (q' ++ [y'] ++ [y]).dropLast)) := TEx.upd_lst es
        have t2 : TEx H (upd H s (.lst q')) := TEx.upd_lst es
        refine ⟨_, rfl, .inl ⟨rfl, _, SqL.of es⟩, _, rfl, .inl ⟨rfl, _, SqL.of es⟩, s, _, _, rfl, rfl, es, last_at _ _, ?_⟩
        refine ⟨_, rfl, .inl ⟨rfl, _, SqL.of upd_same⟩, s, _, y', rfl, rfl, upd_same, by rw [List.dropLast_concat]; exact last_at _ _, ?_⟩
        rw [upd_upd, List.dropLast_concat, List.dropLast_concat]
        refine ⟨cellD c, cellD d, cell_dp c y (g2.to t2), cell_dp d y' (g4.to t2), cell_can c, cell_can d, Nat.le_trans (Nat.min_le_left _ _) (Nat.le_trans (cell_depth c) (by omega : 2 * c.depth ≤ 520)), _, rfl, ?_⟩
        rw [cell_eqv]
        have bt := fun H' => bool_at T (H := H') (c.eqb d)
        have fin : ∀ v, v = (if (c.eqb d) = true then V.ref T.a_YES else V.ref T.a_NO) → ∃ l xs y, V.ref s = V.ref l ∧ [v] = [y] ∧ (upd H s (.lst q')) l = some (.lst xs) ∧ xs.length < sizeLine ∧
            (fun (x : V) H' => Q .non H') .non (upd (upd H s (.lst q')) l (.lst (xs ++ [y]))) := fun v ev => by
          refine ⟨s, _, v, rfl, rfl, upd_same, sl_lt (by simp at len_s ls; omega), ?_⟩
          rw [upd_upd]
          have t3 : TEx H (upd H s (.lst (q' ++ [v]))) := TEx.upd_lst es
          refine k _ hv _ (fun b o e n1 n2 => by rw [upd_ne n2]; exact e) (by rw [upd_ne hne]; exact eh) (ch.to t3) upd_same ?_
          rw [List.reverse_cons]
          exact cells_snoc (g3.to t3) (by rw [ev]; exact bt _)
        cases hb : c.eqb d with
        | true =>
          rw [hb] at fin
          exact iteT (fin (.ref T.a_YES) rfl)
        | false =>
          rw [hb] at fin
          exact iteF (fin (.ref T.a_NO) rfl)
    | @great m n hrm hn hz hzz =>
      subst hrm
      refine ⟨_, rfl, ar, _, _, _, rfl, rfl, hr0, rfl, ?_⟩
      refine ⟨_, rfl, rfl, _, rfl, isF (by decide +kernel) ?_⟩
      refine ⟨_, rfl, rfl, _, rfl, isF (by decide +kernel) ?_⟩
      refine ⟨_, rfl, rfl, _, rfl, isF (by decide +kernel) ?_⟩
      refine ⟨_, rfl, rfl, _, rfl, isF (by decide +kernel) ?_⟩
      refine ⟨_, rfl, rfl, _, rfl, isF (by decide +kernel) ?_⟩
      refine ⟨_, rfl, rfl, _, rfl, isT (by decide +kernel) ?_⟩
      refine ⟨_, rfl, .inl ⟨rfl, _, SqL.of es⟩, _, rfl, ar, _, _, _, rfl, rfl, hr0, rfl, _, rfl, _, rfl, ar, _, _, _, rfl, rfl, hr0, rfl, ?_⟩
      refine ⟨s, sv, n, rfl, es, by omega, fun p hp => ?_⟩
      have nps : s ≠ p := ne_of_none es hp
      have nph : h ≠ p := ne_of_none eh hp
      have nap : ∀ a xs, Rd H a (.tup xs) → a ≠ p := fun a xs r => by rcases r with r | ⟨o, r⟩ <;> exact ne_of_none r hp
      have t1 : TEx H (upd H p (.lst (sv.drop (sv.length - n)))) := TEx.upd_new hp
      have es1 : (upd H p (.lst (sv.drop (sv.length - n)))) s = some (.lst sv) := by rw [upd_ne nps]; exact es
      have t2 : TEx H (upd (upd H p (.lst (sv.drop (sv.length - n)))) s (.lst (sv.take (sv.length - n)))) := t1.trans (TEx.upd_lst es1)
      have esplit : sv.length - n = st.length - n := by omega
      have c1 : CellsAt K H (sv.take (sv.length - n)) (st.drop n).reverse := by
        have := cells_take (sv.length - n) cs
        rw [List.take_reverse, esplit] at this
        rw [esplit]
        rw [show st.length - (st.length - n) = n by omega] at this
        exact this
      have c2 : CellsAt K H (sv.drop (sv.length - n)) (st.take n).reverse := by
        have := cells_drop (sv.length - n) cs
        rw [List.drop_reverse, esplit] at this
        rw [esplit]
        rw [show st.length - (st.length - n) = n by omega] at this
        exact this
      -- tuple(..)
      refine ⟨p, _, rfl, .inl ⟨SqL.of (by rw [upd_ne nps.symm]; exact upd_same), fun t ht => ?_⟩⟩
      have hts : s ≠ t := ne_of_none (H := upd (upd H p (.lst (sv.drop (sv.length - n)))) s (.lst (sv.take (sv.length - n)))) upd_same ht
      have htp : p ≠ t := ne_of_none (H := upd (upd H p (.lst (sv.drop (sv.length - n)))) s (.lst (sv.take (sv.length - n)))) (by rw [upd_ne nps.symm]; exact upd_same) ht
      have t3 := t2.trans (TEx.upd_new (o := .tup (sv.drop (sv.length - n))) ht)
      refine ⟨sl_le (by show 2 ≤ 10000000; decide), fun u hu' => ?_⟩
      have t4 := t3.trans (TEx.upd_new (o := .tup [.int m, .ref t]) hu')
      have hus : s ≠ u := ne_of_none (H := upd (upd (upd H p (.lst (sv.drop (sv.length - n)))) s (.lst (sv.take (sv.length - n)))) t (.tup (sv.drop (sv.length - n)))) (by rw [upd_ne hts]; exact upd_same) hu'
      have htu : t ≠ u := ne_of_none (H := upd (upd (upd H p (.lst (sv.drop (sv.length - n)))) s (.lst (sv.take (sv.length - n)))) t (.tup (sv.drop (sv.length - n)))) upd_same hu'
      have es4 : (upd (upd (upd (upd H p (.lst (sv.drop (sv.length - n)))) s (.lst (sv.take (sv.length - n)))) t (.tup (sv.drop (sv.length - n)))) u (.tup [.int m, .ref t])) s = some (.lst (sv.take (sv.length - n))) := by
        rw [upd_ne hus, upd_ne hts]; exact upd_same
      refine ⟨s, _, .ref u, rfl, rfl, es4, sl_lt (by rw [List.length_take]; omega), ?_⟩
      have t5 := t4.trans (TEx.upd_lst (ys := sv.take (sv.length - n) ++ [.ref u]) es4)
      have hh4 : ∀ b o, H b = some o → b ≠ s → (upd (upd (upd (upd (upd H p (.lst (sv.drop (sv.length - n)))) s (.lst (sv.take (sv.length - n)))) t (.tup (sv.drop (sv.length - n)))) u (.tup [.int m, .ref t])) s (.lst (sv.take (sv.length - n) ++ [.ref u]))) b = some o := fun b o e n2 => by
        have z1 : b ≠ p := ne_of_none e hp
        have e1 : (upd (upd H p (.lst (sv.drop (sv.length - n)))) s (.lst (sv.take (sv.length - n)))) b = some o := by rw [upd_ne n2, upd_ne z1]; exact e
        have z2 : b ≠ t := ne_of_none e1 ht
        have e2 : (upd (upd (upd H p (.lst (sv.drop (sv.length - n)))) s (.lst (sv.take (sv.length - n)))) t (.tup (sv.drop (sv.length - n)))) b = some o := by rw [upd_ne z2]; exact e1
        have z3 : b ≠ u := ne_of_none e2 hu'
        rw [upd_ne n2, upd_ne z3]; exact e2
      have newc : CellAt K (upd (upd (upd (upd (upd H p (.lst (sv.drop (sv.length - n)))) s (.lst (sv.take (sv.length - n)))) t (.tup (sv.drop (sv.length - n)))) u (.tup [.int m, .ref t])) s (.lst (sv.take (sv.length - n) ++ [.ref u]))) (.ref u) (.mk m (st.take n).reverse) :=
        cellAt_mk.mpr ⟨u, t, sv.drop (sv.length - n), rfl, SqT.of (by rw [upd_ne hus.symm]; exact upd_same), SqT.of (by rw [upd_ne hts.symm, upd_ne htu]; exact upd_same), c2.to t5⟩
      -- is_great
      have al : atI (sv.take (sv.length - n) ++ [V.ref u]) (-1) = some (V.ref u) := atI_last _ _
      refine ⟨_, rfl, _, rfl, s, _, _, _, rfl, rfl, SqL.of upd_same, al, ?_⟩
      refine ⟨.ref u, _, rfl, newc, ?_, fun H' s' => ?_⟩
      · simp only [Cell.size, sizes_reverse]; omega
      have e : decide (256 < (Cell.mk m (st.take n).reverse).size) = true := decide_eq_true (by simp only [Cell.size, sizes_reverse]; omega)
      rw [e]
      refine ⟨_, rfl, iteT ?_⟩
      exact kBad rfl H' (fun b o e n1 n2 => s' _ _ (hh4 b o e n2))
end
end K90

set_option Elab.async false
set_option linter.all false
set_option maxRecDepth 100000
set_option maxHeartbeats 4000000
namespace K90
open PySem PySem.Spec PyProof.Rows L2 Ru Rp Mch
theorem simp1_len {r : Row Nm} {held st held' st' : List Cell} (h : Simp1 r held st held' st') : held'.length ≤ held.length + 1 ∧ st'.length ≤ st.length + 1 := by
  cases h <;> simp <;> omega
theorem simp1_word {r : Row Nm} {held st held' st' : List Cell} (h : Simp1 r held st held' st') : ∃ (wd : Str) (rest : List V), rowV r = .str wd :: rest ∧ ¬ V.str wd = .str "call" ∧ ¬ V.str wd = .str "is" ∧ ¬ V.str wd = .str "go" ∧ ¬ V.str wd = .str "back" := by
  cases h <;> exact ⟨_, _, rfl, by decide +kernel, by decide +kernel, by decide +kernel, by decide +kernel⟩
section
variable (K : PySem.W.Frag)
/-- the frames that wait: the last of the list is the youngest -/
def FrsAt (H : Hp) : List V → List (Frame Nm) → List Addr → Prop
  | vs, [], as => vs = [] ∧ as = []
  | vs, fr :: fs, as => ∃ (q : List V) (p ah a : Addr) (as' : List Addr) (rv : V) (hv sv : List V), vs = q ++ [.ref p] ∧ as = ah :: a :: as' ∧ SqT K H p [rv, .int (fr.i : Int), .ref ah, .ref a] ∧ RowsAt K H rv fr.rows ∧
      H ah = some (.lst hv) ∧ CellsAt K H hv fr.held ∧ H a = some (.lst sv) ∧ CellsAt K H sv fr.st.reverse ∧ FrsAt H q fs as'
end
section
variable {P : Program} {w : World} {K : PySem.W.Frag} {mg : Str → Option Value} {base : Heap}
theorem FrsAt.to {H H' : Hp} (t : TEx H H') : ∀ {fs : List (Frame Nm)} {vs : List V} {as : List Addr}, (∀ x ∈ as, ∀ o, H x = some o → H' x = some o) → FrsAt K H vs fs as → FrsAt K H' vs fs as
  | [], _, _, _, h => h
  | fr :: fs, vs, as, e, h => by
    obtain ⟨q, p, ah, a, as', rv, hv, sv, rfl, rfl, h1, h2, h3, h4, h5, h6, h7⟩ := h
    exact ⟨q, p, ah, a, as', rv, hv, sv, rfl, rfl, t.sq h1, h2.to t, e ah (by simp) _ h3, h4.to t, e a (by simp) _ h5, h6.to t, FrsAt.to t (fun x hx => e x (by simp [hx])) h7⟩
theorem frs_mem {H : Hp} : ∀ {fs : List (Frame Nm)} {vs : List V} {as : List Addr}, FrsAt K H vs fs as → ∀ x ∈ as, ∃ o, H x = some o
  | [], _, _, h, x, hx => by
    obtain ⟨_, rfl⟩ := h
    cases hx
  | fr :: fs, vs, as, h, x, hx => by
    obtain ⟨q, p, ah, a, as', rv, hv, sv, rfl, rfl, h1, h2, h3, h4, h5, h6, h7⟩ := h
    rcases List.mem_cons.mp hx with rfl | hx
    · exact ⟨_, h3⟩
    · rcases List.mem_cons.mp hx with rfl | hx
      · exact ⟨_, h5⟩
      · exact frs_mem h7 x hx
/-- what holds between two rows -/
structure RunInv (K : PySem.W.Frag) (H : Hp) (B : Built Nm) (oo : Out) (Lm : Nat) (a0 a1 a2 a3 : V) (m : Nat) (σ : L2.St) (H' : Hp) : Prop where
  ex : ∃ (rv : V) (i : Nat) (ah as al : Addr) (hv sv lv : List V) (calls done : Nat) (x1 x2 x3 x4 x5 : Option V) (fs : List (Frame Nm)) (rows : List (Row Nm)) (held st : List Cell) (fa : List Addr),
    σ = [some a0, some a1, some a2, some a3, some rv, some (.int (i : Int)), some (.ref ah), some (.ref as), some (.ref al), some (.int (calls : Int)), some (.int (done : Int)), x1, x2, x3, x4, x5] ∧
    Same H H' ∧ RowsAt K H' rv rows ∧ H' ah = some (.lst hv) ∧ CellsAt K H' hv held ∧ H' as = some (.lst sv) ∧ CellsAt K H' sv st.reverse ∧ H' al = some (.lst lv) ∧ FrsAt K H' lv fs fa ∧
    (al :: ah :: as :: fa).Nodup ∧ (∀ x ∈ al :: ah :: as :: fa, H x = none) ∧ Ev B m ⟨fs, rows, i, held, st, calls, done⟩ oo ∧ calls ≤ 100000 ∧ done ≤ 1000000 ∧ held.length + m ≤ Lm ∧ st.length + m ≤ Lm ∧
    (∀ fr ∈ fs, fr.held.length + m ≤ Lm ∧ fr.st.length + 1 + m ≤ Lm) ∧ lv.length + m ≤ 2000000
abbrev N_run : List Str := ["built", "module", "name", "cells", "rows", "at", "held", "stack", "frames", "calls", "done", "row", "word", "given", "called", "cell"]
theorem sc_run : FnScope N_run ["built", "module", "name", "cells"] (defScope s_run) := ⟨rfl, rfl, rfl, by decide +kernel, rfl, by decide +kernel, by decide +kernel⟩
def errC (T : Txt K mg) : Bad → Addr
  | .name => T.C_BadName
  | .value => T.C_BadValue
  | .long => T.C_TooLong
theorem row_word (r : Row Nm) : ∃ (wd : Str) (rest : List V), rowV r = .str wd :: rest ∧ (r.isCall = false → ¬ V.str wd = .str "call") := by
  cases r <;> first
    | exact ⟨_, _, rfl, fun _ => by decide +kernel⟩
    | exact ⟨_, _, rfl, fun z => by cases z⟩
def spRun (T : Txt K mg) : Sp := fun vs H Q E => ∃ (d c : Addr) (kvs : List (List Key × V)) (B : Built Nm) (mo na : Str) (cv : List V) (cells : List Cell) (oo : Out),
  vs = [.ref d, .str mo, .str na, .ref c] ∧ H d = some (.dT kvs) ∧ BuiltOf K H kvs B ∧ SqT K H c cv ∧ CellsAt K H cv cells ∧ RunsTo B (mo, na) cells oo ∧ cells.length ≤ 1000 ∧
  (∀ v, oo = .val v → ∀ (u : V) (H' : Hp), Same H H' → CellAt K H' u v → Q u H') ∧ (∀ e, oo = .bad e → ∀ (H' : Hp), Same H H' → E (.ref (errC T e)) none H')
theorem ok_run (T : Txt K mg) : FnOk P w K mg base (L2N.CX P w) 31 T.f_run T.fd_run ["built", "module", "name", "cells"] (spRun T) := by
  refine Hl.okN T.F_run sc_run (fun vs H Q E h => ?_) (fun cdv A outer sh H vs Q E hr h => ?_)
  · obtain ⟨d, c, kvs, B, mo, na, cv, cells, oo, rfl, _⟩ := h
    rfl
  · obtain ⟨d, ca, kvs, B, mo, na, cv, cells, oo, rfl, hd, hB, hcv, hcc, hruns, hcl, kVal, kBad⟩ := h
    have nd := sc_run.nd
    have hu := hu_of hr
    have G_popped : FnOk P w K mg base CX0 1 T.f_popped T.fd_popped ["stack", "many"] spPopped := ok_popped T
    have G_rows_for : FnOk P w K mg base (L2N.CX P w) 1 T.f_rows_for T.fd_rows_for ["built", "pair", "many"] (spRowsFor T) := ok_rows_for T
    have G_do_row : FnOk P w K mg base (L2N.CX P w) 30 T.f_do_row T.fd_do_row ["row", "held", "stack"] (spDoRow T) := ok_do_row T
    have hr_popped : Room 1 _ := hr.mono (by decide)
    have hr_rows_for : Room 1 _ := hr.mono (by decide)
    have hr_do_row : Room 30 _ := hr
    refine ⟨_, (pss_cons (ps_set (i := 4) nd rfl (Or.inl rfl) (pe_callS G_rows_for hr_rows_for rfl T.g_rows_for T.k_rows_for T.b_rows_for (fun σ => L2N.passAt (L2N.takes_of rfl rfl rfl rfl) σ) (by exact (pa_cons (pv 0) (pa_cons (pe_tup (pa_cons (pv 1) (pa_cons (pv 2) pa_nil))) (pa_cons (pe_callB call_len_seq (by rfl) T.z_len (by decide +kernel) (pa_cons (pv 3) pa_nil)) pa_nil))))))
          (pss_cons (ps_asg (pe_tup (pa_cons pe_int (pa_cons (pe_callTy call_list_of (by rfl) T.z_list (by decide +kernel) (pa_cons (pv 3) pa_nil)) (pa_cons (pe_lst pa_nil) (pa_cons (pe_lst pa_nil) (pa_cons pe_int (pa_cons pe_int pa_nil))))))) (pg_tup (by rfl) (pgs_cons (pg_name (i := 5) nd rfl (Or.inl rfl)) (pgs_cons (pg_name (i := 6) nd rfl (Or.inl rfl)) (pgs_cons (pg_name (i := 7) nd rfl (Or.inl rfl)) (pgs_cons (pg_name (i := 8) nd rfl (Or.inl rfl)) (pgs_cons (pg_name (i := 9) nd rfl (Or.inl rfl)) (pgs_cons (pg_name (i := 10) nd rfl (Or.inl rfl)) pgs_nil))))))))
          (pss_one (ps_while (passes_of rfl) (pt_val pe_bl)
            (pss_cons (ps_set (i := 11) nd rfl (Or.inl rfl) (pe_ix ix_tup (pv 4) (pv 5) (fun _ _ => rfl)))
            (pss_cons (ps_set (i := 12) nd rfl (Or.inl rfl) (pe_ix ix_tup (pv 11) pe_int (fun _ _ => rfl)))
            (pss_cons (ps_aug (i := 5) nd rfl (Or.inl rfl) pe_int ip_add)
            (pss_cons (ps_aug (i := 10) nd rfl (Or.inl rfl) pe_int ip_add)
            (pss_cons (ps_if (pt_cmpR op_eq (pv 12) pe_str (nomark _))
              (pss_cons (ps_set (i := 13) nd rfl (Or.inl rfl) (pe_call G_popped hr_popped rfl T.g_popped T.k_popped T.b_popped .nil pass0 (pa_cons (pv 7) (pa_cons (pe_ix ix_tup (pv 11) pe_int (fun _ _ => rfl)) pa_nil))))
              (pss_cons (ps_set (i := 14) nd rfl (Or.inl rfl) (pe_callS G_rows_for hr_rows_for rfl T.g_rows_for T.k_rows_for T.b_rows_for (fun σ => L2N.passAt (L2N.takes_of rfl rfl rfl rfl) σ) (by exact (pa_cons (pv 0) (pa_cons (pe_tup (pa_cons (pe_ix ix_tup (pv 11) pe_int (fun _ _ => rfl)) (pa_cons (pe_ix ix_tup (pv 11) pe_int (fun _ _ => rfl)) pa_nil))) (pa_cons (pe_callB call_len_seq (by rfl) T.z_len (by decide +kernel) (pa_cons (pv 13) pa_nil)) pa_nil))))))
              (pss_cons (ps_expr (pe_bm PySem.F.plainAttrs_list PySem.F.slot_list_append PySem.F.type_list_append mt_append (pv 8) (pa_cons (pe_tup (pa_cons (pv 4) (pa_cons (pv 5) (pa_cons (pv 6) (pa_cons (pv 7) pa_nil))))) pa_nil)))
              (pss_cons (ps_asg (pe_tup (pa_cons (pv 14) (pa_cons pe_int (pa_cons (pv 13) (pa_cons (pe_lst pa_nil) pa_nil))))) (pg_tup (by rfl) (pgs_cons (pg_name (i := 4) nd rfl (Or.inl rfl)) (pgs_cons (pg_name (i := 5) nd rfl (Or.inl rfl)) (pgs_cons (pg_name (i := 6) nd rfl (Or.inl rfl)) (pgs_cons (pg_name (i := 7) nd rfl (Or.inl rfl)) pgs_nil))))))
              (pss_one (ps_aug (i := 9) nd rfl (Or.inl rfl) pe_int ip_add))))))
              pss_nil)
            (pss_cons (ps_if (PW.pt (pw_or (pt_cmpR op_gt (pv 9) (pe_glob rfl T.g_MOST_CALLS T.r_MOST_CALLS) (nomark _)) (pw_or1 (pt_cmpR op_gt (pv 10) (pe_glob rfl T.g_MOST_ROWS T.r_MOST_ROWS) (nomark _)))))
              (pss_one (L2N.ps_raise rfl (L2N.takes_of rfl rfl rfl rfl) (L2N.pmk_own PySem.F.excBase_ValueError T.x_TooLong T.g_TooLong T.k_TooLong (raises_own T.s_TooLong T.t_TooLong) (by exact rfl))))
              pss_nil)
            (pss_one (ps_if (pt_cmpR op_eq (pv 12) pe_str (nomark _))
              (pss_one (ps_set (i := 5) nd rfl (Or.inl rfl) (pe_ifExp (pt_cmpR op_eq (pe_ix ix_tup (pe_ix ix_list (pv 7) (pe_un un_neg pe_int) (fun _ _ => rfl)) pe_int (fun _ _ => rfl)) (pe_ix ix_tup (pv 11) pe_int (fun _ _ => rfl)) (nomark _)) (pv 5) (pe_ix ix_tup (pv 11) pe_int (fun _ _ => rfl)))))
              (pss_one (ps_if (pt_cmpR op_eq (pv 12) pe_str (nomark _))
                (pss_one (ps_set (i := 5) nd rfl (Or.inl rfl) (pe_ix ix_tup (pv 11) pe_int (fun _ _ => rfl))))
                (pss_one (ps_if (pt_cmpR op_eq (pv 12) pe_str (nomark _))
                  (pss_one (ps_continue))
                  (pss_one (ps_if (pt_cmpR op_ne (pv 12) pe_str (nomark _))
                    (pss_one (ps_expr (pe_callS G_do_row hr_do_row rfl T.g_do_row T.k_do_row T.b_do_row (fun σ => L2N.passAt (L2N.takes_of rfl rfl rfl rfl) σ) (by exact (pa_cons (pv 11) (pa_cons (pv 6) (pa_cons (pv 7) pa_nil)))))))
                    (pss_one (ps_if (pt_truth (pv 8) (by intro _; rfl))
                      (pss_cons (ps_set (i := 15) nd rfl (Or.inl rfl) (pe_ix ix_list (pv 7) (pe_un un_neg pe_int) (fun _ _ => rfl)))
                      (pss_cons (ps_asg (pe_bm0 PySem.F.plainAttrs_list PySem.F.slot_list_pop PySem.F.type_list_pop mt_pop (pv 8)) (pg_tup (by rfl) (pgs_cons (pg_name (i := 4) nd rfl (Or.inl rfl)) (pgs_cons (pg_name (i := 5) nd rfl (Or.inl rfl)) (pgs_cons (pg_name (i := 6) nd rfl (Or.inl rfl)) (pgs_cons (pg_name (i := 7) nd rfl (Or.inl rfl)) pgs_nil))))))
                      (pss_one (ps_expr (pe_bm PySem.F.plainAttrs_list PySem.F.slot_list_append PySem.F.type_list_append mt_append (pv 7) (pa_cons (pv 15) pa_nil))))))
                      (pss_one (ps_ret (pe_ix ix_list (pv 7) (pe_un un_neg pe_int) (fun _ _ => rfl)))))))))))))))))))))))), ?_⟩
    have lcv := cells_len hcc
    -- rows = rows_for(built, (module, name), len(cells))
    refine ⟨_, rfl, _, rfl, _, rfl, sl_le (by show 2 ≤ 10000000; decide), fun p hp => ?_⟩
    have s1 : Same H (upd H p (.tup [.str mo, .str na])) := fun b o e => by rw [upd_ne (ne_of_none e hp)]; exact e
    have t1 := TEx.of_same s1
    refine ⟨_, rfl, ca, cv, rfl, .inr (t1.sq hcv), d, p, kvs, B, (mo, na), cv.length, rfl, s1 _ _ hd, hB.to t1, upd_same, fun hn => ?_, fun g rs hg hne => ?_, fun rows hf rv hR => ?_⟩
    · cases hruns with
      | lack _ => exact kBad _ rfl _ s1
      | wrong hx _ => rw [hn] at hx; cases hx
      | runs hx _ => rw [hn] at hx; cases hx
    · cases hruns with
      | lack hx => rw [hg] at hx; cases hx
      | wrong _ _ => exact kBad _ rfl _ s1
      | runs hx _ =>
        rw [hg] at hx
        cases hx
        exact absurd lcv.symm hne
    obtain ⟨nd', hEv⟩ : Ends B ⟨[], rows, 0, cells, [], 1, 0⟩ oo := by
      rw [lcv] at hf
      cases hruns with
      | lack hx => rw [hf] at hx; cases hx
      | wrong hx hne =>
        rw [hf] at hx
        cases hx
        exact absurd rfl hne
      | runs hx he =>
        rw [hf] at hx
        cases hx
        exact he
    have hnd : nd' ≤ 1000000 := by have := hEv.bound (by show 0 ≤ 1000000; omega); simp only at this; omega
    -- at, held, stack, frames, calls, done = (0, list(cells), [], [], 1, 0)
    refine ⟨_, rfl, ca, cv, rfl, .inr (t1.sq hcv), fun ah hah => ⟨Nat.zero_le _, fun as has => ⟨Nat.zero_le _, fun al hal => ⟨sl_le (by show 6 ≤ 10000000; decide), fun tp htp => ?_⟩⟩⟩⟩
    have s2 : Same H (upd (upd H p (.tup [.str mo, .str na])) ah (.lst cv)) := s1.trans fun b o e => by rw [upd_ne (ne_of_none e hah)]; exact e
    have s3 := s2.trans (H2 := upd (upd (upd H p (.tup [.str mo, .str na])) ah (.lst cv)) as (.lst [])) fun b o e => by rw [upd_ne (ne_of_none e has)]; exact e
    have s4 := s3.trans (H2 := upd (upd (upd (upd H p (.tup [.str mo, .str na])) ah (.lst cv)) as (.lst [])) al (.lst [])) fun b o e => by rw [upd_ne (ne_of_none e hal)]; exact e
    have e1 : ∀ b o, (upd (upd H p (.tup [.str mo, .str na])) ah (.lst cv)) b = some o → (upd (upd (upd (upd (upd H p (.tup [.str mo, .str na])) ah (.lst cv)) as (.lst [])) al (.lst [])) tp (.tup [.int 0, .ref ah, .ref as, .ref al, .int 1, .int 0])) b = some o := fun b o e => by
      have z1 := ne_of_none e has
      have q1 : (upd (upd (upd H p (.tup [.str mo, .str na])) ah (.lst cv)) as (.lst [])) b = some o := by rw [upd_ne z1]; exact e
      have z2 := ne_of_none q1 hal
      have q2 : (upd (upd (upd (upd H p (.tup [.str mo, .str na])) ah (.lst cv)) as (.lst [])) al (.lst [])) b = some o := by rw [upd_ne z2]; exact q1
      rw [upd_ne (ne_of_none q2 htp)]; exact q2
    have nah : ah ≠ as := ne_of_none (H := upd (upd H p (.tup [.str mo, .str na])) ah (.lst cv)) upd_same has
    have nal : as ≠ al := ne_of_none (H := upd (upd (upd H p (.tup [.str mo, .str na])) ah (.lst cv)) as (.lst [])) upd_same hal
    have nahl : ah ≠ al := ne_of_none (H := upd (upd (upd H p (.tup [.str mo, .str na])) ah (.lst cv)) as (.lst [])) (by rw [upd_ne nah]; exact upd_same) hal
    have ntp : ∀ x o, (upd (upd (upd (upd H p (.tup [.str mo, .str na])) ah (.lst cv)) as (.lst [])) al (.lst [])) x = some o → x ≠ tp := fun x o e => ne_of_none e htp
    have tA : TEx H (upd (upd (upd (upd (upd H p (.tup [.str mo, .str na])) ah (.lst cv)) as (.lst [])) al (.lst [])) tp (.tup [.int 0, .ref ah, .ref as, .ref al, .int 1, .int 0])) := TEx.of_same (s2.trans e1)
    refine ⟨tp, _, rfl, SqT.of upd_same, rfl, _, _, rfl, _, _, rfl, _, _, rfl, _, _, rfl, _, _, rfl, _, _, rfl, rfl, ?_⟩
    have has' : (upd (upd (upd (upd (upd H p (.tup [.str mo, .str na])) ah (.lst cv)) as (.lst [])) al (.lst [])) tp (.tup [.int 0, .ref ah, .ref as, .ref al, .int 1, .int 0])) as = some (.lst []) := by
      have q : (upd (upd (upd (upd H p (.tup [.str mo, .str na])) ah (.lst cv)) as (.lst [])) al (.lst [])) as = some (.lst []) := by rw [upd_ne nal]; exact upd_same
      rw [upd_ne (ntp _ _ q)]; exact q
    have hal' : (upd (upd (upd (upd (upd H p (.tup [.str mo, .str na])) ah (.lst cv)) as (.lst [])) al (.lst [])) tp (.tup [.int 0, .ref ah, .ref as, .ref al, .int 1, .int 0])) al = some (.lst []) := by
      have q : (upd (upd (upd (upd H p (.tup [.str mo, .str na])) ah (.lst cv)) as (.lst [])) al (.lst [])) al = some (.lst []) := upd_same
      rw [upd_ne (ntp _ _ q)]; exact q
    refine ⟨RunInv K H B oo (1000 + nd') (.ref d) (.str mo) (.str na) (.ref ca), ⟨nd', ⟨rv, 0, ah, as, al, cv, [], [], 1, 0, none, none, none, none, none, [], rows, cells, [], [], rfl, s2.trans e1, hR.to (TEx.of_same (fun b o e => e1 b o (by rw [upd_ne (ne_of_none e hah)]; exact e))),
      e1 _ _ upd_same, hcc.to tA, has', cells_nil.mpr rfl, hal', ⟨rfl, rfl⟩, by simp [nah, nal.symm, nahl.symm], ?_, hEv, by omega, by omega, by omega, by simp, by simp, by simp; omega⟩⟩, ?_⟩
    · intro x hx
      have f1 := s1.free hah
      have f2 := s2.free has
      have f3 := s3.free hal
      simp at hx
      rcases hx with rfl | rfl | rfl
      · exact f3
      · exact f1
      · exact f2
    · rintro m σ H' ⟨rv, i, ah, as, al, hv, sv, lv, calls, done, x1, x2, x3, x4, x5, fs, rows, held, st, fa, rfl, s5, hR, eh, ch, es, cs, el, hF, hnd2, hfr, hW, hc1, hd1, hl1, hl2, hl3, hl4⟩
      refine ⟨_, rfl, iteT ⟨fun σ2 H2 => ∃ m', m' < m ∧ RunInv K H B oo (1000 + nd') (.ref d) (.str mo) (.str na) (.ref ca) m' σ2 H2, fun _ _ z => z, ?_⟩⟩
      obtain ⟨ra, rvs, rfl, hq, hrs⟩ := hR
      have nd3 := hnd2
      simp only [List.nodup_cons, List.mem_cons, not_or] at nd3
      obtain ⟨⟨n1, n2, n3⟩, ⟨n4, n5⟩, n6, n7⟩ := nd3
      have lsv := cells_len cs
      have lhv := cells_len ch
      rw [List.length_reverse] at lsv
      have free : ∀ x ∈ al :: ah :: as :: fa, ∀ {b : Addr} {o : HO}, H b = some o → b ≠ x := fun x hx b o e => ne_of_none e (hfr x hx)
      have ok1 : ¬ ((100000 : Int) < (calls : Int)) := by omega
      cases hW with
      | fin hE =>
        cases hE with
        | @fin _ _ _ v st' _ _ e hc2 hd2 =>
          obtain ⟨x, gx, ⟨xa, rfl, hx⟩⟩ := paired_get hrs e
          obtain ⟨rfl, rfl⟩ := hF
          refine ⟨_, rfl, _, rfl, ra, rvs, _, _, rfl, rfl, hq, atI_nat gx, ?_⟩
          refine ⟨_, rfl, xa, _, _, _, rfl, rfl, hx, rfl, ?_⟩
          refine ⟨_, rfl, _, _, rfl, rfl, _, rfl, _, _, rfl, rfl, ?_⟩
          refine ⟨_, rfl, rfl, _, rfl, isF (by decide +kernel) ?_⟩
          refine ⟨_, rfl, _, _, rfl, rfl, _, rfl, ?_⟩
          rw [decide_eq_false ok1]
          refine ⟨_, rfl, _, _, rfl, rfl, _, rfl, ?_⟩
          rw [decide_eq_false (show ¬ ((1000000 : Int) < (done : Int) + 1) by omega)]
          refine iteF ?_
          refine ⟨_, rfl, rfl, _, rfl, isF (by decide +kernel) ?_⟩
          refine ⟨_, rfl, rfl, _, rfl, isF (by decide +kernel) ?_⟩
          refine ⟨_, rfl, rfl, _, rfl, isF (by decide +kernel) ?_⟩
          refine ⟨_, rfl, rfl, _, rfl, iteNS rfl ?_⟩
          refine ⟨_, rfl, _, .inl ⟨[], SqL.of el, rfl⟩, iteF ?_⟩
          rw [List.reverse_cons] at cs
          obtain ⟨q, y, rfl, g1, g2⟩ := cells_last cs
          refine ⟨_, rfl, _, rfl, as, _, _, y, rfl, rfl, SqL.of es, atI_last _ _, ?_⟩
          exact kVal _ rfl y H' s5 g2
        | @lack _ _ _ _ _ f n _ _ e hn hBf hd2 =>
          obtain ⟨x, gx, ⟨xa, rfl, hx⟩⟩ := paired_get hrs e
          refine ⟨_, rfl, _, rfl, ra, rvs, _, _, rfl, rfl, hq, atI_nat gx, ?_⟩
          refine ⟨_, rfl, xa, _, _, _, rfl, rfl, hx, rfl, ?_⟩
          refine ⟨_, rfl, _, _, rfl, rfl, _, rfl, _, _, rfl, rfl, ?_⟩
          refine ⟨_, rfl, rfl, _, rfl, isT (by decide +kernel) ?_⟩
          -- given = popped(stack, row[3])
          refine ⟨_, rfl, _, rfl, xa, _, _, _, rfl, rfl, hx, rfl, as, sv, n, rfl, es, by omega, fun gp hgp => ?_⟩
          have ngs : as ≠ gp := ne_of_none es hgp
          have ngh : ah ≠ gp := ne_of_none eh hgp
          have ngl : al ≠ gp := ne_of_none el hgp
          have es1 : (upd H' gp (.lst (sv.drop (sv.length - n)))) as = some (.lst sv) := by rw [upd_ne ngs]; exact es
          have t1 : TEx H' (upd (upd H' gp (.lst (sv.drop (sv.length - n)))) as (.lst (sv.take (sv.length - n)))) := (TEx.upd_new hgp).trans (TEx.upd_lst es1)
          have keep1 : ∀ b o, H' b = some o → b ≠ as → (upd (upd H' gp (.lst (sv.drop (sv.length - n)))) as (.lst (sv.take (sv.length - n)))) b = some o := fun b o q n => by
            rw [upd_ne n, upd_ne (ne_of_none q hgp)]; exact q
          have s6 : Same H (upd (upd H' gp (.lst (sv.drop (sv.length - n)))) as (.lst (sv.take (sv.length - n)))) := fun b o q => keep1 _ _ (s5 _ _ q) (free as (by simp) q)
          -- called = rows_for(built, (row[1], row[2]), len(given))
          refine ⟨_, rfl, _, rfl, xa, _, _, _, rfl, rfl, t1.sq hx, rfl, _, rfl, xa, _, _, _, rfl, rfl, t1.sq hx, rfl, sl_le (by show 2 ≤ 10000000; decide), fun kp hkp => ?_⟩
          have t2 := t1.trans (TEx.upd_new (o := .tup [.str f.1, .str f.2]) hkp)
          have s7 := s6.trans (H2 := upd (upd (upd H' gp (.lst (sv.drop (sv.length - n)))) as (.lst (sv.take (sv.length - n)))) kp (.tup [.str f.1, .str f.2])) fun b o q => by rw [upd_ne (ne_of_none q hkp)]; exact q
          have egp : (upd (upd (upd H' gp (.lst (sv.drop (sv.length - n)))) as (.lst (sv.take (sv.length - n)))) kp (.tup [.str f.1, .str f.2])) gp = some (.lst (sv.drop (sv.length - n))) := by
            have q : (upd (upd H' gp (.lst (sv.drop (sv.length - n)))) as (.lst (sv.take (sv.length - n)))) gp = some (.lst (sv.drop (sv.length - n))) := by rw [upd_ne ngs.symm]; exact upd_same
            rw [upd_ne (ne_of_none q hkp)]; exact q
          have lng : (sv.drop (sv.length - n)).length = n := by rw [List.length_drop]; omega
          refine ⟨_, rfl, gp, _, rfl, .inl (SqL.of egp), d, kp, kvs, B, f, n, by rw [lng], s7 _ _ hd, hB.to (TEx.of_same s7), upd_same, fun _ => kBad _ rfl _ s7, (fun g rs z hne => by rw [hBf] at z; cases z), (fun rs2 z => by rw [hBf] at z; cases z)⟩
        | @wrong _ _ _ _ _ f n g rows' _ _ e hn hBf hg hd2 =>
          obtain ⟨x, gx, ⟨xa, rfl, hx⟩⟩ := paired_get hrs e
          refine ⟨_, rfl, _, rfl, ra, rvs, _, _, rfl, rfl, hq, atI_nat gx, ?_⟩
          refine ⟨_, rfl, xa, _, _, _, rfl, rfl, hx, rfl, ?_⟩
          refine ⟨_, rfl, _, _, rfl, rfl, _, rfl, _, _, rfl, rfl, ?_⟩
          refine ⟨_, rfl, rfl, _, rfl, isT (by decide +kernel) ?_⟩
          -- given = popped(stack, row[3])
          refine ⟨_, rfl, _, rfl, xa, _, _, _, rfl, rfl, hx, rfl, as, sv, n, rfl, es, by omega, fun gp hgp => ?_⟩
          have ngs : as ≠ gp := ne_of_none es hgp
          have ngh : ah ≠ gp := ne_of_none eh hgp
          have ngl : al ≠ gp := ne_of_none el hgp
          have es1 : (upd H' gp (.lst (sv.drop (sv.length - n)))) as = some (.lst sv) := by rw [upd_ne ngs]; exact es
          have t1 : TEx H' (upd (upd H' gp (.lst (sv.drop (sv.length - n)))) as (.lst (sv.take (sv.length - n)))) := (TEx.upd_new hgp).trans (TEx.upd_lst es1)
          have keep1 : ∀ b o, H' b = some o → b ≠ as → (upd (upd H' gp (.lst (sv.drop (sv.length - n)))) as (.lst (sv.take (sv.length - n)))) b = some o := fun b o q n => by
            rw [upd_ne n, upd_ne (ne_of_none q hgp)]; exact q
          have s6 : Same H (upd (upd H' gp (.lst (sv.drop (sv.length - n)))) as (.lst (sv.take (sv.length - n)))) := fun b o q => keep1 _ _ (s5 _ _ q) (free as (by simp) q)
          -- called = rows_for(built, (row[1], row[2]), len(given))
          refine ⟨_, rfl, _, rfl, xa, _, _, _, rfl, rfl, t1.sq hx, rfl, _, rfl, xa, _, _, _, rfl, rfl, t1.sq hx, rfl, sl_le (by show 2 ≤ 10000000; decide), fun kp hkp => ?_⟩
          have t2 := t1.trans (TEx.upd_new (o := .tup [.str f.1, .str f.2]) hkp)
          have s7 := s6.trans (H2 := upd (upd (upd H' gp (.lst (sv.drop (sv.length - n)))) as (.lst (sv.take (sv.length - n)))) kp (.tup [.str f.1, .str f.2])) fun b o q => by rw [upd_ne (ne_of_none q hkp)]; exact q
          have egp : (upd (upd (upd H' gp (.lst (sv.drop (sv.length - n)))) as (.lst (sv.take (sv.length - n)))) kp (.tup [.str f.1, .str f.2])) gp = some (.lst (sv.drop (sv.length - n))) := by
            have q : (upd (upd H' gp (.lst (sv.drop (sv.length - n)))) as (.lst (sv.take (sv.length - n)))) gp = some (.lst (sv.drop (sv.length - n))) := by rw [upd_ne ngs.symm]; exact upd_same
            rw [upd_ne (ne_of_none q hkp)]; exact q
          have lng : (sv.drop (sv.length - n)).length = n := by rw [List.length_drop]; omega
          refine ⟨_, rfl, gp, _, rfl, .inl (SqL.of egp), d, kp, kvs, B, f, n, by rw [lng], s7 _ _ hd, hB.to (TEx.of_same s7), upd_same, (fun z => by rw [hBf] at z; cases z), fun g rs z hne => kBad _ rfl _ s7, (fun rs2 z => by rw [hBf] at z; cases z; exact absurd rfl hg)⟩
        | @calls _ _ _ _ _ f n rows' _ _ e hn hBf hc2 hd2 =>
          obtain ⟨x, gx, ⟨xa, rfl, hx⟩⟩ := paired_get hrs e
          refine ⟨_, rfl, _, rfl, ra, rvs, _, _, rfl, rfl, hq, atI_nat gx, ?_⟩
          refine ⟨_, rfl, xa, _, _, _, rfl, rfl, hx, rfl, ?_⟩
          refine ⟨_, rfl, _, _, rfl, rfl, _, rfl, _, _, rfl, rfl, ?_⟩
          refine ⟨_, rfl, rfl, _, rfl, isT (by decide +kernel) ?_⟩
          -- given = popped(stack, row[3])
          refine ⟨_, rfl, _, rfl, xa, _, _, _, rfl, rfl, hx, rfl, as, sv, n, rfl, es, by omega, fun gp hgp => ?_⟩
          have ngs : as ≠ gp := ne_of_none es hgp
          have ngh : ah ≠ gp := ne_of_none eh hgp
          have ngl : al ≠ gp := ne_of_none el hgp
          have es1 : (upd H' gp (.lst (sv.drop (sv.length - n)))) as = some (.lst sv) := by rw [upd_ne ngs]; exact es
          have t1 : TEx H' (upd (upd H' gp (.lst (sv.drop (sv.length - n)))) as (.lst (sv.take (sv.length - n)))) := (TEx.upd_new hgp).trans (TEx.upd_lst es1)
          have keep1 : ∀ b o, H' b = some o → b ≠ as → (upd (upd H' gp (.lst (sv.drop (sv.length - n)))) as (.lst (sv.take (sv.length - n)))) b = some o := fun b o q n => by
            rw [upd_ne n, upd_ne (ne_of_none q hgp)]; exact q
          have s6 : Same H (upd (upd H' gp (.lst (sv.drop (sv.length - n)))) as (.lst (sv.take (sv.length - n)))) := fun b o q => keep1 _ _ (s5 _ _ q) (free as (by simp) q)
          -- called = rows_for(built, (row[1], row[2]), len(given))
          refine ⟨_, rfl, _, rfl, xa, _, _, _, rfl, rfl, t1.sq hx, rfl, _, rfl, xa, _, _, _, rfl, rfl, t1.sq hx, rfl, sl_le (by show 2 ≤ 10000000; decide), fun kp hkp => ?_⟩
          have t2 := t1.trans (TEx.upd_new (o := .tup [.str f.1, .str f.2]) hkp)
          have s7 := s6.trans (H2 := upd (upd (upd H' gp (.lst (sv.drop (sv.length - n)))) as (.lst (sv.take (sv.length - n)))) kp (.tup [.str f.1, .str f.2])) fun b o q => by rw [upd_ne (ne_of_none q hkp)]; exact q
          have egp : (upd (upd (upd H' gp (.lst (sv.drop (sv.length - n)))) as (.lst (sv.take (sv.length - n)))) kp (.tup [.str f.1, .str f.2])) gp = some (.lst (sv.drop (sv.length - n))) := by
            have q : (upd (upd H' gp (.lst (sv.drop (sv.length - n)))) as (.lst (sv.take (sv.length - n)))) gp = some (.lst (sv.drop (sv.length - n))) := by rw [upd_ne ngs.symm]; exact upd_same
            rw [upd_ne (ne_of_none q hkp)]; exact q
          have lng : (sv.drop (sv.length - n)).length = n := by rw [List.length_drop]; omega
          refine ⟨_, rfl, gp, _, rfl, .inl (SqL.of egp), d, kp, kvs, B, f, n, by rw [lng], s7 _ _ hd, hB.to (TEx.of_same s7), upd_same, (fun z => by rw [hBf] at z; cases z), (fun g rs z hne => by rw [hBf] at z; cases z; exact absurd rfl hne), fun rs2 z crv hcR => ?_⟩
          rw [hBf] at z
          cases z
          -- frames.append((rows, at, held, stack))
          have keep2 : ∀ b o, H' b = some o → b ≠ as → (upd (upd (upd H' gp (.lst (sv.drop (sv.length - n)))) as (.lst (sv.take (sv.length - n)))) kp (.tup [.str f.1, .str f.2])) b = some o := fun b o q n => by
            have := keep1 b o q n
            rw [upd_ne (ne_of_none this hkp)]; exact this
          have eas2 : (upd (upd (upd H' gp (.lst (sv.drop (sv.length - n)))) as (.lst (sv.take (sv.length - n)))) kp (.tup [.str f.1, .str f.2])) as = some (.lst (sv.take (sv.length - n))) := by
            have q : (upd (upd H' gp (.lst (sv.drop (sv.length - n)))) as (.lst (sv.take (sv.length - n)))) as = some (.lst (sv.take (sv.length - n))) := upd_same
            rw [upd_ne (ne_of_none q hkp)]; exact q
          have nlas : al ≠ as := n2
          refine ⟨_, rfl, .inl ⟨rfl, _, SqL.of (keep2 _ _ el nlas)⟩, _, rfl, _, rfl, _, rfl, _, rfl, sl_le (by show 4 ≤ 10000000; decide), fun fp hfp => ?_⟩
          generalize hH3 : (upd (upd (upd H' gp (.lst (sv.drop (sv.length - n)))) as (.lst (sv.take (sv.length - n)))) kp (.tup [.str f.1, .str f.2])) = H3 at *
          have s8 := s7.trans (H2 := upd H3 fp (.tup [.ref ra, .int ((i : Int) + 1), .ref ah, .ref as])) fun b o q => by rw [upd_ne (ne_of_none q hfp)]; exact q
          have t3 := t2.trans (TEx.upd_new (o := .tup [.ref ra, .int ((i : Int) + 1), .ref ah, .ref as]) hfp)
          have keep3 : ∀ b o, H3 b = some o → (upd H3 fp (.tup [.ref ra, .int ((i : Int) + 1), .ref ah, .ref as])) b = some o := fun b o q => by rw [upd_ne (ne_of_none q hfp)]; exact q
          have el3 := keep3 _ _ (keep2 _ _ el nlas)
          refine ⟨al, lv, _, rfl, rfl, el3, sl_lt (by omega), ?_⟩
          -- rows, at, held, stack = (called, 0, given, [])
          generalize hH4 : upd H3 fp (.tup [.ref ra, .int ((i : Int) + 1), .ref ah, .ref as]) = H4 at *
          have t4 := t3.trans (TEx.upd_lst (ys := lv ++ [.ref fp]) el3)
          have efp : (upd H4 al (.lst (lv ++ [.ref fp]))) fp = some (.tup [.ref ra, .int ((i : Int) + 1), .ref ah, .ref as]) := by
            have q : H4 fp = some (.tup [.ref ra, .int ((i : Int) + 1), .ref ah, .ref as]) := by rw [← hH4]; exact upd_same
            rw [upd_ne (ne_of q el3 (by intro z; cases z))]; exact q
          refine ⟨_, rfl, _, rfl, Nat.zero_le _, fun ns hns => ⟨sl_le (by show 4 ≤ 10000000; decide), fun tp htp => ?_⟩⟩
          have keep5 : ∀ b o, (upd H4 al (.lst (lv ++ [.ref fp]))) b = some o → (upd (upd (upd H4 al (.lst (lv ++ [.ref fp]))) ns (.lst [])) tp (.tup [crv, .int 0, .ref gp, .ref ns])) b = some o := fun b o q => by
            have q1 : (upd (upd H4 al (.lst (lv ++ [.ref fp]))) ns (.lst [])) b = some o := by rw [upd_ne (ne_of_none q hns)]; exact q
            rw [upd_ne (ne_of_none q1 htp)]; exact q1
          refine ⟨tp, _, rfl, SqT.of upd_same, rfl, _, _, rfl, _, _, rfl, _, _, rfl, _, _, rfl, rfl, ?_⟩
          -- calls += 1
          refine ⟨_, rfl, _, _, rfl, rfl, ?_⟩
          refine ⟨_, rfl, _, _, rfl, rfl, _, rfl, ?_⟩
          rw [decide_eq_true (show (100000 : Int) < (calls : Int) + 1 by omega)]
          refine iteT ?_
          refine kBad _ rfl _ fun b o q => keep5 _ _ ?_
          rw [upd_ne (free al (by simp) q)]
          exact s8 _ _ q
        | @rows _ _ _ _ _ r _ _ e hnc hc2 hd2 hd3 =>
          obtain ⟨x, gx, ⟨xa, rfl, hx⟩⟩ := paired_get hrs e
          obtain ⟨wd, rest, ew, w1⟩ := row_word r
          have w1 := w1 hnc
          have hx' := hx
          rw [ew] at hx'
          refine ⟨_, rfl, _, rfl, ra, rvs, _, _, rfl, rfl, hq, atI_nat gx, ?_⟩
          refine ⟨_, rfl, xa, _, _, .str wd, rfl, rfl, hx', atI_nat (j := 0) rfl, ?_⟩
          refine ⟨_, rfl, _, _, rfl, rfl, _, rfl, _, _, rfl, rfl, ?_⟩
          refine ⟨_, rfl, rfl, _, rfl, isF w1 ?_⟩
          refine ⟨_, rfl, _, _, rfl, rfl, _, rfl, ?_⟩
          rw [decide_eq_false ok1]
          refine ⟨_, rfl, _, _, rfl, rfl, _, rfl, ?_⟩
          rw [decide_eq_true (show (1000000 : Int) < (done : Int) + 1 by omega)]
          refine iteT ?_
          exact kBad _ rfl _ s5
        | @great _ _ _ _ _ m n _ _ e hn hz hzz hc2 hd2 =>
          obtain ⟨x, gx, ⟨xa, rfl, hx⟩⟩ := paired_get hrs e
          have w1 : ¬ V.str "make" = .str "call" := by decide +kernel
          have w2 : ¬ V.str "make" = .str "is" := by decide +kernel
          have w3 : ¬ V.str "make" = .str "go" := by decide +kernel
          have w4 : ¬ V.str "make" = .str "back" := by decide +kernel
          have hx' := hx
          refine ⟨_, rfl, _, rfl, ra, rvs, _, _, rfl, rfl, hq, atI_nat gx, ?_⟩
          refine ⟨_, rfl, xa, _, _, .str "make", rfl, rfl, hx', atI_nat (j := 0) rfl, ?_⟩
          refine ⟨_, rfl, _, _, rfl, rfl, _, rfl, _, _, rfl, rfl, ?_⟩
          refine ⟨_, rfl, rfl, _, rfl, isF w1 ?_⟩
          refine ⟨_, rfl, _, _, rfl, rfl, _, rfl, ?_⟩
          rw [decide_eq_false ok1]
          refine ⟨_, rfl, _, _, rfl, rfl, _, rfl, ?_⟩
          rw [decide_eq_false (show ¬ ((1000000 : Int) < (done : Int) + 1) by omega)]
          refine iteF ?_
          refine ⟨_, rfl, rfl, _, rfl, isF w2 ?_⟩
          refine ⟨_, rfl, rfl, _, rfl, isF w3 ?_⟩
          refine ⟨_, rfl, rfl, _, rfl, isF w1 ?_⟩
          refine ⟨_, rfl, rfl, _, rfl, ?_⟩
          rw [decide_eq_false w4]
          refine iteT ?_
          refine ⟨_, rfl, _, rfl, _, rfl, .ref xa, ah, as, hv, sv, .make m n, held, st, _, rfl, ⟨xa, rfl, hx⟩, fun z => n4 z, eh, ch, es, cs, by omega, by omega, .great rfl hn hz hzz, (fun _ _ z => by cases z), fun _ H2 kb => ?_⟩
          exact kBad _ rfl H2 fun b o q => kb _ _ (s5 _ _ q) (free ah (by simp) q) (free as (by simp) q)
      | @step d2 _ s' _ hStep hW2 =>
        cases hStep with
        | @simp _ _ _ _ _ r held' st' _ _ e hS hc2 hd2 =>
          obtain ⟨x, gx, ⟨xa, rfl, hx⟩⟩ := paired_get hrs e
          obtain ⟨wd, rest, ew, w1, w2, w3, w4⟩ := simp1_word hS
          have sl := simp1_len hS
          have hx' := hx
          rw [ew] at hx'
          refine ⟨_, rfl, _, rfl, ra, rvs, _, _, rfl, rfl, hq, atI_nat gx, ?_⟩
          refine ⟨_, rfl, xa, _, _, .str wd, rfl, rfl, hx', atI_nat (j := 0) rfl, ?_⟩
          refine ⟨_, rfl, _, _, rfl, rfl, _, rfl, _, _, rfl, rfl, ?_⟩
          refine ⟨_, rfl, rfl, _, rfl, isF w1 ?_⟩
          refine ⟨_, rfl, _, _, rfl, rfl, _, rfl, ?_⟩
          rw [decide_eq_false ok1]
          refine ⟨_, rfl, _, _, rfl, rfl, _, rfl, ?_⟩
          rw [decide_eq_false (show ¬ ((1000000 : Int) < (done : Int) + 1) by omega)]
          refine iteF ?_
          refine ⟨_, rfl, rfl, _, rfl, isF w2 ?_⟩
          refine ⟨_, rfl, rfl, _, rfl, isF w3 ?_⟩
          refine ⟨_, rfl, rfl, _, rfl, isF w1 ?_⟩
          refine ⟨_, rfl, rfl, _, rfl, ?_⟩
          rw [decide_eq_false w4]
          refine iteT ?_
          refine ⟨_, rfl, _, rfl, _, rfl, .ref xa, ah, as, hv, sv, r, held, st, _, rfl, ⟨xa, rfl, hx⟩, fun z => n4 z, eh, ch, es, cs, by omega, by omega, .ok hS, fun held2 st2 ex H2 hv' sv' kb eh2 ch2 es2 cs2 => ?_, (fun z => by cases z)⟩
          cases ex
          have t2 : TEx H' H2 := TEx.but2 eh es kb
          refine ⟨d2, by omega, ⟨.ref ra, i + 1, ah, as, al, hv', sv', lv, calls, done + 1, _, _, x3, x4, x5, fs, rows, held', st', fa, rfl, fun b o q => kb _ _ (s5 _ _ q) (free ah (by simp) q) (free as (by simp) q), ⟨ra, rvs, rfl, t2.sq hq, hrs.to t2⟩, eh2, ch2, es2, cs2,
            kb _ _ el n1 n2, ?_, hnd2, hfr, hW2, hc1, by omega, by omega, by omega, ?_, by omega⟩⟩
          · refine hF.to t2 fun x hx o e => kb _ _ e (fun z => ?_) (fun z => ?_)
            · exact n5 (z ▸ hx)
            · exact n6 (z ▸ hx)
          · intro f hf'
            have := hl3 f hf'
            omega
        | @go _ _ _ _ _ to _ _ e hc2 hd2 =>
          obtain ⟨x, gx, ⟨xa, rfl, hx⟩⟩ := paired_get hrs e
          refine ⟨_, rfl, _, rfl, ra, rvs, _, _, rfl, rfl, hq, atI_nat gx, ?_⟩
          refine ⟨_, rfl, xa, _, _, _, rfl, rfl, hx, rfl, ?_⟩
          refine ⟨_, rfl, _, _, rfl, rfl, _, rfl, _, _, rfl, rfl, ?_⟩
          refine ⟨_, rfl, rfl, _, rfl, isF (by decide +kernel) ?_⟩
          refine ⟨_, rfl, _, _, rfl, rfl, _, rfl, ?_⟩
          rw [decide_eq_false ok1]
          refine ⟨_, rfl, _, _, rfl, rfl, _, rfl, ?_⟩
          rw [decide_eq_false (show ¬ ((1000000 : Int) < (done : Int) + 1) by omega)]
          refine iteF ?_
          refine ⟨_, rfl, rfl, _, rfl, isF (by decide +kernel) ?_⟩
          refine ⟨_, rfl, rfl, _, rfl, isT (by decide +kernel) ?_⟩
          refine ⟨_, rfl, xa, _, _, _, rfl, rfl, hx, rfl, ?_⟩
          refine ⟨d2, by omega, ⟨.ref ra, to, ah, as, al, hv, sv, lv, calls, done + 1, _, _, x3, x4, x5, fs, rows, held, st, fa, rfl, s5, ⟨ra, rvs, rfl, hq, hrs⟩, eh, ch, es, cs, el, hF, hnd2, hfr, hW2, hc1, by omega, by omega, by omega, ?_, by omega⟩⟩
          intro f hf'
          have := hl3 f hf'
          omega
        | @isr _ _ _ _ m0 to n0 ds st' _ _ e hc2 hd2 =>
          obtain ⟨x, gx, ⟨xa, rfl, hx⟩⟩ := paired_get hrs e
          rw [List.reverse_cons] at cs
          obtain ⟨q, y, rfl, g1, g2⟩ := cells_last cs
          obtain ⟨ya, yb, yvs, rfl, p1, p2, p3⟩ := cellAt_mk.mp g2
          refine ⟨_, rfl, _, rfl, ra, rvs, _, _, rfl, rfl, hq, atI_nat gx, ?_⟩
          refine ⟨_, rfl, xa, _, _, _, rfl, rfl, hx, rfl, ?_⟩
          refine ⟨_, rfl, _, _, rfl, rfl, _, rfl, _, _, rfl, rfl, ?_⟩
          refine ⟨_, rfl, rfl, _, rfl, isF (by decide +kernel) ?_⟩
          refine ⟨_, rfl, _, _, rfl, rfl, _, rfl, ?_⟩
          rw [decide_eq_false ok1]
          refine ⟨_, rfl, _, _, rfl, rfl, _, rfl, ?_⟩
          rw [decide_eq_false (show ¬ ((1000000 : Int) < (done : Int) + 1) by omega)]
          refine iteF ?_
          refine ⟨_, rfl, rfl, _, rfl, isT (by decide +kernel) ?_⟩
          refine ⟨_, rfl, _, rfl, as, _, _, .ref ya, rfl, rfl, SqL.of es, atI_last _ _, ?_⟩
          refine ⟨ya, _, _, _, rfl, rfl, p1, rfl, _, rfl, xa, _, _, _, rfl, rfl, hx, rfl, rfl, _, rfl, ?_⟩
          have lb : ∀ fr ∈ fs, fr.held.length + d2 ≤ 1000 + nd' ∧ fr.st.length + 1 + d2 ≤ 1000 + nd' := fun f hf' => by
            have := hl3 f hf'
            omega
          by_cases hmm : n0 = m0
          · rw [if_pos hmm] at hW2
            refine isT (by rw [hmm]) ?_
            refine ⟨_, rfl, ?_⟩
            exact ⟨d2, by omega, ⟨.ref ra, i + 1, ah, as, al, hv, _, lv, calls, done + 1, _, _, x3, x4, x5, fs, rows, held, _, fa, rfl, s5, ⟨ra, rvs, rfl, hq, hrs⟩, eh, ch, es, by rw [List.reverse_cons]; exact cells_snoc g1 g2, el, hF, hnd2, hfr, hW2, hc1, by omega, by omega, by omega, lb, by omega⟩⟩
          · rw [if_neg hmm] at hW2
            refine isF (fun z => hmm (by injection z)) ?_
            refine ⟨_, rfl, xa, _, _, _, rfl, rfl, hx, rfl, ?_⟩
            exact ⟨d2, by omega, ⟨.ref ra, to, ah, as, al, hv, _, lv, calls, done + 1, _, _, x3, x4, x5, fs, rows, held, _, fa, rfl, s5, ⟨ra, rvs, rfl, hq, hrs⟩, eh, ch, es, by rw [List.reverse_cons]; exact cells_snoc g1 g2, el, hF, hnd2, hfr, hW2, hc1, by omega, by omega, by omega, lb, by omega⟩⟩
        | @ret fr fs' _ _ _ w0 st' _ _ e hc2 hd2 =>
          obtain ⟨x, gx, ⟨xa, rfl, hx⟩⟩ := paired_get hrs e
          obtain ⟨lq, fp, fah, fas, fa', frv, fhv, fsv, rfl, rfl, k1, k2, k3, k4, k5, k6, k7⟩ := hF
          refine ⟨_, rfl, _, rfl, ra, rvs, _, _, rfl, rfl, hq, atI_nat gx, ?_⟩
          refine ⟨_, rfl, xa, _, _, _, rfl, rfl, hx, rfl, ?_⟩
          refine ⟨_, rfl, _, _, rfl, rfl, _, rfl, _, _, rfl, rfl, ?_⟩
          refine ⟨_, rfl, rfl, _, rfl, isF (by decide +kernel) ?_⟩
          refine ⟨_, rfl, _, _, rfl, rfl, _, rfl, ?_⟩
          rw [decide_eq_false ok1]
          refine ⟨_, rfl, _, _, rfl, rfl, _, rfl, ?_⟩
          rw [decide_eq_false (show ¬ ((1000000 : Int) < (done : Int) + 1) by omega)]
          refine iteF ?_
          refine ⟨_, rfl, rfl, _, rfl, isF (by decide +kernel) ?_⟩
          refine ⟨_, rfl, rfl, _, rfl, isF (by decide +kernel) ?_⟩
          refine ⟨_, rfl, rfl, _, rfl, isF (by decide +kernel) ?_⟩
          refine ⟨_, rfl, rfl, _, rfl, iteNS rfl ?_⟩
          refine ⟨_, rfl, _, .inl ⟨_, SqL.of el, rfl⟩, ?_⟩
          rw [show (!(lq ++ [V.ref fp]).isEmpty) = true by simp]
          refine iteT ?_
          rw [List.reverse_cons] at cs
          obtain ⟨q, y, rfl, g1, g2⟩ := cells_last cs
          refine ⟨_, rfl, _, rfl, as, _, _, y, rfl, rfl, SqL.of es, atI_last _ _, ?_⟩
          -- rows, at, held, stack = frames.pop()
          refine ⟨_, rfl, .inl ⟨rfl, _, SqL.of el⟩, al, _, _, rfl, rfl, el, last_at _ _, ?_⟩
          rw [List.dropLast_concat]
          have t2 : TEx H' (upd H' al (.lst lq)) := TEx.upd_lst el
          refine ⟨fp, _, rfl, t2.sq k1, rfl, _, _, rfl, _, _, rfl, _, _, rfl, _, _, rfl, rfl, ?_⟩
          -- stack.append(cell)
          simp only [List.mem_cons, not_or] at n2 n3 n5 n6
          have nla : fas ≠ al := fun z => n3.2.1 z.symm
          have nlh : fah ≠ al := fun z => n3.1 z.symm
          have es2 : (upd H' al (.lst lq)) fas = some (.lst fsv) := by rw [upd_ne nla]; exact k5
          have lf := cells_len k6
          rw [List.length_reverse] at lf
          have lb := hl3 fr List.mem_cons_self
          refine ⟨_, rfl, .inl ⟨rfl, _, SqL.of es2⟩, _, rfl, fas, fsv, y, rfl, rfl, es2, sl_lt (by omega), ?_⟩
          have t3 : TEx H' (upd (upd H' al (.lst lq)) fas (.lst (fsv ++ [y]))) := t2.trans (TEx.upd_lst es2)
          have nd4 := hnd2
          simp only [List.nodup_cons, List.mem_cons, not_or] at nd4
          obtain ⟨⟨_, _, na1, na2, na3⟩, ⟨_, _, _, _⟩, ⟨_, _, _⟩, ⟨nb1, nb2⟩, nb3, nb4⟩ := nd4
          refine ⟨d2, by omega, ⟨frv, fr.i, fah, fas, al, fhv, fsv ++ [y], lq, calls, done + 1, _, _, x3, x4, _, fs', fr.rows, fr.held, w0 :: fr.st, fa', rfl, ?_, k2.to t3, ?_, k4.to t3, upd_same, ?_, ?_, ?_, ?_, ?_, hW2, hc1, by omega, by omega, ?_, ?_, ?_⟩⟩
          · intro b o e
            rw [upd_ne (free fas (by simp) e), upd_ne (free al (by simp) e)]
            exact s5 _ _ e
          · rw [upd_ne nb1, upd_ne nlh]; exact k3
          · rw [List.reverse_cons]; exact cells_snoc (k6.to t3) (g2.to t3)
          · rw [upd_ne nla.symm]; exact upd_same
          · refine k7.to t3 fun x hx o e => ?_
            rw [upd_ne (show x ≠ fas from fun z => nb3 (z ▸ hx)), upd_ne (show x ≠ al from fun z => na3 (z ▸ hx))]
            exact e
          · simp only [List.nodup_cons, List.mem_cons, not_or]
            exact ⟨⟨na1, na2, na3⟩, ⟨nb1, nb2⟩, nb3, nb4⟩
          · intro x hx
            refine hfr x ?_
            simp only [List.mem_cons] at hx ⊢
            rcases hx with h | h | h | h
            · exact .inl h
            · exact .inr (.inr (.inr (.inl h)))
            · exact .inr (.inr (.inr (.inr (.inl h))))
            · exact .inr (.inr (.inr (.inr (.inr h))))
          · simp only [List.length_cons]; omega
          · intro f hf'
            have := hl3 f (List.mem_cons_of_mem _ hf')
            omega
          · simp only [List.length_append, List.length_singleton] at hl4; omega
        | @call _ _ _ _ _ f n rows' _ _ e hn hBf hc2 hd2 =>
          obtain ⟨x, gx, ⟨xa, rfl, hx⟩⟩ := paired_get hrs e
          refine ⟨_, rfl, _, rfl, ra, rvs, _, _, rfl, rfl, hq, atI_nat gx, ?_⟩
          refine ⟨_, rfl, xa, _, _, _, rfl, rfl, hx, rfl, ?_⟩
          refine ⟨_, rfl, _, _, rfl, rfl, _, rfl, _, _, rfl, rfl, ?_⟩
          refine ⟨_, rfl, rfl, _, rfl, isT (by decide +kernel) ?_⟩
          -- given = popped(stack, row[3])
          refine ⟨_, rfl, _, rfl, xa, _, _, _, rfl, rfl, hx, rfl, as, sv, n, rfl, es, by omega, fun gp hgp => ?_⟩
          have ngs : as ≠ gp := ne_of_none es hgp
          have ngh : ah ≠ gp := ne_of_none eh hgp
          have ngl : al ≠ gp := ne_of_none el hgp
          have es1 : (upd H' gp (.lst (sv.drop (sv.length - n)))) as = some (.lst sv) := by rw [upd_ne ngs]; exact es
          have t1 : TEx H' (upd (upd H' gp (.lst (sv.drop (sv.length - n)))) as (.lst (sv.take (sv.length - n)))) := (TEx.upd_new hgp).trans (TEx.upd_lst es1)
          have keep1 : ∀ b o, H' b = some o → b ≠ as → (upd (upd H' gp (.lst (sv.drop (sv.length - n)))) as (.lst (sv.take (sv.length - n)))) b = some o := fun b o q n => by
            rw [upd_ne n, upd_ne (ne_of_none q hgp)]; exact q
          have s6 : Same H (upd (upd H' gp (.lst (sv.drop (sv.length - n)))) as (.lst (sv.take (sv.length - n)))) := fun b o q => keep1 _ _ (s5 _ _ q) (free as (by simp) q)
          -- called = rows_for(built, (row[1], row[2]), len(given))
          refine ⟨_, rfl, _, rfl, xa, _, _, _, rfl, rfl, t1.sq hx, rfl, _, rfl, xa, _, _, _, rfl, rfl, t1.sq hx, rfl, sl_le (by show 2 ≤ 10000000; decide), fun kp hkp => ?_⟩
          have t2 := t1.trans (TEx.upd_new (o := .tup [.str f.1, .str f.2]) hkp)
          have s7 := s6.trans (H2 := upd (upd (upd H' gp (.lst (sv.drop (sv.length - n)))) as (.lst (sv.take (sv.length - n)))) kp (.tup [.str f.1, .str f.2])) fun b o q => by rw [upd_ne (ne_of_none q hkp)]; exact q
          have egp : (upd (upd (upd H' gp (.lst (sv.drop (sv.length - n)))) as (.lst (sv.take (sv.length - n)))) kp (.tup [.str f.1, .str f.2])) gp = some (.lst (sv.drop (sv.length - n))) := by
            have q : (upd (upd H' gp (.lst (sv.drop (sv.length - n)))) as (.lst (sv.take (sv.length - n)))) gp = some (.lst (sv.drop (sv.length - n))) := by rw [upd_ne ngs.symm]; exact upd_same
            rw [upd_ne (ne_of_none q hkp)]; exact q
          have lng : (sv.drop (sv.length - n)).length = n := by rw [List.length_drop]; omega
          refine ⟨_, rfl, gp, _, rfl, .inl (SqL.of egp), d, kp, kvs, B, f, n, by rw [lng], s7 _ _ hd, hB.to (TEx.of_same s7), upd_same, (fun z => by rw [hBf] at z; cases z), (fun g rs z hne => by rw [hBf] at z; cases z; exact absurd rfl hne), fun rs2 z crv hcR => ?_⟩
          rw [hBf] at z
          cases z
          -- frames.append((rows, at, held, stack))
          have keep2 : ∀ b o, H' b = some o → b ≠ as → (upd (upd (upd H' gp (.lst (sv.drop (sv.length - n)))) as (.lst (sv.take (sv.length - n)))) kp (.tup [.str f.1, .str f.2])) b = some o := fun b o q n => by
            have := keep1 b o q n
            rw [upd_ne (ne_of_none this hkp)]; exact this
          have eas2 : (upd (upd (upd H' gp (.lst (sv.drop (sv.length - n)))) as (.lst (sv.take (sv.length - n)))) kp (.tup [.str f.1, .str f.2])) as = some (.lst (sv.take (sv.length - n))) := by
            have q : (upd (upd H' gp (.lst (sv.drop (sv.length - n)))) as (.lst (sv.take (sv.length - n)))) as = some (.lst (sv.take (sv.length - n))) := upd_same
            rw [upd_ne (ne_of_none q hkp)]; exact q
          have nlas : al ≠ as := n2
          refine ⟨_, rfl, .inl ⟨rfl, _, SqL.of (keep2 _ _ el nlas)⟩, _, rfl, _, rfl, _, rfl, _, rfl, sl_le (by show 4 ≤ 10000000; decide), fun fp hfp => ?_⟩
          generalize hH3 : (upd (upd (upd H' gp (.lst (sv.drop (sv.length - n)))) as (.lst (sv.take (sv.length - n)))) kp (.tup [.str f.1, .str f.2])) = H3 at *
          have s8 := s7.trans (H2 := upd H3 fp (.tup [.ref ra, .int ((i : Int) + 1), .ref ah, .ref as])) fun b o q => by rw [upd_ne (ne_of_none q hfp)]; exact q
          have t3 := t2.trans (TEx.upd_new (o := .tup [.ref ra, .int ((i : Int) + 1), .ref ah, .ref as]) hfp)
          have keep3 : ∀ b o, H3 b = some o → (upd H3 fp (.tup [.ref ra, .int ((i : Int) + 1), .ref ah, .ref as])) b = some o := fun b o q => by rw [upd_ne (ne_of_none q hfp)]; exact q
          have el3 := keep3 _ _ (keep2 _ _ el nlas)
          refine ⟨al, lv, _, rfl, rfl, el3, sl_lt (by omega), ?_⟩
          -- rows, at, held, stack = (called, 0, given, [])
          generalize hH4 : upd H3 fp (.tup [.ref ra, .int ((i : Int) + 1), .ref ah, .ref as]) = H4 at *
          have t4 := t3.trans (TEx.upd_lst (ys := lv ++ [.ref fp]) el3)
          have efp : (upd H4 al (.lst (lv ++ [.ref fp]))) fp = some (.tup [.ref ra, .int ((i : Int) + 1), .ref ah, .ref as]) := by
            have q : H4 fp = some (.tup [.ref ra, .int ((i : Int) + 1), .ref ah, .ref as]) := by rw [← hH4]; exact upd_same
            rw [upd_ne (ne_of q el3 (by intro z; cases z))]; exact q
          refine ⟨_, rfl, _, rfl, Nat.zero_le _, fun ns hns => ⟨sl_le (by show 4 ≤ 10000000; decide), fun tp htp => ?_⟩⟩
          have keep5 : ∀ b o, (upd H4 al (.lst (lv ++ [.ref fp]))) b = some o → (upd (upd (upd H4 al (.lst (lv ++ [.ref fp]))) ns (.lst [])) tp (.tup [crv, .int 0, .ref gp, .ref ns])) b = some o := fun b o q => by
            have q1 : (upd (upd H4 al (.lst (lv ++ [.ref fp]))) ns (.lst [])) b = some o := by rw [upd_ne (ne_of_none q hns)]; exact q
            rw [upd_ne (ne_of_none q1 htp)]; exact q1
          refine ⟨tp, _, rfl, SqT.of upd_same, rfl, _, _, rfl, _, _, rfl, _, _, rfl, _, _, rfl, rfl, ?_⟩
          -- calls += 1
          refine ⟨_, rfl, _, _, rfl, rfl, ?_⟩
          refine ⟨_, rfl, _, _, rfl, rfl, _, rfl, ?_⟩
          rw [decide_eq_false (show ¬ ((100000 : Int) < (calls : Int) + 1) by omega)]
          refine ⟨_, rfl, _, _, rfl, rfl, _, rfl, ?_⟩
          rw [decide_eq_false (show ¬ ((1000000 : Int) < (done : Int) + 1) by omega)]
          refine iteF ?_
          refine ⟨_, rfl, rfl, _, rfl, isF (by decide +kernel) ?_⟩
          refine ⟨_, rfl, rfl, _, rfl, isF (by decide +kernel) ?_⟩
          refine ⟨_, rfl, rfl, _, rfl, isT (by decide +kernel) ?_⟩
          have t5 := t4.trans (TEx.of_same keep5)
          have ngp4 : H4 gp = some (.lst (sv.drop (sv.length - n))) := keep3 _ _ egp
          have keep4 : ∀ b o, H4 b = some o → b ≠ al → (upd (upd (upd H4 al (.lst (lv ++ [.ref fp]))) ns (.lst [])) tp (.tup [crv, .int 0, .ref gp, .ref ns])) b = some o := fun b o q n => keep5 _ _ (by rw [upd_ne n]; exact q)
          have esplit : sv.length - n = st.length - n := by omega
          have c1 : CellsAt K H' (sv.take (sv.length - n)) (st.drop n).reverse := by
            have := cells_take (sv.length - n) cs
            rw [List.take_reverse, esplit] at this
            rw [esplit]
            rw [show st.length - (st.length - n) = n by omega] at this
            exact this
          have c2' : CellsAt K H' (sv.drop (sv.length - n)) (st.take n).reverse := by
            have := cells_drop (sv.length - n) cs
            rw [List.drop_reverse, esplit] at this
            rw [esplit]
            rw [show st.length - (st.length - n) = n by omega] at this
            exact this
          have ens : (upd (upd (upd H4 al (.lst (lv ++ [.ref fp]))) ns (.lst [])) tp (.tup [crv, .int 0, .ref gp, .ref ns])) ns = some (.lst []) := by
            have q : (upd (upd H4 al (.lst (lv ++ [.ref fp]))) ns (.lst [])) ns = some (.lst []) := upd_same
            rw [upd_ne (ne_of_none q htp)]; exact q
          have nns : ∀ b o, H4 b = some o → b ≠ ns := fun b o q => by
            by_cases z : b = al
            · rw [z]; exact ne_of_none (H := upd H4 al (.lst (lv ++ [.ref fp]))) upd_same hns
            · exact ne_of_none (H := upd H4 al (.lst (lv ++ [.ref fp]))) (by rw [upd_ne z]; exact q) hns
          have hgpH : H gp = none := s5.free hgp
          have hnsH : H ns = none := by
            cases q : H ns with
            | none => rfl
            | some o =>
              exact absurd rfl (nns ns o (s8 _ _ q))
          have eh4 : H4 ah = some (.lst hv) := keep3 _ _ (keep2 _ _ eh n4)
          have ea4 : H4 as = some (.lst (sv.take (sv.length - n))) := keep3 _ _ eas2
          have efa : ∀ x ∈ fa, ∀ o, H' x = some o → H4 x = some o := fun x hx o q => keep3 _ _ (keep2 _ _ q (fun z => n6 (z ▸ hx)))
          refine ⟨d2, by omega, ⟨crv, 0, gp, ns, al, sv.drop (sv.length - n), [], lv ++ [.ref fp], calls + 1, done + 1, _, _, _, _, x5, ⟨rows, i + 1, held, st.drop n⟩ :: fs, rows', (st.take n).reverse, [], ah :: as :: fa, rfl, fun b o q => keep4 _ _ (s8 _ _ q) (free al (by simp) q),
            ?_, keep4 _ _ ngp4 ngl.symm, c2'.to t5, ens, cells_nil.mpr rfl, ?_, ?_, ?_, ?_, hW2, by omega, by omega, ?_, by simp; omega, ?_, ?_⟩⟩
          · exact hcR.to (((TEx.of_same keep3).trans (TEx.upd_lst el3)).trans (TEx.of_same keep5))
          · exact keep5 _ _ upd_same
          · exact ⟨lv, fp, ah, as, fa, .ref ra, hv, sv.take (sv.length - n), rfl, rfl, SqT.of (keep5 _ _ efp), ⟨ra, rvs, rfl, t5.sq hq, hrs.to t5⟩, keep4 _ _ eh4 (fun z => n1 z.symm), ch.to t5, keep4 _ _ ea4 (fun z => n2 z.symm), c1.to t5,
              hF.to t5 fun x hx o q => keep4 _ _ (efa x hx o q) (fun z => n3 (z ▸ hx))⟩
          · have mem : ∀ x ∈ fa, ∃ o, H' x = some o := frs_mem hF
            simp only [List.nodup_cons, List.mem_cons, not_or]
            refine ⟨⟨ngl, nns al _ (keep3 _ _ (keep2 _ _ el nlas)), n1, n2, n3⟩, ⟨nns gp _ ngp4, ngh.symm, ngs.symm, fun z => ?_⟩, ⟨(nns ah _ eh4).symm, (nns as _ ea4).symm, fun z => ?_⟩, ⟨n4, n5⟩, n6, n7⟩
            · obtain ⟨o, q⟩ := mem gp z
              rw [hgp] at q
              cases q
            · obtain ⟨o, q⟩ := mem ns z
              exact nns ns _ (efa ns z o q) rfl
          · intro x hx
            simp only [List.mem_cons] at hx
            rcases hx with h | h | h | h
            · exact hfr x (by simp [h])
            · rw [h]; exact hgpH
            · rw [h]; exact hnsH
            · exact hfr x (by simp only [List.mem_cons]; exact .inr h)
          · simp only [List.length_reverse, List.length_take]; omega
          · intro fr hx
            rcases List.mem_cons.mp hx with rfl | hx
            · simp only [List.length_drop]; omega
            · have := hl3 fr hx
              omega
          · simp only [List.length_append, List.length_singleton]; omega
end
end K90

set_option Elab.async false
set_option linter.all false
set_option maxRecDepth 100000
set_option maxHeartbeats 4000000
namespace K90
open PySem PySem.Spec PyProof.Rows L2 Ru Rp Mch
/-- all but the object at l stand -/
def But1 (H H' : Hp) (l : Addr) : Prop := ∀ b o, H b = some o → b ≠ l → H' b = some o
theorem But1.trans {H H1 H2 : Hp} {l : Addr} (a : But1 H H1 l) (b : But1 H1 H2 l) : But1 H H2 l := fun x o e n => b x o (a x o e n) n
theorem But1.of_same {H H' : Hp} {l : Addr} (a : Same H H') : But1 H H' l := fun x o e _ => a x o e
def natsV (ns : List Nat) : List V := ns.map fun (n : Nat) => V.int (n : Int)
/-- a deck: a list of numbers that are not negative -/
def DeckAt (H : Hp) (a : Addr) : Prop := ∃ ns : List Nat, ns.length ≤ 100000 ∧ H a = some (.lst (natsV ns))
theorem DeckAt.tex {H H' : Hp} {a : Addr} (d : DeckAt H a) (k : But1 H H' a) : TEx H H' := by
  obtain ⟨ns, _, h⟩ := d
  exact TEx.but2 h h fun b o e n _ => k b o e n
theorem fmod_nat (a b : Nat) : Int.fmod (a : Int) (b : Int) = ((a % b : Nat) : Int) := by
  rw [Int.fmod_eq_emod_of_nonneg _ (by omega)]; omega
section
variable {P : Program} {w : World} {K : PySem.W.Frag} {mg : Str → Option Value} {base : Heap}
abbrev N__law_take : List Str := ["deck", "many"]
theorem sc__law_take : FnScope N__law_take ["deck", "many"] (defScope s__law_take) := ⟨rfl, rfl, rfl, by decide +kernel, rfl, by decide +kernel, by decide +kernel⟩
def spTake : Sp := fun vs H Q _ => ∃ (a : Addr) (m : Nat), vs = [.ref a, .int (m : Int)] ∧ 0 < m ∧ DeckAt H a ∧ ∀ (r : Nat) (H' : Hp), r < m → But1 H H' a → DeckAt H' a → Q (.int (r : Int)) H'
theorem ok_take (T : Txt K mg) : FnOk P w K mg base CX0 1 T.f__law_take T.fd__law_take ["deck", "many"] spTake := by
  refine T.F__law_take.ok sc__law_take (fun vs H Q E h => ?_) (fun cdv A outer sh H vs Q E hr h => ?_)
  · obtain ⟨a, m, rfl, _⟩ := h
    rfl
  · obtain ⟨a, m, rfl, hm, ⟨ns, hz, ha⟩, k⟩ := h
    have nd := sc__law_take.nd
    refine ⟨_, (pss_cons (ps_if (pt_cmpR op_eq (pe_callB call_len_seq (by rfl) T.z_len (by decide +kernel) (pa_cons (pv 0) pa_nil)) pe_int (nomark _))
            (pss_one (ps_ret pe_int))
            pss_nil)
          (pss_one (ps_ret (pe_op op_modN (pe_callTy call_int1 (by rfl) T.z_int (by decide +kernel) (pa_cons (pe_bm0 PySem.F.plainAttrs_list PySem.F.slot_list_pop PySem.F.type_list_pop mt_pop (pv 0)) pa_nil)) (pv 1))))), ?_⟩
    refine ⟨_, rfl, a, _, rfl, .inl (SqL.of ha), rfl, _, rfl, ?_⟩
    by_cases he : ns = []
    · subst he
      exact isT rfl (k 0 H hm (fun b o e _ => e) ⟨[], hz, ha⟩)
    · obtain ⟨q, n, rfl⟩ := snoc_of he
      refine isF (fun z => ?_) ?_
      · injection z with z
        simp [natsV] at z
        omega
      · have eq : natsV (q ++ [n]) = natsV q ++ [V.int (n : Int)] := by simp [natsV]
        rw [eq] at ha
        refine ⟨_, rfl, .inl ⟨rfl, _, SqL.of ha⟩, a, _, _, rfl, rfl, ha, last_at _ _, ?_⟩
        rw [List.dropLast_concat]
        refine .inl ⟨_, rfl, _, rfl, _, _, rfl, rfl, (by show (m : Int) ≠ 0; omega), ?_⟩
        have kk := k (n % m) (upd H a (.lst (natsV q))) (Nat.mod_lt _ hm) (fun b o e n => by rw [upd_ne n]; exact e) ⟨q, by simp at hz; omega, upd_same⟩
        rw [← fmod_nat] at kk
        exact kk
abbrev N__law_deck : List Str := ["script", "many", "rest", "cell", "deck", "k", "drawn", "at", "one", "two"]
theorem sc__law_deck : FnScope N__law_deck ["script", "many"] (defScope s__law_deck) := ⟨rfl, rfl, rfl, by decide +kernel, rfl, by decide +kernel, by decide +kernel⟩
def spDeck (K : PySem.W.Frag) : Sp := fun vs H Q _ => ∃ (a : Addr) (ns : List Int) (m : Nat), vs = [.ref a, .int (m : Int)] ∧ SqL K H a (ns.map V.int) ∧ ns.length ≤ 63 ∧ m ≤ 1000 ∧ ∀ (p : Addr) (H' : Hp), H p = none → Same H H' → DeckAt H' p → Q (.ref p) H'
theorem ok_deck (T : Txt K mg) : FnOk P w K mg base CX0 1 T.f__law_deck T.fd__law_deck ["script", "many"] (spDeck K) := by
  refine T.F__law_deck.ok sc__law_deck (fun vs H Q E h => ?_) (fun cdv A outer sh H vs Q E hr h => ?_)
  · obtain ⟨a, ns, m, rfl, _⟩ := h
    rfl
  · obtain ⟨a, ns, m, rfl, ha, hz, hm, k⟩ := h
    have nd := sc__law_deck.nd
    refine ⟨_, (pss_cons (ps_setLc (i := 2) (own := [("cell", 3)]) (g := gName 3) (tt := tYes) rfl nd rfl rfl (sw_true rfl rfl rfl (by decide +kernel)) (pi_list (pv 0)) (blkOk_by (own := [("cell", 3)]) (N := N__law_deck) (sc := defScope s__law_deck) (by decide +kernel)) (fun _ _ _ _ _ => pg_name (i := 3) nd rfl (Or.inl rfl)) (fun _ _ _ _ _ => pts_nil) (fun _ _ _ _ _ => (pv 3)))
          (pss_cons (ps_set (i := 4) nd rfl (Or.inl rfl) (pe_lst pa_nil))
          (pss_cons (ps_for PassesOwn.never rfl (pi_range1 rfl T.z_range (pa_cons (pv 1) pa_nil)) (pg_name (i := 5) nd rfl (Or.inl rfl))
            (pss_cons (ps_set (i := 6) nd rfl (Or.inl rfl) (pe_un un_neg pe_int))
            (pss_cons (ps_set (i := 3) nd rfl (Or.inl rfl) pe_int)
            (Evl.pss_cut (ps_if (pt_cmpR op_gt (pe_callB call_len_seq (by rfl) T.z_len (by decide +kernel) (pa_cons (pv 2) pa_nil)) pe_int (nomark _))
              (pss_cons (ps_set (i := 7) nd rfl (Or.inl rfl) (pe_op op_modN (pv 5) (pe_callB call_len_seq (by rfl) T.z_len (by decide +kernel) (pa_cons (pv 2) pa_nil))))
              (pss_cons (ps_set (i := 3) nd rfl (Or.inl rfl) (pe_ix ix_list (pv 0) (pv 7) (fun _ _ => rfl)))
              (pss_one (ps_if (pt_cmpR op_ge (pe_ix ix_list (pv 2) (pv 7) (fun _ _ => rfl)) (pe_op op_pow pe_int pe_int) (nomark _))
                (pss_cons (ps_set (i := 6) nd rfl (Or.inl rfl) (pe_op op_mod (pe_callTy call_int1 (by rfl) T.z_int (by decide +kernel) (pa_cons (pe_ix ix_list (pv 2) (pv 7) (fun _ _ => rfl)) pa_nil)) pe_int))
                (pss_one (ps_asg (pe_op op_fdiv (pe_ix ix_list (pv 2) (pv 7) (fun _ _ => rfl)) pe_int) (pg_sub (pv 2) (pv 7) set_list))))
                pss_nil))))
              pss_nil)
            (Evl.pss_cut (ps_if (pt_cmpR op_lt (pv 6) pe_int (nomark _))
              (pss_cons (ps_set (i := 8) nd rfl (Or.inl rfl) (pe_op op_mod (pe_op op_add (pe_op op_add (pe_op op_mul (pe_op op_mod (pe_callTy call_int1 (by rfl) T.z_int (by decide +kernel) (pa_cons (pv 3) pa_nil)) pe_int) pe_int) (pe_op op_mul (pv 5) pe_int)) pe_int) pe_int))
              (pss_cons (ps_set (i := 9) nd rfl (Or.inl rfl) (pe_op op_mod (pe_op op_add (pe_op op_mul (pv 8) (pe_op op_add (pe_op op_mod (pv 8) pe_int) pe_int)) (pe_op op_fdiv (pv 8) pe_int)) pe_int))
              (pss_one (ps_set (i := 6) nd rfl (Or.inl rfl) (pe_op op_mod (pe_op op_fdiv (pv 9) pe_int) pe_int)))))
              pss_nil)
            (pss_one (ps_expr (pe_bm PySem.F.plainAttrs_list PySem.F.slot_list_append PySem.F.type_list_append mt_append (pv 4) (pa_cons (pv 6) pa_nil)))))))))
          (pss_cons (ps_expr (pe_bm0 PySem.F.plainAttrs_list PySem.F.slot_list_reverse PySem.F.type_list_reverse mt_reverse (pv 4)))
          (pss_one (ps_ret (pv 4))))))), ?_⟩
    -- rest = [cell for cell in script]
    refine ⟨_, rfl, a, rfl, ⟨_, ha⟩, fun D hD => lc_list (K := K) (a := a) (xs := ns.map V.int) (fun i H' => Same H H' ∧ H' D = some (.lst ((ns.map V.int).take i)))
      ⟨fun b o e => by rw [upd_ne (ne_of_none e hD)]; exact e, upd_same⟩ (fun i H' _ ⟨s, _⟩ => s.seq ha) (fun i x H' hx ⟨s, e⟩ => ?_) (fun H1 ⟨s1, e1⟩ => ?_)⟩
    · refine ⟨rfl, ?_⟩
      refine ⟨_, rfl, _, e, sl_lt (by simp; omega), fun b o q => ?_, ?_⟩
      · rw [upd_ne (ne_of_none q hD)]; exact s _ _ q
      · rw [upd_same, List.take_succ, hx]; rfl
    · rw [List.take_of_length_le (Nat.le_refl _)] at e1
      -- deck = []
      refine ⟨Nat.zero_le _, fun dk hdk => ?_⟩
      have ndk : D ≠ dk := ne_of_none e1 hdk
      refine ⟨_, rfl, _, rfl, by omega, by omega, for_range (lo := 0) (n := m) (fun i σ H' => ∃ (c x d1 d2 d3 d4 : Option V) (rs : List Int) (ds : List Nat), σ = [some (.ref a), some (.int (m : Int)), some (.ref D), c, some (.ref dk), x, d1, d2, d3, d4] ∧
        Same H H' ∧ H' D = some (.lst (rs.map V.int)) ∧ rs.length = ns.length ∧ H' dk = some (.lst (natsV ds)) ∧ ds.length = i) ⟨none, none, none, none, none, none, ns, [], rfl, ?_, ?_, rfl, upd_same, rfl⟩ ?_ ?_⟩
      · intro b o e
        rw [upd_ne (ne_of_none (s1 _ _ e) hdk)]; exact s1 _ _ e
      · rw [upd_ne ndk]; exact e1
      · rintro i σ H' hi ⟨c, x, d1, d2, d3, d4, rs, ds, rfl, s2, eD, lr, ek, ld⟩
        have e0 : (0 : Int) + (i : Int) = (i : Int) := Int.zero_add _
        rw [e0]
        refine ⟨_, rfl, ?_⟩
        refine ⟨fun σ2 H2 => ∃ (c d : Int) (d2 d3 d4 : Option V) (rs : List Int), σ2 = [some (.ref a), some (.int (m : Int)), some (.ref D), some (.int c), some (.ref dk), some (.int (i : Int)), some (.int d), d2, d3, d4] ∧
          Same H H2 ∧ H2 D = some (.lst (rs.map V.int)) ∧ rs.length = ns.length ∧ H2 dk = some (.lst (natsV ds)) ∧ (d = -1 ∨ (0 ≤ d ∧ d < 1000)), ?_, ?_⟩
        · refine ⟨_, rfl, D, _, rfl, .inl (SqL.of eD), _, _, rfl, rfl, _, rfl, ?_⟩
          refine ite2 (fun z => ?_) (fun z => ?_)
          · have z' : (0 : Int) < ((rs.map V.int).length : Nat) := of_decide_eq_true z
            rw [List.length_map] at z'
            have hpos : 0 < rs.length := by omega
            have hlt : i % rs.length < rs.length := Nat.mod_lt _ hpos
            have e2 : Int.fmod (i : Int) (((rs.map V.int).length : Nat) : Int) = ((i % rs.length : Nat) : Int) := by rw [List.length_map, fmod_nat]
            refine ⟨_, rfl, _, rfl, D, _, rfl, .inl (SqL.of eD), _, _, rfl, rfl, (by rw [List.length_map]; omega), ?_⟩
            refine ⟨_, rfl, _, rfl, a, _, _, .int (ns[i % rs.length]'(by omega)), rfl, rfl, s2.seq ha, ?_, ?_⟩
            · rw [e2]
              exact atI_nat (by rw [List.getElem?_map, List.getElem?_eq_getElem (by omega)]; rfl)
            · have er : atI (rs.map V.int) (Int.fmod (i : Int) (((rs.map V.int).length : Nat) : Int)) = some (.int (rs[i % rs.length]'hlt)) := by
                rw [e2]
                exact atI_nat (by rw [List.getElem?_map, List.getElem?_eq_getElem hlt]; rfl)
              refine ⟨_, rfl, _, rfl, D, _, _, _, rfl, rfl, SqL.of eD, er, _, _, rfl, rfl, ⟨by decide, by decide, by decide⟩, _, _, rfl, rfl, _, rfl, ?_⟩
              refine ite2 (fun y => ?_) (fun y => ?_)
              · refine ⟨_, rfl, _, rfl, D, _, _, _, rfl, rfl, SqL.of eD, er, .inl ⟨_, rfl, _, _, rfl, rfl, (by show (0 : Int) < 1000; decide), ?_⟩⟩
                refine ⟨_, rfl, _, rfl, D, _, _, _, rfl, rfl, SqL.of eD, er, _, _, rfl, rfl, ⟨by decide, by decide⟩, ?_⟩
                refine ⟨_, rfl, _, rfl, D, _, _, i % rs.length, rfl, rfl, eD, ?_, ?_⟩
                · rw [e2, List.length_map]
                  exact Evl.ixN_nat hlt
                · refine ⟨_, _, _, _, _, rs.set (i % rs.length) ((rs[i % rs.length]'hlt) / 1000), rfl, fun b o e => ?_, ?_, by rw [List.length_set]; exact lr, ?_, .inr ⟨Int.emod_nonneg _ (by decide), Int.emod_lt_of_pos _ (by decide)⟩⟩
                  · rw [upd_ne (ne_of_none e hD)]; exact s2 _ _ e
                  · rw [upd_same, List.map_set]
                  · rw [upd_ne ndk.symm]; exact ek
              · exact ⟨_, -1, _, _, _, rs, rfl, s2, eD, lr, ek, .inl rfl⟩
          · exact ⟨_, -1, _, _, _, rs, rfl, s2, eD, lr, ek, .inl rfl⟩
        · rintro σ2 H2 ⟨c, d, d2, d3, d4, rs2, rfl, s3, eD2, lr2, ek2, hd⟩
          refine ⟨fun σ3 H3 => ∃ (c : Int) (d : Nat) (d2 d3 d4 : Option V), σ3 = [some (.ref a), some (.int (m : Int)), some (.ref D), some (.int c), some (.ref dk), some (.int (i : Int)), some (.int (d : Int)), d2, d3, d4] ∧ H3 = H2, ?_, ?_⟩
          · refine ⟨_, rfl, _, _, rfl, rfl, _, rfl, ?_⟩
            refine ite2 (fun y => ?_) (fun y => ?_)
            · refine ⟨_, rfl, .inl ⟨_, rfl, _, _, rfl, rfl, (by show (0 : Int) < 2147483629; decide), _, _, rfl, rfl, .inl ⟨?_, ?_⟩, _, rfl, _, _, rfl, rfl, .inl ⟨by omega, by omega⟩, _, _, rfl, rfl, _, _, rfl, rfl, _, _, rfl, rfl, (by show (0 : Int) < 2147483647; decide), ?_⟩⟩
              · have := Int.emod_nonneg c (show (2147483629 : Int) ≠ 0 by decide); omega
              · have := Int.emod_lt_of_pos c (show (0 : Int) < 2147483629 by decide); omega
              · generalize hone : (c % 2147483629 * 48271 + (i : Int) * 69621 + 17) % 2147483647 = one
                have h1 : 0 ≤ one := by rw [← hone]; exact Int.emod_nonneg _ (by decide)
                have h2 : one < 2147483647 := by rw [← hone]; exact Int.emod_lt_of_pos _ (by decide)
                refine ⟨_, rfl, _, rfl, _, _, rfl, rfl, (by show (0 : Int) < 65521; decide), _, _, rfl, rfl, _, _, rfl, rfl, .inl ⟨by omega, by omega⟩, _, rfl, _, _, rfl, rfl, ⟨by decide, by decide⟩, _, _, rfl, rfl, _, _, rfl, rfl, (by show (0 : Int) < 2147483399; decide), ?_⟩
                generalize htwo : (one * (one % 65521 + 3) + one / 8) % 2147483399 = two
                refine ⟨_, rfl, _, _, rfl, rfl, ⟨by decide, by decide⟩, _, _, rfl, rfl, (by show (0 : Int) < 1000; decide), ?_⟩
                have h5 : 0 ≤ two / 1009 % 1000 := Int.emod_nonneg _ (by decide)
                obtain ⟨r, hr⟩ := Int.eq_ofNat_of_zero_le h5
                exact ⟨c, r, d2, some (.int one), some (.int two), by subst htwo; subst hone; rw [← hr] <;> rfl, rfl⟩
            · have hd' : 0 ≤ d := by
                have : ¬ d < 0 := fun q => y (decide_eq_true q)
                omega
              obtain ⟨r, hr⟩ := Int.eq_ofNat_of_zero_le hd'
              exact ⟨c, r, _, _, _, by rw [hr], rfl⟩
          · rintro σ3 H3 ⟨c, d, d2, d3, d4, rfl, rfl⟩
            refine ⟨_, rfl, .inl ⟨rfl, _, SqL.of ek2⟩, _, rfl, dk, _, _, rfl, rfl, ek2, sl_lt (by simp [natsV]; omega), ?_⟩
            refine ⟨_, _, _, _, _, _, rs2, ds ++ [d], rfl, fun b o e => ?_, ?_, lr2, ?_, by simp [ld]⟩
            · rw [upd_ne (ne_of_none (s1 _ _ e) hdk)]; exact s3 _ _ e
            · rw [upd_ne ndk]; exact eD2
            · rw [upd_same]; simp [natsV]
      · rintro σ H' ⟨c, x, d1, d2, d3, d4, rs, ds, rfl, s2, eD, lr, ek, ld⟩
        refine ⟨_, rfl, .inl ⟨rfl, _, SqL.of ek⟩, dk, _, rfl, rfl, ek, ?_⟩
        refine ⟨_, rfl, ?_⟩
        refine k dk _ (s1.free hdk) (fun b o e => ?_) ⟨ds.reverse, by simp; omega, ?_⟩
        · rw [upd_ne (ne_of_none (s1 _ _ e) hdk)]; exact s2 _ _ e
        · rw [upd_same]; simp [natsV]
end
end K90

set_option Elab.async false
set_option linter.all false
set_option maxRecDepth 100000
set_option maxHeartbeats 4000000
namespace K90
open PySem PySem.Spec PyProof.Rows L2 Ru Rp Mch
theorem cells_at {K : PySem.W.Frag} {H : Hp} : ∀ {cs : List Cell} {vs : List V} {i : Nat} {v : V}, CellsAt K H vs cs → vs[i]? = some v → ∃ c, cs[i]? = some c ∧ CellAt K H v c
  | [], vs, i, v, h, e => by rw [cells_nil.mp h] at e; simp at e
  | d :: r, vs, 0, v, h, e => by
    obtain ⟨u, q, rfl, h1, h2⟩ := cells_cons.mp h
    have e' : u = v := by simpa using e
    subst e'
    exact ⟨d, rfl, h1⟩
  | d :: r, vs, i + 1, v, h, e => by
    obtain ⟨u, q, rfl, h1, h2⟩ := cells_cons.mp h
    obtain ⟨c, e1, e2⟩ := cells_at (i := i) h2 (by simpa using e)
    exact ⟨c, by simpa using e1, e2⟩
def sizesV (cs : List Cell) : List Int := cs.map fun c => (c.size : Int)
theorem sum_sizes (cs : List Cell) : (sizesV cs).sum = (sizes cs : Int) := by
  induction cs with
  | nil => rfl
  | cons c r ih =>
    have e : sizesV (c :: r) = (c.size : Int) :: sizesV r := rfl
    rw [e, List.sum_cons, ih]
    simp [sizes]
theorem take_snoc {α : Type} {l : List α} {i : Nat} {x : α} (h : l[i]? = some x) : l.take (i + 1) = l.take i ++ [x] := by
  rw [List.take_succ, h]; rfl
section
variable {P : Program} {w : World} {K : PySem.W.Frag} {mg : Str → Option Value} {base : Heap}
/-- alike, down to a depth -/
def Tw (K : PySem.W.Frag) (H : Hp) : Nat → V → V → Prop
  | 0, v, u => ∃ i, v = .int i ∧ u = .int i
  | n + 1, v, u => (∃ i, v = .int i ∧ u = .int i) ∨ ∃ a b xs ys, v = .ref a ∧ u = .ref b ∧ SqT K H a xs ∧ SqT K H b ys ∧ xs.length = ys.length ∧ xs.length ≤ 1000000 ∧ ∀ (i : Nat) x y, xs[i]? = some x → ys[i]? = some y → Tw K H n x y
theorem Tw.to {H H' : Hp} (t : TEx H H') : ∀ {n : Nat} {v u : V}, Tw K H n v u → Tw K H' n v u
  | 0, _, _, h => h
  | n + 1, v, u, h => by
    rcases h with h | ⟨a, b, xs, ys, h1, h2, h3, h4, h5, h6, h7⟩
    · exact Or.inl h
    · exact Or.inr ⟨a, b, xs, ys, h1, h2, t.sq h3, t.sq h4, h5, h6, fun i x y e1 e2 => Tw.to t (h7 i x y e1 e2)⟩
theorem tw_int (n : Nat) {H : Hp} (i : Int) : Tw K H n (.int i) (.int i) := by
  cases n with
  | zero => exact ⟨i, rfl, rfl⟩
  | succ n => exact Or.inl ⟨i, rfl, rfl⟩
theorem tw_cell {H : Hp} : ∀ (n : Nat) {c : Cell} {v u : V}, c.depth ≤ n → c.size ≤ 1000000 → CellAt K H v c → CellAt K H u c → Tw K H (2 * n) v u
  | 0, c, _, _, h, _, _, _ => by
    cases c
    simp only [Cell.depth] at h
    omega
  | n + 1, .mk m cs, v, u, h, hz, hv, hu => by
    obtain ⟨a, b, vs, rfl, h1, h2, h3⟩ := cellAt_mk.mp hv
    obtain ⟨a', b', vs', rfl, h1', h2', h3'⟩ := cellAt_mk.mp hu
    simp only [Cell.depth] at h
    simp only [Cell.size] at hz
    have l1 := cells_len h3
    have l2 := cells_len h3'
    have ll := length_le_sizes cs
    refine Or.inr ⟨a, a', _, _, rfl, rfl, h1, h1', rfl, by show 2 ≤ 1000000; decide, fun i x y e1 e2 => ?_⟩
    match i, e1, e2 with
    | 0, e1, e2 =>
      cases e1
      cases e2
      exact tw_int _ m
    | 1, e1, e2 =>
      cases e1
      cases e2
      refine Or.inr ⟨b, b', vs, vs', rfl, rfl, h2, h2', by omega, by omega, fun j x y e1 e2 => ?_⟩
      obtain ⟨c, g1, g2⟩ := cells_at h3 e1
      obtain ⟨c', g1', g2'⟩ := cells_at h3' e2
      rw [g1] at g1'
      cases g1'
      have hm : c ∈ cs := List.mem_of_getElem? g1
      have := depths_mem hm
      have := sizes_mem hm
      exact tw_cell n (by omega) (by omega) g2 g2'
    | i + 2, e1, e2 => simp at e1
theorem sqT_ty {H : Hp} {a : Addr} {xs : List V} (h : SqT K H a xs) : TyX K H (.ref a) (.type "tuple") := by
  rcases h with (h | ⟨o, h⟩) | ⟨o, its, n, h1, h2, _⟩
  · exact .base (.tup h)
  · exact .fTuple h
  · exact .kTuple h1 h2
abbrev N__law_alike : List Str := ["told", "due", "k"]
theorem sc__law_alike : FnScope N__law_alike ["told", "due"] (defScope s__law_alike) := ⟨rfl, rfl, rfl, by decide +kernel, rfl, by decide +kernel, by decide +kernel⟩
def spAlike (K : PySem.W.Frag) (n : Nat) : Sp := fun vs H Q _ => ∃ (v u : V), vs = [v, u] ∧ Tw K H n v u ∧ ∀ H', Same H H' → Q (.bl true) H'
theorem ok_alike0 (T : Txt K mg) (n : Nat) {sp' : Sp} (G__law_alike : FnOk P w K mg base CX0 (n + 1) T.f__law_alike T.fd__law_alike ["told", "due"] sp') (hsp : ∀ m, n = m + 1 → sp' = spAlike K m) : FnOk P w K mg base CX0 (n + 2) T.f__law_alike T.fd__law_alike ["told", "due"] (spAlike K n) := by
  refine T.F__law_alike.ok sc__law_alike (fun vs H Q E h => ?_) (fun cdv A outer sh H vs Q E hr h => ?_)
  · obtain ⟨v, u, rfl, _⟩ := h
    rfl
  · obtain ⟨v, u, rfl, hT, k⟩ := h
    have nd := sc__law_alike.nd
    have hr__law_alike : Room (n + 1) _ := hr
    refine ⟨_, (pss_cons (ps_if (pt_val (pe_callB call_isi (by rfl) T.z_isinstance (by decide +kernel) (pa_cons (pv 1) (pa_cons (pe_bltn (v := .ty "tuple") (by rfl) T.z_tuple (by decide +kernel) rfl) pa_nil))))
            (pss_cons (ps_if (PW.pt (pw_or (pt_not (pt_val (pe_callB call_isi (by rfl) T.z_isinstance (by decide +kernel) (pa_cons (pv 0) (pa_cons (pe_bltn (v := .ty "tuple") (by rfl) T.z_tuple (by decide +kernel) rfl) pa_nil))))) (pw_or1 (pt_cmpR op_ne (pe_callB call_len_seq (by rfl) T.z_len (by decide +kernel) (pa_cons (pv 0) pa_nil)) (pe_callB call_len_seq (by rfl) T.z_len (by decide +kernel) (pa_cons (pv 1) pa_nil)) (nomark _)))))
              (pss_one (ps_ret pe_bl))
              pss_nil)
            (pss_cons (ps_for PassesOwn.never rfl (pi_range1 rfl T.z_range (pa_cons (pe_callB call_len_seq (by rfl) T.z_len (by decide +kernel) (pa_cons (pv 1) pa_nil)) pa_nil)) (pg_name (i := 2) nd rfl (Or.inl rfl))
              (pss_one (ps_if (pt_not (pt_val (pe_call G__law_alike hr__law_alike rfl T.g__law_alike T.k__law_alike T.b__law_alike .nil pass0 (pa_cons (pe_ix ix_tup (pv 0) (pv 2) (fun _ _ => rfl)) (pa_cons (pe_ix ix_tup (pv 1) (pv 2) (fun _ _ => rfl)) pa_nil)))))
                (pss_one (ps_ret pe_bl))
                pss_nil)))
            (pss_one (ps_ret pe_bl))))
            pss_nil)
          (pss_cons (ps_if (pt_cmpR op_isN (pv 1) pe_non (nomark _))
            (pss_one (ps_ret (pe_cmpR op_isN (pv 0) pe_non (nomark _))))
            pss_nil)
          (pss_cons (ps_if (pt_val (pe_callB call_isi (by rfl) T.z_isinstance (by decide +kernel) (pa_cons (pv 1) (pa_cons (pe_bltn (v := .ty "str") (by rfl) T.z_str (by decide +kernel) rfl) pa_nil))))
            (pss_one (ps_ret (pe_and (pe_callB call_isi (by rfl) T.z_isinstance (by decide +kernel) (pa_cons (pv 0) (pa_cons (pe_bltn (v := .ty "str") (by rfl) T.z_str (by decide +kernel) rfl) pa_nil))) (pe_one (pe_cmpR op_eq (pv 0) (pv 1) (nomark _))))))
            pss_nil)
          (pss_one (ps_ret (pe_and (pe_callB call_isi (by rfl) T.z_isinstance (by decide +kernel) (pa_cons (pv 0) (pa_cons (pe_bltn (v := .ty "int") (by rfl) T.z_int (by decide +kernel) rfl) pa_nil))) (pe_and (pe_not (pe_callB call_isi (by rfl) T.z_isinstance (by decide +kernel) (pa_cons (pv 0) (pa_cons (pe_bltn (v := .ty "bool") (by rfl) T.z_bool (by decide +kernel) rfl) pa_nil)))) (pe_one (pe_cmpR op_eq (pv 0) (pv 1) (nomark _)))))))))), ?_⟩
    have two : (∃ i, v = .int i ∧ u = .int i) ∨ (∃ m, n = m + 1 ∧ ∃ a b xs ys, v = .ref a ∧ u = .ref b ∧ SqT K H a xs ∧ SqT K H b ys ∧ xs.length = ys.length ∧ xs.length ≤ 1000000 ∧ ∀ (i : Nat) x y, xs[i]? = some x → ys[i]? = some y → Tw K H m x y) := by
      cases n with
      | zero => exact Or.inl hT
      | succ m =>
        rcases hT with h | h
        · exact Or.inl h
        · exact Or.inr ⟨m, rfl, h⟩
    rcases two with ⟨i, rfl, rfl⟩ | ⟨m, hn, a, b, xs, ys, rfl, rfl, h1, h2, h3, h4, h5⟩
    · refine ⟨_, rfl, _, _, _, _, false, rfl, .ty _, .base (.int i), kit_ty (by decide +kernel), _, rfl, iteF ?_⟩
      refine ⟨_, rfl, rfl, _, rfl, iteF ?_⟩
      refine ⟨_, rfl, _, _, _, _, false, rfl, .ty _, .base (.int i), kit_ty (by decide +kernel), _, rfl, iteF ?_⟩
      refine ⟨_, rfl, _, _, _, _, true, rfl, .ty _, .base (.int i), kit_ty (by decide +kernel), _, rfl, iteT ?_⟩
      refine ⟨_, rfl, _, _, _, _, false, rfl, .ty _, .base (.int i), kit_ty (by decide +kernel), _, rfl, _, rfl, ?_⟩
      refine ⟨_, rfl, _, rfl, rfl, ?_⟩
      have e : decide (V.int i = V.int i) = true := decide_eq_true rfl
      have kk := k H (fun _ _ e => e)
      rw [← e] at kk
      exact kk
    · subst hn
      cases hsp m rfl
      refine ⟨_, rfl, _, _, _, _, true, rfl, .ty _, sqT_ty h2, kit_ty (by decide +kernel), _, rfl, iteT ?_⟩
      refine ⟨_, rfl, _, _, _, _, true, rfl, .ty _, sqT_ty h1, kit_ty (by decide +kernel), _, rfl, ?_⟩
      refine iteF ?_
      refine ⟨_, rfl, a, xs, rfl, .inr h1, _, rfl, b, ys, rfl, .inr h2, rfl, _, rfl, ?_⟩
      refine iteNS (by rw [h3]) ?_
      refine ⟨_, rfl, b, ys, rfl, .inr h2, _, rfl, by omega, by omega, for_range (lo := 0) (n := ys.length) (fun i σ H' => ∃ x, σ = [some (.ref a), some (.ref b), x] ∧ Same H H') ⟨none, rfl, fun _ _ e => e⟩ ?_ ?_⟩
      · rintro i σ H' hi ⟨x, rfl, s⟩
        have e0 : (0 : Int) + (i : Int) = (i : Int) := Int.zero_add _
        rw [e0]
        have t := TEx.of_same s
        have hi2 : i < xs.length := by omega
        have g1 := List.getElem?_eq_getElem hi2
        have g2 := List.getElem?_eq_getElem hi
        refine ⟨_, rfl, _, rfl, a, xs, _, _, rfl, rfl, t.sq h1, atI_nat g1, _, rfl, _, rfl, b, ys, _, _, rfl, rfl, t.sq h2, atI_nat g2, _, _, rfl, (h5 i _ _ g1 g2).to t, fun H2 s2 => ?_⟩
        refine ⟨_, rfl, iteF ?_⟩
        exact ⟨_, rfl, fun _ _ e => s2 _ _ (s _ _ e)⟩
      · rintro σ H' ⟨x, rfl, s⟩
        exact k H' s
def spNo : Sp := fun _ _ _ _ => False
theorem ok_alike (T : Txt K mg) : ∀ n, FnOk P w K mg base CX0 (n + 2) T.f__law_alike T.fd__law_alike ["told", "due"] (spAlike K n)
  | 0 => ok_alike0 T 0 (sp' := spNo) (T.F__law_alike.ok sc__law_alike (fun vs H Q E h => h.elim) (fun cdv A outer sh H vs Q E hr h => h.elim)) (fun m e => by cases e)
  | n + 1 => ok_alike0 T (n + 1) (ok_alike T n) (fun m e => by cases e; rfl)
end
end K90

set_option Elab.async false
set_option linter.all false
set_option maxRecDepth 100000
set_option maxHeartbeats 4000000
namespace K90
open PySem PySem.Spec PyProof.Rows L2 Ru Rp Mch
def Bset (B : Built Nm) (f : Nm) (x : Nat × List (Row Nm)) : Built Nm := fun g => if g = f then some x else B g
theorem bset_same {B : Built Nm} {f : Nm} {x : Nat × List (Row Nm)} : Bset B f x f = some x := if_pos rfl
theorem bset_ne {B : Built Nm} {f g : Nm} {x : Nat × List (Row Nm)} (h : ¬ g = f) : Bset B f x g = B g := if_neg h
/-! ### displays of rows -/
section
variable (K : PySem.W.Frag) (H0 : Hp) (σ : L2.St)
def RB (te : TE) (r : Row Nm) : Prop := ∀ H, Same H0 H → ∀ Q : VK, (∀ v H', Same H H' → RowAt K H' v r → Q v H') → te σ H Q
def RLs (ta : TA) (rs : List (Row Nm)) : Prop := ∀ H, Same H0 H → ∀ Q : List V → Hp → Prop, (∀ vs H', Same H H' → RowsOf K H' vs rs → Q vs H') → ta σ H Q
def RsB (te : TE) (rs : List (Row Nm)) : Prop := ∀ H, Same H0 H → ∀ Q : VK, (∀ v H', Same H H' → RowsAt K H' v rs → Q v H') → te σ H Q
def DB (te : TE) (g : Nat) (rs : List (Row Nm)) : Prop := ∀ H, Same H0 H → ∀ Q : VK, (∀ v H', Same H H' → DefAt K H' v g rs → Q v H') → te σ H Q
end
section
variable {K : PySem.W.Frag} {H0 : Hp} {σ : L2.St} {te : TE} {ta : TA} {r : Row Nm} {rs : List (Row Nm)}
theorem same_new {H : Hp} {p : Addr} {o : HO} (h : H p = none) : Same H (upd H p o) := fun b u e => by rw [upd_ne (ne_of_none e h)]; exact e
theorem rowV_len (r : Row Nm) : (rowV r).length ≤ 10000000 := by cases r <;> (simp [rowV] <;> decide)
theorem rb_tup (h : ∀ H (Q : List V → Hp → Prop), Q (rowV r) H → ta σ H Q) : RB K H0 σ (tTup ta) r := fun H _ Q q => h H _ ⟨sl_le (rowV_len r), fun p hp => q _ _ (same_new hp) ⟨p, rfl, SqT.of upd_same⟩⟩
theorem rls_nil : RLs K H0 σ tNil [] := fun H _ Q q => q [] H (Same.refl H) .nil
theorem rls_cons (h1 : RB K H0 σ te r) (h2 : RLs K H0 σ ta rs) : RLs K H0 σ (tCons te ta) (r :: rs) := fun H s Q q =>
  h1 H s _ fun v H1 s1 hr => h2 H1 (s.trans s1) _ fun vs H2 s2 hrs => q _ H2 (s1.trans s2) (.cons (hr.to (TEx.of_same s2)) hrs)
theorem rows_len {H : Hp} {vs : List V} (h : RowsOf K H vs rs) : vs.length = rs.length := Paired.length h
theorem rs_tup (h : RLs K H0 σ ta rs) (hl : rs.length ≤ 1000 := by decide) : RsB K H0 σ (tTup ta) rs := fun H s Q q => h H s _ fun vs H1 s1 hrs =>
  ⟨sl_le (by rw [rows_len hrs]; omega), fun p hp => q _ _ (s1.trans (same_new hp)) ⟨p, vs, rfl, SqT.of upd_same, hrs.to (TEx.upd_new hp)⟩⟩
theorem lst_rows (h : RLs K H0 σ ta rs) {H : Hp} (s : Same H0 H) {Q : VK} (q : ∀ p vs H', H p = none → Same H H' → H' p = some (.lst vs) → RowsOf K H' vs rs → Q (.ref p) H') (hl : rs.length ≤ 1000 := by decide) : tLst ta σ H Q := h H s _ fun vs H1 s1 hrs =>
  ⟨sl_le (by rw [rows_len hrs]; omega), fun p hp => q p vs _ (s1.free hp) (s1.trans (same_new hp)) upd_same (hrs.to (TEx.upd_new hp))⟩
theorem db_tup {gi : Int} {g : Nat} (hg : gi = (g : Int)) (h : RsB K H0 σ te rs) : DB K H0 σ (tTup (tCons (tC (.int gi)) (tCons te tNil))) g rs := fun H s Q q => by
  subst hg
  exact h H s _ fun v H1 s1 hrs => ⟨sl_le (by show 2 ≤ 10000000; decide), fun p hp => q _ _ (s1.trans (same_new hp)) ⟨p, v, rfl, SqT.of upd_same, hrs.to (TEx.upd_new hp)⟩⟩
def rTupleOf (K : PySem.W.Frag) : List V → Hp → VK → Prop := fun xs H Q => ∃ p ys, xs = [.ref p] ∧ ((SqL K H p ys ∧ ∀ l, H l = none → Q (.ref l) (upd H l (.tup ys))) ∨ (SqT K H p ys ∧ Q (.ref p) H))
theorem rs_of {i : Nat} {l : Addr} {vs : List V} (hi : σ[i]? = some (some (.ref l))) (hl : H0 l = some (.lst vs)) (hr : RowsOf K H0 vs rs) : RsB K H0 σ (tCB (rTupleOf K) (tCons (tVar i) tNil)) rs := fun H s Q q =>
  ⟨_, hi, l, vs, rfl, .inl ⟨SqL.of (s _ _ hl), fun p hp => q _ _ (same_new hp) ⟨p, vs, rfl, SqT.of upd_same, hr.to ((TEx.of_same s).trans (TEx.upd_new hp))⟩⟩⟩

/-! ### a def put into the dict -/
def RefVals (kvs : List (List Key × V)) : Prop := (∀ p ∈ kvs, ∃ c, p.2 = .ref c) ∧ (kvs.map (·.1)).Nodup
theorem put_firsts {kvs : List (List Key × V)} {k : List Key} {v : V} : (kvs.map fun kv => if kv.1 = k then (kv.1, v) else kv).map (·.1) = kvs.map (·.1) := by
  induction kvs with
  | nil => rfl
  | cons p r ih =>
    simp only [List.map_cons, ih]
    congr 1
    split <;> rfl
theorem refVals_put {kvs : List (List Key × V)} {k : List Key} {c : Addr} (h : RefVals kvs) : RefVals (putK kvs k (.ref c)) := by
  refine ⟨fun p hp => ?_, ?_⟩
  · unfold putK at hp
    split at hp
    · obtain ⟨q, hq, rfl⟩ := List.mem_map.mp hp
      split
      · exact ⟨c, rfl⟩
      · exact h.1 q hq
    · rcases List.mem_append.mp hp with hp | hp
      · exact h.1 p hp
      · have e : p = (k, V.ref c) := by simpa using hp
        rw [e]
        exact ⟨c, rfl⟩
  · by_cases e : (kvs.any fun kv => decide (kv.1 = k)) = true
    · unfold putK
      rw [if_pos e, put_firsts]
      exact h.2
    · have e' : valV kvs k = none := by
        rw [valV_any] at e
        cases q : valV kvs k with
        | none => rfl
        | some v => rw [q] at e; exact absurd rfl e
      rw [putK_new _ e', List.map_append, List.map_cons, List.map_nil, List.nodup_append]
      refine ⟨h.2, by simp, fun x hx y hy z => ?_⟩
      rw [List.mem_singleton.mp hy] at z
      subst z
      apply e
      obtain ⟨p, hp, e2⟩ := List.mem_map.mp hx
      exact List.any_eq_true.mpr ⟨p, hp, decide_eq_true e2⟩
theorem built_put {H : Hp} {kvs : List (List Key × V)} {B : Built Nm} {f : Nm} {v : V} {g : Nat} (h : BuiltOf K H kvs B) (hd : DefAt K H v g rs) : BuiltOf K H (putK kvs (keyOf f) v) (Bset B f (g, rs)) := fun f' => by
  rw [valV_put]
  by_cases e : f' = f
  · subst e
    rw [bset_same, if_pos rfl]
    refine ⟨fun z => ?_, fun g' rs' z => ?_⟩
    · cases z
    · cases z
      exact ⟨v, rfl, hd⟩
  · rw [bset_ne e, if_neg (fun z => e (keyOf_inj z))]
    exact h f'
theorem tex_dict {H H' : Hp} {d : Addr} {kvs : List (List Key × V)} (hd : H d = some (.dT kvs)) (k : But1 H H' d) : TEx H H' := fun a zs r => by
  have n1 : a ≠ d := by
    rintro rfl
    rcases r with r | ⟨o, r⟩ <;> (rw [hd] at r; cases r)
  rcases r with r | ⟨o, r⟩
  · exact Or.inl (k _ _ r n1)
  · exact Or.inr ⟨o, k _ _ r n1⟩
theorem put_built {D : Ends} {i : Nat} {mo na : Str} {d : Addr} {kvs : List (List Key × V)} {B : Built Nm} {g : Nat} {tv : TE} {H : Hp} (hσ : σ[i]? = some (some (.ref d))) (hd : H d = some (.dT kvs)) (hB : BuiltOf K H kvs B) (hz : kvs.length ≤ 1000000) (hR : RefVals kvs) (hv : DB K H σ tv g rs)
    (k : ∀ H' kvs', But1 H H' d → H' d = some (.dT kvs') → kvs'.length ≤ kvs.length + 1 → RefVals kvs' → BuiltOf K H' kvs' (Bset B (mo, na) (g, rs)) → D.nx σ H') :
    sDPut (tVar i) (tTup (tCons (tC (.str mo)) (tCons (tC (.str na)) tNil))) tv D σ H := hv H (Same.refl H) _ fun v H1 s1 hdf =>
  ⟨_, hσ, sl_le (by show 2 ≤ 10000000; decide), fun p hp => by
    have hd1 := s1 _ _ hd
    have hd2 : (upd H1 p (.tup [.str mo, .str na])) d = some (.dT kvs) := by rw [upd_ne (ne_of_none hd1 hp)]; exact hd1
    have b1 : But1 H (upd (upd H1 p (.tup [.str mo, .str na])) d (.dT (putK kvs (keyOf (mo, na)) v))) d := fun b o e n => by
      rw [upd_ne n, upd_ne (ne_of_none (s1 _ _ e) hp)]; exact s1 _ _ e
    have t1 := tex_dict hd b1
    refine ⟨d, _, rfl, DPut.t (k := keyOf (mo, na)) hd2 upd_same (sl_lt (by omega)), k _ (putK kvs (keyOf (mo, na)) v) b1 upd_same (length_putK _ _ _) ?_ (built_put (hB.to t1) (hdf.to ?_))⟩
    · obtain ⟨a, r, rfl, _⟩ := hdf
      exact refVals_put hR
    · exact tex_dict hd1 fun b o e n => by rw [upd_ne n, upd_ne (ne_of_none e hp)]; exact e⟩
end
section
variable {P : Program} {w : World} {K : PySem.W.Frag} {mg : Str → Option Value} {base : Heap}
/-- the dict at d holds what B tells -/
structure DictAt (K : PySem.W.Frag) (H : Hp) (d : Addr) (n : Nat) (kvs : List (List Key × V)) (B : Built Nm) : Prop where
  at_ : H d = some (.dT kvs)
  len : kvs.length ≤ n
  ref : RefVals kvs
  built : BuiltOf K H kvs B
theorem DictAt.deck {H H' : Hp} {d dk : Addr} {n : Nat} {kvs : List (List Key × V)} {B : Built Nm} (h : DictAt K H d n kvs B) (hD : DeckAt H dk) (b : But1 H H' dk) : DictAt K H' d n kvs B := by
  have ne : d ≠ dk := by
    obtain ⟨ns, _, hn⟩ := hD
    exact ne_of h.at_ hn (by intro z; cases z)
  exact ⟨b _ _ h.at_ ne, h.len, h.ref, h.built.to (hD.tex b)⟩
theorem DictAt.same {H H' : Hp} {d : Addr} {n : Nat} {kvs : List (List Key × V)} {B : Built Nm} (h : DictAt K H d n kvs B) (s : Same H H') : DictAt K H' d n kvs B := ⟨s _ _ h.at_, h.len, h.ref, h.built.to (TEx.of_same s)⟩
theorem DeckAt.same {H H' : Hp} {dk : Addr} (h : DeckAt H dk) (s : Same H H') : DeckAt H' dk := by
  obtain ⟨ns, hz, hn⟩ := h
  exact ⟨ns, hz, s _ _ hn⟩
theorem DeckAt.but {H H' : Hp} {d dk : Addr} {kvs : List (List Key × V)} (h : DeckAt H dk) (hd : H d = some (.dT kvs)) (b : But1 H H' d) : DeckAt H' dk := by
  obtain ⟨ns, hz, hn⟩ := h
  exact ⟨ns, hz, b _ _ hn (ne_of hn hd (by intro z; cases z))⟩
theorem put_dict {D : Ends} {σ : L2.St} {i : Nat} {mo na : Str} {d : Addr} {n : Nat} {kvs : List (List Key × V)} {B : Built Nm} {g : Nat} {rs : List (Row Nm)} {tv : TE} {H : Hp} (hσ : σ[i]? = some (some (.ref d))) (h : DictAt K H d n kvs B) (hn : n ≤ 100000) (hv : DB K H σ tv g rs)
    (k : ∀ H' kvs', But1 H H' d → DictAt K H' d (n + 1) kvs' (Bset B (mo, na) (g, rs)) → D.nx σ H') :
    sDPut (tVar i) (tTup (tCons (tC (.str mo)) (tCons (tC (.str na)) tNil))) tv D σ H :=
  put_built hσ h.at_ h.built (by have := h.len; omega) h.ref hv fun H' kvs' b hd hl hR hB => k H' kvs' b ⟨hd, by have := h.len; omega, hR, hB⟩
end
theorem valV_notin {kvs : List (List Key × V)} {k : List Key} (h : ¬ k ∈ kvs.map (·.1)) : valV kvs k = none := by
  cases e : valV kvs k with
  | none => rfl
  | some v => exact absurd (valV_in e) h
theorem valV_at {kvs : List (List Key × V)} (hn : (kvs.map (·.1)).Nodup) : ∀ {i : Nat} {k : List Key} {v : V}, kvs[i]? = some (k, v) → valV kvs k = some v := by
  induction kvs with
  | nil => intro i k v h; simp at h
  | cons p r ih =>
    intro i k v h
    rw [List.map_cons, List.nodup_cons] at hn
    cases i with
    | zero =>
      have e : p = (k, v) := by simpa using h
      subst e
      exact valV_pos (p := (k, v)) rfl
    | succ i =>
      have h' : r[i]? = some (k, v) := by simpa using h
      have hm : k ∈ r.map (·.1) := List.mem_map.mpr ⟨(k, v), List.mem_of_getElem? h', rfl⟩
      rw [valV_neg (fun z => hn.1 (by rw [z]; exact hm))]
      exact ih hn.2 h'
theorem put_take {kvs : List (List Key × V)} (hn : (kvs.map (·.1)).Nodup) {i : Nat} {k : List Key} {v : V} (h : kvs[i]? = some (k, v)) : putK (kvs.take i) k v = kvs.take (i + 1) := by
  rw [putK_new, take_snoc h]
  refine valV_notin fun hm => ?_
  rw [List.map_take] at hm
  have h1 : (kvs.map (·.1))[i]? = some k := by rw [List.getElem?_map, h]; rfl
  obtain ⟨j, hj⟩ := List.getElem?_of_mem hm
  rw [List.getElem?_take] at hj
  split at hj
  · rename_i q
    have := nodup_get hn hj h1
    omega
  · cases hj
section
variable {K : PySem.W.Frag} {σ : L2.St} {H H0 H' : Hp}
theorem same_but1 {l : Addr} (s : Same H0 H) (n : H0 l = none) (b : But1 H H' l) : Same H0 H' := fun b' o e => b _ _ (s _ _ e) (ne_of_none e n)
/-- xs.extend(rows) -/
theorem ext_rows {D : Ends} {i : Nat} {rl : Addr} {vs : List V} {rs rs2 : List (Row Nm)} {ta : TA} (hσ : σ[i]? = some (some (.ref rl))) (e : H rl = some (.lst vs)) (hR : RowsOf K H vs rs) (h : RLs K H σ ta rs2) (h1 : rs.length ≤ 1000) (h2 : rs2.length ≤ 1000)
    (k : ∀ H' vs', But1 H H' rl → H' rl = some (.lst vs') → RowsOf K H' vs' (rs ++ rs2) → D.nx σ H') : tDrop (tBM K "list" rExtend (tVar i) (tCons (tLst ta) tNil)) D σ H := by
  refine ⟨_, hσ, .inl ⟨rfl, _, SqL.of e⟩, lst_rows (K := K) (H0 := H) (rs := rs2) h (Same.refl _) (fun l vs9 H9 hl9 s9 el hrs => ?_) h2⟩
  have l9 := rows_len hrs
  have l8 := rows_len hR
  refine ⟨rl, l, _, _, rfl, rfl, s9 _ _ e, el, sl_le (by omega), ?_⟩
  have t10 : TEx H9 (upd H9 rl (.lst (vs ++ vs9))) := TEx.upd_lst (s9 _ _ e)
  exact k _ _ (fun b o q nb => by rw [upd_ne nb]; exact s9 _ _ q) upd_same (paired_append ((RowsOf.to (TEx.of_same s9) hR).to t10) (RowsOf.to t10 hrs))
theorem app_row {D : Ends} {i : Nat} {rl : Addr} {vs : List V} {rs : List (Row Nm)} {r : Row Nm} {te : TE} (hσ : σ[i]? = some (some (.ref rl))) (e : H rl = some (.lst vs)) (hR : RowsOf K H vs rs) (h : RB K H σ te r) (h1 : rs.length ≤ 1000)
    (k : ∀ H' vs', But1 H H' rl → H' rl = some (.lst vs') → RowsOf K H' vs' (rs ++ [r]) → D.nx σ H') : tDrop (tBM K "list" rAppend (tVar i) (tCons te tNil)) D σ H := by
  refine ⟨_, hσ, .inl ⟨rfl, _, SqL.of e⟩, h H (Same.refl _) _ fun v H9 s9 hr => ?_⟩
  have l8 := rows_len hR
  refine ⟨rl, vs, v, rfl, rfl, s9 _ _ e, sl_lt (by omega), ?_⟩
  have t10 : TEx H9 (upd H9 rl (.lst (vs ++ [v]))) := TEx.upd_lst (s9 _ _ e)
  exact k _ _ (fun b o q nb => by rw [upd_ne nb]; exact s9 _ _ q) upd_same (paired_append ((RowsOf.to (TEx.of_same s9) hR).to t10) (.cons (RowAt.to t10 hr) .nil))
/-- the put behind its value -/
theorem put_rest {D : Ends} {i : Nat} {mo na : Str} {d : Addr} {n : Nat} {kvs : List (List Key × V)} {B : Built Nm} {g : Nat} {rs : List (Row Nm)} {v : V} (hσ : σ[i]? = some (some (.ref d))) (h : DictAt K H d n kvs B) (hn : n ≤ 100000) (hdf : DefAt K H v g rs)
    (k : ∀ H' kvs', But1 H H' d → DictAt K H' d (n + 1) kvs' (Bset B (mo, na) (g, rs)) → D.nx σ H') :
    sDPut (tVar i) (tTup (tCons (tC (.str mo)) (tCons (tC (.str na)) tNil))) (tC v) D σ H :=
  put_dict hσ h hn (fun H s Q q => q v H (Same.refl _) (hdf.to (TEx.of_same s))) k
theorem cat_any {a b : Addr} {xs ys : List V} {Q : VK} (ha : SqT K H a xs) (hb : SqT K H b ys) (hl : xs.length + ys.length ≤ 10000000) (k : ∀ r H', Same H H' → SqT K H' r (xs ++ ys) → Q (.ref r) H') : rCatA K (.ref a) (.ref b) H Q := by
  refine ⟨a, b, xs, ys, rfl, rfl, ha, hb, sl_le hl, fun z => ?_, fun _ z => ?_, fun _ _ p hp => k p _ (same_new hp) (SqT.of upd_same)⟩
  · subst z
    exact k b H (Same.refl _) hb
  · subst z
    exact k a H (Same.refl _) (by rw [List.append_nil]; exact ha)
theorem cut_any {a : Addr} {xs : List V} {lo hi : Option Int} {Q : VK} (ha : SqT K H a xs) (k : ∀ r H', Same H H' → SqT K H' r (cutV xs lo hi) → Q (.ref r) H') : rSlA K (.ref a) lo hi H Q := by
  refine ⟨a, xs, rfl, ha, fun z => k a H (Same.refl _) ?_, fun _ p hp => k p _ (same_new hp) (SqT.of upd_same)⟩
  unfold cutV
  rw [z.1, z.2, List.drop_zero, Nat.sub_zero, List.take_of_length_le (Nat.le_refl _)]
  exact ha
/-- a loop over the keys of a locked dict -/
theorem for_keysT {d : Addr} {o : Obj} {kvs : List (List Key × V)} {g : TG} {tb : TS} {D : Ends} {σ : L2.St} {H : Hp} (Pv : Nat → L2.St → Hp → Prop) (h0 : Pv 0 σ H) (hl : ∀ i σ H, Pv i σ H → H d = some (.frz o (.dT kvs)))
    (hs : ∀ i k v q σ H, kvs[i]? = some (k, v) → H q = some (.tup (k.map kV)) → Pv i σ H → g (.ref q) σ H fun σ2 H2 => tb { D with nx := Pv (i + 1), ct := Pv (i + 1), bk := D.nx } σ2 H2) (hd : ∀ σ H, Pv kvs.length σ H → D.nx σ H) :
    ∃ W : Nat → Nat → L2.St → Hp → Prop, (∃ m, W 0 m σ H) ∧ ∀ i m σ H, W i m σ H →
      ((Itkt d o kvs).stop i H ∧ D.nx σ H) ∨ ((Itkt d o kvs).go i H ∧ ∃ N : L2.St → Hp → Prop, (∀ σ' H', N σ' H' → ∃ m', m' < m ∧ W (i + 1) m' σ' H') ∧ ∀ x H', (Itkt d o kvs).yld i H x H' → g x σ H' fun σ2 H2 => tb { D with nx := N, ct := N, bk := D.nx } σ2 H2) := by
  refine ⟨fun i m σ H => m = kvs.length - i ∧ i ≤ kvs.length ∧ Pv i σ H, ⟨kvs.length, by omega, Nat.zero_le _, h0⟩, ?_⟩
  rintro i m σ H ⟨rfl, hi, p⟩
  have e := hl i σ H p
  by_cases hlt : i < kvs.length
  · refine .inr ⟨⟨e, hlt⟩, Pv (i + 1), fun σ' H' p' => ⟨kvs.length - (i + 1), by omega, rfl, hlt, p'⟩, fun x H' y => ?_⟩
    obtain ⟨rfl, k, v, q, e1, rfl, e2⟩ := y
    exact hs i k v q σ _ e1 e2 p
  · have ei : i = kvs.length := by omega
    subst ei
    exact .inl ⟨⟨e, Nat.le_refl _⟩, hd σ H p⟩
/-- the put behind its value, the key made in any way -/
theorem put_key {D : Ends} {i : Nat} {mo na : Str} {tk : TE} {d : Addr} {n : Nat} {kvs : List (List Key × V)} {B : Built Nm} {g : Nat} {rs : List (Row Nm)} {v : V} (hσ : σ[i]? = some (some (.ref d))) (h : DictAt K H d n kvs B) (hn : n ≤ 100000) (hdf : DefAt K H v g rs)
    (hk : ∀ (H1 : Hp) (Q : VK), (∀ p, H1 p = none → Q (.ref p) (upd H1 p (.tup [.str mo, .str na]))) → tk σ H1 Q)
    (k : ∀ H' kvs', But1 H H' d → DictAt K H' d (n + 1) kvs' (Bset B (mo, na) (g, rs)) → D.nx σ H') : sDPut (tVar i) tk (tC v) D σ H := by
  refine ⟨_, hσ, hk H _ fun p hp => ?_⟩
  have hd2 : (upd H p (.tup [.str mo, .str na])) d = some (.dT kvs) := by rw [upd_ne (ne_of_none h.at_ hp)]; exact h.at_
  have b1 : But1 H (upd (upd H p (.tup [.str mo, .str na])) d (.dT (putK kvs (keyOf (mo, na)) v))) d := fun b o e n => by
    rw [upd_ne n, upd_ne (ne_of_none e hp)]; exact e
  have t1 := tex_dict h.at_ b1
  obtain ⟨a, r, rfl, _⟩ := id hdf
  refine ⟨d, _, rfl, DPut.t (k := keyOf (mo, na)) hd2 upd_same (sl_lt (by have := h.len; omega)), k _ _ b1 ⟨upd_same, ?_, refVals_put h.ref, built_put (h.built.to t1) (hdf.to t1)⟩⟩
  have := length_putK kvs (keyOf (mo, na)) (V.ref a)
  have := h.len
  omega
end
end K90

set_option Elab.async false
set_option linter.all false
set_option maxRecDepth 100000
set_option maxHeartbeats 4000000
namespace K90
open PySem PySem.Spec PyProof.Rows L2 Ru Rp Mch
def rIsEC (K : PySem.W.Frag) (cls : Value) (d : Option Addr) (a : Addr) : List V → Hp → VK → Prop := fun xs H Q => ∃ D, cls = .ref D ∧ d = none ∧ ExcC K D ∧ rIsE K D a xs H Q
/-- isinstance of the error that the suite holds, whichever own class it has -/
theorem call_isEC {X : Cx} {a : Addr} {cls : Value} {d : Option Addr} {oe : Obj} {pn : List (Addr × Obj)} (hz : Zc cls d oe) (hf : ∃ vs, oe.data = .fields vs) :
    CallR (X.suite a ((a, oe) :: pn)) (.builtin "isinstance") (rIsEC X.K cls d a) := by
  intro pins s σ H xs us Q I r h
  obtain ⟨D, rfl, rfl, hC, h⟩ := h
  exact call_isE hC hz hf pins s σ H xs us Q I r h
section
variable {P : Program} {w : World} {K : PySem.W.Frag} {mg : Str → Option Value} {base : Heap}
def wordOf : Out → Str
  | .val _ => "none"
  | .bad .name => "BadName"
  | .bad .value => "BadValue"
  | .bad .long => "TooLong"
abbrev N__law_word : List Str := ["built", "module", "name", "cells", "e", "known", "words", "found", "k"]
theorem sc__law_word : FnScope N__law_word ["built", "module", "name", "cells"] (defScope s__law_word) := ⟨rfl, rfl, rfl, by decide +kernel, rfl, by decide +kernel, by decide +kernel⟩
def spWord (K : PySem.W.Frag) : Sp := fun vs H Q _ => ∃ (d c : Addr) (kvs : List (List Key × V)) (B : Built Nm) (mo na : Str) (cv : List V) (cells : List Cell) (oo : Out),
  vs = [.ref d, .str mo, .str na, .ref c] ∧ H d = some (.dT kvs) ∧ BuiltOf K H kvs B ∧ SqT K H c cv ∧ CellsAt K H cv cells ∧ RunsTo B (mo, na) cells oo ∧ cells.length ≤ 1000 ∧ ∀ (H' : Hp), Same H H' → Q (.str (wordOf oo)) H'
theorem ok_word (T : Txt K mg) : FnOk P w K mg base CX0 32 T.f__law_word T.fd__law_word ["built", "module", "name", "cells"] (spWord K) := by
  refine T.F__law_word.ok sc__law_word (fun vs H Q E h => ?_) (fun cdv A outer sh H vs Q E hr h => ?_)
  · obtain ⟨d, c, kvs, B, mo, na, cv, cells, oo, rfl, _⟩ := h
    rfl
  · obtain ⟨d, c, kvs, B, mo, na, cv, cells, oo, rfl, hd, hB, hcv, hcc, hruns, hcl, k⟩ := h
    have nd := sc__law_word.nd
    have G_run : FnOk P w K mg base (L2N.CX P w) 31 T.f_run T.fd_run ["built", "module", "name", "cells"] (spRun T) := ok_run T
    have hr_run : Room 31 _ := hr
    refine ⟨_, (pss_cons (L2N.ps_try_as (i := 4) (Wout := fun _ _ _ _ => False) rfl rfl nd rfl rfl ⟨rfl, by decide, Or.inl T.g_AsiffreshError⟩ Hl.takes0N
            (fun W pn xe tk _ => (pss_one (ps_expr (pe_callS G_run hr_run rfl T.g_run T.k_run T.b_run (fun σ => L2N.passAt tk σ) (by exact (pa_cons (pv 0) (pa_cons (pv 1) (pa_cons (pv 2) (pa_cons (pv 3) pa_nil)))))))))
            (fun a oe cls d pn hz hf => (pss_cons (ps_set (i := 5) nd rfl (Or.inr rfl) (pe_lst (pa_cons (pe_callB (show CallR _ _ (rIsEC K cls d a) from call_isEC hz.zc hf) (by rfl) T.z_isinstance (by decide +kernel) (pa_cons (pv 4) (pa_cons (pe_glob (v := .ref T.C_BadAsk) rfl T.g_BadAsk rfl) pa_nil))) (pa_cons (pe_callB (show CallR _ _ (rIsEC K cls d a) from call_isEC hz.zc hf) (by rfl) T.z_isinstance (by decide +kernel) (pa_cons (pv 4) (pa_cons (pe_glob (v := .ref T.C_BadDeed) rfl T.g_BadDeed rfl) pa_nil))) (pa_cons (pe_callB (show CallR _ _ (rIsEC K cls d a) from call_isEC hz.zc hf) (by rfl) T.z_isinstance (by decide +kernel) (pa_cons (pv 4) (pa_cons (pe_glob (v := .ref T.C_NotYet) rfl T.g_NotYet rfl) pa_nil))) (pa_cons (pe_callB (show CallR _ _ (rIsEC K cls d a) from call_isEC hz.zc hf) (by rfl) T.z_isinstance (by decide +kernel) (pa_cons (pv 4) (pa_cons (pe_glob (v := .ref T.C_BadName) rfl T.g_BadName rfl) pa_nil))) pa_nil))))))
            (pss_cons (ps_set (i := 5) nd rfl (Or.inr rfl) (pe_op op_cat (pv 5) (pe_lst (pa_cons (pe_callB (show CallR _ _ (rIsEC K cls d a) from call_isEC hz.zc hf) (by rfl) T.z_isinstance (by decide +kernel) (pa_cons (pv 4) (pa_cons (pe_glob (v := .ref T.C_BadValue) rfl T.g_BadValue rfl) pa_nil))) (pa_cons (pe_callB (show CallR _ _ (rIsEC K cls d a) from call_isEC hz.zc hf) (by rfl) T.z_isinstance (by decide +kernel) (pa_cons (pv 4) (pa_cons (pe_glob (v := .ref T.C_TooLong) rfl T.g_TooLong rfl) pa_nil))) (pa_cons (pe_callB (show CallR _ _ (rIsEC K cls d a) from call_isEC hz.zc hf) (by rfl) T.z_isinstance (by decide +kernel) (pa_cons (pv 4) (pa_cons (pe_glob (v := .ref T.C_TooMany) rfl T.g_TooMany rfl) pa_nil))) pa_nil))))))
            (pss_cons (ps_set (i := 6) nd rfl (Or.inr rfl) (pe_lst (pa_cons pe_str (pa_cons pe_str (pa_cons pe_str (pa_cons pe_str (pa_cons pe_str (pa_cons pe_str (pa_cons pe_str pa_nil)))))))))
            (pss_cons (Hl.ps_setLcH (i := 7) (own := [("k", 8)]) (g := gName 8) (tt := _) (Hl.hot_suite hz hf) nd rfl rfl (sw_true rfl rfl rfl (by decide +kernel)) (L2H.pi_range1H rfl T.z_range (pa_cons pe_int pa_nil)) (blkOk_by (own := [("k", 8)]) (N := N__law_word) (sc := defScope s__law_word) (by decide +kernel)) (fun _ _ _ _ _ _ => pg_name (i := 8) nd rfl (Or.inl rfl)) (fun _ _ _ _ _ _ => (pts_one (pt_val (pe_ix (show IxR _ (rIxL K) from ix_list) (pv 5) (pv 8) (fun _ _ => rfl))))) (fun _ _ _ _ _ _ => (pe_ix (show IxR _ (rIxL K) from ix_list) (pv 6) (pv 8) (fun _ _ => rfl))))
            (pss_cons (ps_if (PW.pt (pw_and (pt_cmpR op_eq (pe_callB (show CallR _ _ (Evl.rLenS K) from call_len_seq) (by rfl) T.z_len (by decide +kernel) (pa_cons (pv 7) pa_nil)) pe_int (nomark _)) (pw_and1 (pt_val (pe_callB (show CallR _ _ (rIsEC K cls d a) from call_isEC hz.zc hf) (by rfl) T.z_isinstance (by decide +kernel) (pa_cons (pv 4) (pa_cons (pe_bltn (v := .ty "ValueError") (by rfl) T.z_ValueError (by decide +kernel) rfl) pa_nil)))))))
              (pss_one (ps_ret (pe_ix (show IxR _ (rIxL K) from ix_list) (pv 7) pe_int (fun _ _ => rfl))))
              pss_nil)
            (pss_one (ps_ret pe_str)))))))))
          (pss_one (ps_ret pe_str))), ?_⟩
    refine ⟨_, rfl, _, rfl, _, rfl, _, rfl, d, c, kvs, B, mo, na, cv, cells, oo, rfl, hd, hB, hcv, hcc, hruns, hcl, fun v hv u H1 s1 hu => ?_, fun e he H1 s1 => ?_⟩
    · subst hv
      exact k H1 s1
    · subst he
      cases e with
      | name =>
        refine ⟨true, T.m_BadName, fun _ a ha => ?_, fun z => nomatch z⟩
        refine ⟨_, rfl, T.C_BadName, rfl, rfl, T.e_BadName, _, _, _, rfl, (fun u r => r), T.i_BadName_BadAsk, _, rfl, T.C_BadName, rfl, rfl, T.e_BadName, _, _, _, rfl, (fun u r => r), T.i_BadName_BadDeed, _, rfl, T.C_BadName, rfl, rfl, T.e_BadName, _, _, _, rfl, (fun u r => r), T.i_BadName_NotYet, _, rfl, T.C_BadName, rfl, rfl, T.e_BadName, _, _, _, rfl, (fun u r => r), T.i_BadName_BadName, sl_le (by show 4 ≤ 10000000; decide), fun l1 hl1 => ?_⟩
        have s2 := s1.trans (same_new (o := .lst [.bl false, .bl false, .bl false, .bl true]) hl1)
        have e1 := upd_same (H := H1) (a := l1) (o := .lst [.bl false, .bl false, .bl false, .bl true])
        generalize upd H1 l1 (.lst [.bl false, .bl false, .bl false, .bl true]) = H2 at *
        refine ⟨_, rfl, _, rfl, T.C_BadName, rfl, rfl, T.e_BadName, _, _, _, rfl, (fun u r => r), T.i_BadName_BadValue, _, rfl, T.C_BadName, rfl, rfl, T.e_BadName, _, _, _, rfl, (fun u r => r), T.i_BadName_TooLong, _, rfl, T.C_BadName, rfl, rfl, T.e_BadName, _, _, _, rfl, (fun u r => r), T.i_BadName_TooMany, sl_le (by show 3 ≤ 10000000; decide), fun l2 hl2 => ?_⟩
        have z2 := same_new (o := .lst [.bl false, .bl false, .bl false]) hl2
        refine ⟨l1, l2, _, _, rfl, rfl, z2 _ _ e1, upd_same, sl_le (by show 7 ≤ 10000000; decide), fun l3 hl3 => ?_⟩
        have s4 := (s2.trans z2).trans (same_new (o := .lst ([.bl false, .bl false, .bl false, .bl true] ++ [.bl false, .bl false, .bl false])) hl3)
        have e3 := upd_same (H := upd H2 l2 (.lst [.bl false, .bl false, .bl false])) (a := l3) (o := .lst ([.bl false, .bl false, .bl false, .bl true] ++ [.bl false, .bl false, .bl false]))
        generalize upd (upd H2 l2 (.lst [.bl false, .bl false, .bl false])) l3 (.lst ([.bl false, .bl false, .bl false, .bl true] ++ [.bl false, .bl false, .bl false])) = H4 at *
        refine ⟨sl_le (by show 7 ≤ 10000000; decide), fun l4 hl4 => ?_⟩
        have s5 := s4.trans (same_new (o := .lst [.str "BadAsk", .str "BadDeed", .str "NotYet", .str "BadName", .str "BadValue", .str "TooLong", .str "TooMany"]) hl4)
        have e4 := upd_same (H := H4) (a := l4) (o := .lst [.str "BadAsk", .str "BadDeed", .str "NotYet", .str "BadName", .str "BadValue", .str "TooLong", .str "TooMany"])
        have e3' := same_new (o := .lst [.str "BadAsk", .str "BadDeed", .str "NotYet", .str "BadName", .str "BadValue", .str "TooLong", .str "TooMany"]) hl4 _ _ e3
        generalize upd H4 l4 (.lst [.str "BadAsk", .str "BadDeed", .str "NotYet", .str "BadName", .str "BadValue", .str "TooLong", .str "TooMany"]) = H5 at *
        refine ⟨_, rfl, by decide, by decide, fun D hD => lc_range (lo := 0) (n := 7) (fun j H' => Same H5 H' ∧ H' D = some (.lst (if 3 < j then [.str "BadName"] else []))) ⟨same_new hD, upd_same⟩ (fun j H' hj ⟨sm, eD⟩ => ?_) (fun H6 ⟨sm6, eD6⟩ => ?_)⟩
        · rcases (show j = 0 ∨ j = 1 ∨ j = 2 ∨ j = 3 ∨ j = 4 ∨ j = 5 ∨ j = 6 by omega) with rfl | rfl | rfl | rfl | rfl | rfl | rfl
          · exact ⟨rfl, _, rfl, _, rfl, l3, _, _, .bl false, rfl, rfl, SqL.of (sm _ _ e3'), rfl, _, rfl, iteF ⟨sm, eD⟩⟩
          · exact ⟨rfl, _, rfl, _, rfl, l3, _, _, .bl false, rfl, rfl, SqL.of (sm _ _ e3'), rfl, _, rfl, iteF ⟨sm, eD⟩⟩
          · exact ⟨rfl, _, rfl, _, rfl, l3, _, _, .bl false, rfl, rfl, SqL.of (sm _ _ e3'), rfl, _, rfl, iteF ⟨sm, eD⟩⟩
          · refine ⟨rfl, _, rfl, _, rfl, l3, _, _, .bl true, rfl, rfl, SqL.of (sm _ _ e3'), rfl, _, rfl, iteT ?_⟩
            refine ⟨_, rfl, _, rfl, l4, _, _, .str "BadName", rfl, rfl, SqL.of (sm _ _ e4), rfl, [], eD, Nat.zero_lt_of_lt (sl_lt (n := 0) (by decide)), fun b o q => ?_, upd_same⟩
            rw [upd_ne (ne_of_none q hD)]; exact sm _ _ q
          · exact ⟨rfl, _, rfl, _, rfl, l3, _, _, .bl false, rfl, rfl, SqL.of (sm _ _ e3'), rfl, _, rfl, iteF ⟨sm, eD⟩⟩
          · exact ⟨rfl, _, rfl, _, rfl, l3, _, _, .bl false, rfl, rfl, SqL.of (sm _ _ e3'), rfl, _, rfl, iteF ⟨sm, eD⟩⟩
          · exact ⟨rfl, _, rfl, _, rfl, l3, _, _, .bl false, rfl, rfl, SqL.of (sm _ _ e3'), rfl, _, rfl, iteF ⟨sm, eD⟩⟩
        · refine ⟨_, rfl, D, _, rfl, .inl (SqL.of eD6), rfl, _, rfl, isT rfl ?_⟩
          refine ⟨_, rfl, T.C_BadName, rfl, rfl, T.e_BadName, _, _, _, rfl, (fun u r => r), T.i_BadName_ValueError, _, rfl, iteT ?_⟩
          exact ⟨_, rfl, D, _, _, _, rfl, rfl, SqL.of eD6, rfl, k H6 (s5.trans sm6)⟩
      | value =>
        refine ⟨true, T.m_BadValue, fun _ a ha => ?_, fun z => nomatch z⟩
        refine ⟨_, rfl, T.C_BadValue, rfl, rfl, T.e_BadValue, _, _, _, rfl, (fun u r => r), T.i_BadValue_BadAsk, _, rfl, T.C_BadValue, rfl, rfl, T.e_BadValue, _, _, _, rfl, (fun u r => r), T.i_BadValue_BadDeed, _, rfl, T.C_BadValue, rfl, rfl, T.e_BadValue, _, _, _, rfl, (fun u r => r), T.i_BadValue_NotYet, _, rfl, T.C_BadValue, rfl, rfl, T.e_BadValue, _, _, _, rfl, (fun u r => r), T.i_BadValue_BadName, sl_le (by show 4 ≤ 10000000; decide), fun l1 hl1 => ?_⟩
        have s2 := s1.trans (same_new (o := .lst [.bl false, .bl false, .bl false, .bl false]) hl1)
        have e1 := upd_same (H := H1) (a := l1) (o := .lst [.bl false, .bl false, .bl false, .bl false])
        generalize upd H1 l1 (.lst [.bl false, .bl false, .bl false, .bl false]) = H2 at *
        refine ⟨_, rfl, _, rfl, T.C_BadValue, rfl, rfl, T.e_BadValue, _, _, _, rfl, (fun u r => r), T.i_BadValue_BadValue, _, rfl, T.C_BadValue, rfl, rfl, T.e_BadValue, _, _, _, rfl, (fun u r => r), T.i_BadValue_TooLong, _, rfl, T.C_BadValue, rfl, rfl, T.e_BadValue, _, _, _, rfl, (fun u r => r), T.i_BadValue_TooMany, sl_le (by show 3 ≤ 10000000; decide), fun l2 hl2 => ?_⟩
        have z2 := same_new (o := .lst [.bl true, .bl false, .bl false]) hl2
        refine ⟨l1, l2, _, _, rfl, rfl, z2 _ _ e1, upd_same, sl_le (by show 7 ≤ 10000000; decide), fun l3 hl3 => ?_⟩
        have s4 := (s2.trans z2).trans (same_new (o := .lst ([.bl false, .bl false, .bl false, .bl false] ++ [.bl true, .bl false, .bl false])) hl3)
        have e3 := upd_same (H := upd H2 l2 (.lst [.bl true, .bl false, .bl false])) (a := l3) (o := .lst ([.bl false, .bl false, .bl false, .bl false] ++ [.bl true, .bl false, .bl false]))
        generalize upd (upd H2 l2 (.lst [.bl true, .bl false, .bl false])) l3 (.lst ([.bl false, .bl false, .bl false, .bl false] ++ [.bl true, .bl false, .bl false])) = H4 at *
        refine ⟨sl_le (by show 7 ≤ 10000000; decide), fun l4 hl4 => ?_⟩
        have s5 := s4.trans (same_new (o := .lst [.str "BadAsk", .str "BadDeed", .str "NotYet", .str "BadName", .str "BadValue", .str "TooLong", .str "TooMany"]) hl4)
        have e4 := upd_same (H := H4) (a := l4) (o := .lst [.str "BadAsk", .str "BadDeed", .str "NotYet", .str "BadName", .str "BadValue", .str "TooLong", .str "TooMany"])
        have e3' := same_new (o := .lst [.str "BadAsk", .str "BadDeed", .str "NotYet", .str "BadName", .str "BadValue", .str "TooLong", .str "TooMany"]) hl4 _ _ e3
        generalize upd H4 l4 (.lst [.str "BadAsk", .str "BadDeed", .str "NotYet", .str "BadName", .str "BadValue", .str "TooLong", .str "TooMany"]) = H5 at *
        refine ⟨_, rfl, by decide, by decide, fun D hD => lc_range (lo := 0) (n := 7) (fun j H' => Same H5 H' ∧ H' D = some (.lst (if 4 < j then [.str "BadValue"] else []))) ⟨same_new hD, upd_same⟩ (fun j H' hj ⟨sm, eD⟩ => ?_) (fun H6 ⟨sm6, eD6⟩ => ?_)⟩
        · rcases (show j = 0 ∨ j = 1 ∨ j = 2 ∨ j = 3 ∨ j = 4 ∨ j = 5 ∨ j = 6 by omega) with rfl | rfl | rfl | rfl | rfl | rfl | rfl
          · exact ⟨rfl, _, rfl, _, rfl, l3, _, _, .bl false, rfl, rfl, SqL.of (sm _ _ e3'), rfl, _, rfl, iteF ⟨sm, eD⟩⟩
          · exact ⟨rfl, _, rfl, _, rfl, l3, _, _, .bl false, rfl, rfl, SqL.of (sm _ _ e3'), rfl, _, rfl, iteF ⟨sm, eD⟩⟩
          · exact ⟨rfl, _, rfl, _, rfl, l3, _, _, .bl false, rfl, rfl, SqL.of (sm _ _ e3'), rfl, _, rfl, iteF ⟨sm, eD⟩⟩
          · exact ⟨rfl, _, rfl, _, rfl, l3, _, _, .bl false, rfl, rfl, SqL.of (sm _ _ e3'), rfl, _, rfl, iteF ⟨sm, eD⟩⟩
          · refine ⟨rfl, _, rfl, _, rfl, l3, _, _, .bl true, rfl, rfl, SqL.of (sm _ _ e3'), rfl, _, rfl, iteT ?_⟩
            refine ⟨_, rfl, _, rfl, l4, _, _, .str "BadValue", rfl, rfl, SqL.of (sm _ _ e4), rfl, [], eD, Nat.zero_lt_of_lt (sl_lt (n := 0) (by decide)), fun b o q => ?_, upd_same⟩
            rw [upd_ne (ne_of_none q hD)]; exact sm _ _ q
          · exact ⟨rfl, _, rfl, _, rfl, l3, _, _, .bl false, rfl, rfl, SqL.of (sm _ _ e3'), rfl, _, rfl, iteF ⟨sm, eD⟩⟩
          · exact ⟨rfl, _, rfl, _, rfl, l3, _, _, .bl false, rfl, rfl, SqL.of (sm _ _ e3'), rfl, _, rfl, iteF ⟨sm, eD⟩⟩
        · refine ⟨_, rfl, D, _, rfl, .inl (SqL.of eD6), rfl, _, rfl, isT rfl ?_⟩
          refine ⟨_, rfl, T.C_BadValue, rfl, rfl, T.e_BadValue, _, _, _, rfl, (fun u r => r), T.i_BadValue_ValueError, _, rfl, iteT ?_⟩
          exact ⟨_, rfl, D, _, _, _, rfl, rfl, SqL.of eD6, rfl, k H6 (s5.trans sm6)⟩
      | long =>
        refine ⟨true, T.m_TooLong, fun _ a ha => ?_, fun z => nomatch z⟩
        refine ⟨_, rfl, T.C_TooLong, rfl, rfl, T.e_TooLong, _, _, _, rfl, (fun u r => r), T.i_TooLong_BadAsk, _, rfl, T.C_TooLong, rfl, rfl, T.e_TooLong, _, _, _, rfl, (fun u r => r), T.i_TooLong_BadDeed, _, rfl, T.C_TooLong, rfl, rfl, T.e_TooLong, _, _, _, rfl, (fun u r => r), T.i_TooLong_NotYet, _, rfl, T.C_TooLong, rfl, rfl, T.e_TooLong, _, _, _, rfl, (fun u r => r), T.i_TooLong_BadName, sl_le (by show 4 ≤ 10000000; decide), fun l1 hl1 => ?_⟩
        have s2 := s1.trans (same_new (o := .lst [.bl false, .bl false, .bl false, .bl false]) hl1)
        have e1 := upd_same (H := H1) (a := l1) (o := .lst [.bl false, .bl false, .bl false, .bl false])
        generalize upd H1 l1 (.lst [.bl false, .bl false, .bl false, .bl false]) = H2 at *
        refine ⟨_, rfl, _, rfl, T.C_TooLong, rfl, rfl, T.e_TooLong, _, _, _, rfl, (fun u r => r), T.i_TooLong_BadValue, _, rfl, T.C_TooLong, rfl, rfl, T.e_TooLong, _, _, _, rfl, (fun u r => r), T.i_TooLong_TooLong, _, rfl, T.C_TooLong, rfl, rfl, T.e_TooLong, _, _, _, rfl, (fun u r => r), T.i_TooLong_TooMany, sl_le (by show 3 ≤ 10000000; decide), fun l2 hl2 => ?_⟩
        have z2 := same_new (o := .lst [.bl false, .bl true, .bl false]) hl2
        refine ⟨l1, l2, _, _, rfl, rfl, z2 _ _ e1, upd_same, sl_le (by show 7 ≤ 10000000; decide), fun l3 hl3 => ?_⟩
        have s4 := (s2.trans z2).trans (same_new (o := .lst ([.bl false, .bl false, .bl false, .bl false] ++ [.bl false, .bl true, .bl false])) hl3)
        have e3 := upd_same (H := upd H2 l2 (.lst [.bl false, .bl true, .bl false])) (a := l3) (o := .lst ([.bl false, .bl false, .bl false, .bl false] ++ [.bl false, .bl true, .bl false]))
        generalize upd (upd H2 l2 (.lst [.bl false, .bl true, .bl false])) l3 (.lst ([.bl false, .bl false, .bl false, .bl false] ++ [.bl false, .bl true, .bl false])) = H4 at *
        refine ⟨sl_le (by show 7 ≤ 10000000; decide), fun l4 hl4 => ?_⟩
        have s5 := s4.trans (same_new (o := .lst [.str "BadAsk", .str "BadDeed", .str "NotYet", .str "BadName", .str "BadValue", .str "TooLong", .str "TooMany"]) hl4)
        have e4 := upd_same (H := H4) (a := l4) (o := .lst [.str "BadAsk", .str "BadDeed", .str "NotYet", .str "BadName", .str "BadValue", .str "TooLong", .str "TooMany"])
        have e3' := same_new (o := .lst [.str "BadAsk", .str "BadDeed", .str "NotYet", .str "BadName", .str "BadValue", .str "TooLong", .str "TooMany"]) hl4 _ _ e3
        generalize upd H4 l4 (.lst [.str "BadAsk", .str "BadDeed", .str "NotYet", .str "BadName", .str "BadValue", .str "TooLong", .str "TooMany"]) = H5 at *
        refine ⟨_, rfl, by decide, by decide, fun D hD => lc_range (lo := 0) (n := 7) (fun j H' => Same H5 H' ∧ H' D = some (.lst (if 5 < j then [.str "TooLong"] else []))) ⟨same_new hD, upd_same⟩ (fun j H' hj ⟨sm, eD⟩ => ?_) (fun H6 ⟨sm6, eD6⟩ => ?_)⟩
        · rcases (show j = 0 ∨ j = 1 ∨ j = 2 ∨ j = 3 ∨ j = 4 ∨ j = 5 ∨ j = 6 by omega) with rfl | rfl | rfl | rfl | rfl | rfl | rfl
          · exact ⟨rfl, _, rfl, _, rfl, l3, _, _, .bl false, rfl, rfl, SqL.of (sm _ _ e3'), rfl, _, rfl, iteF ⟨sm, eD⟩⟩
          · exact ⟨rfl, _, rfl, _, rfl, l3, _, _, .bl false, rfl, rfl, SqL.of (sm _ _ e3'), rfl, _, rfl, iteF ⟨sm, eD⟩⟩
          · exact ⟨rfl, _, rfl, _, rfl, l3, _, _, .bl false, rfl, rfl, SqL.of (sm _ _ e3'), rfl, _, rfl, iteF ⟨sm, eD⟩⟩
          · exact ⟨rfl, _, rfl, _, rfl, l3, _, _, .bl false, rfl, rfl, SqL.of (sm _ _ e3'), rfl, _, rfl, iteF ⟨sm, eD⟩⟩
          · exact ⟨rfl, _, rfl, _, rfl, l3, _, _, .bl false, rfl, rfl, SqL.of (sm _ _ e3'), rfl, _, rfl, iteF ⟨sm, eD⟩⟩
          · refine ⟨rfl, _, rfl, _, rfl, l3, _, _, .bl true, rfl, rfl, SqL.of (sm _ _ e3'), rfl, _, rfl, iteT ?_⟩
            refine ⟨_, rfl, _, rfl, l4, _, _, .str "TooLong", rfl, rfl, SqL.of (sm _ _ e4), rfl, [], eD, Nat.zero_lt_of_lt (sl_lt (n := 0) (by decide)), fun b o q => ?_, upd_same⟩
            rw [upd_ne (ne_of_none q hD)]; exact sm _ _ q
          · exact ⟨rfl, _, rfl, _, rfl, l3, _, _, .bl false, rfl, rfl, SqL.of (sm _ _ e3'), rfl, _, rfl, iteF ⟨sm, eD⟩⟩
        · refine ⟨_, rfl, D, _, rfl, .inl (SqL.of eD6), rfl, _, rfl, isT rfl ?_⟩
          refine ⟨_, rfl, T.C_TooLong, rfl, rfl, T.e_TooLong, _, _, _, rfl, (fun u r => r), T.i_TooLong_ValueError, _, rfl, iteT ?_⟩
          exact ⟨_, rfl, D, _, _, _, rfl, rfl, SqL.of eD6, rfl, k H6 (s5.trans sm6)⟩
end
end K90

set_option Elab.async false
set_option linter.all false
set_option maxRecDepth 100000
set_option maxHeartbeats 4000000
namespace K90
open PySem PySem.Spec PyProof.Rows L2 Ru Rp Mch
section
variable {P : Program} {w : World} {K : PySem.W.Frag} {mg : Str → Option Value} {base : Heap}
abbrev N__law_copy : List Str := ["built", "copy", "key"]
theorem sc__law_copy : FnScope N__law_copy ["built"] (defScope s__law_copy) := ⟨rfl, rfl, rfl, by decide +kernel, rfl, by decide +kernel, by decide +kernel⟩
def spCopy : Sp := fun vs H Q _ => ∃ (d : Addr) (kvs : List (List Key × V)), vs = [.ref d] ∧ H d = some (.dT kvs) ∧ (kvs.map (·.1)).Nodup ∧ kvs.length ≤ 100000 ∧ ∀ (cp : Addr) (H' : Hp), Same H H' → H' cp = some (.dT kvs) → H cp = none → Q (.ref cp) H'
theorem ok_copy (T : Txt K mg) : FnOk P w K mg base CX0 1 T.f__law_copy T.fd__law_copy ["built"] spCopy := by
  refine T.F__law_copy.ok sc__law_copy (fun vs H Q E h => ?_) (fun cdv A outer sh H vs Q E hr h => ?_)
  · obtain ⟨d, kvs, rfl, _⟩ := h
    rfl
  · obtain ⟨d, kvs, rfl, hd, hnd, hlen, k⟩ := h
    have nd := sc__law_copy.nd
    have hu := hu_of hr
    refine ⟨_, (pss_cons (ps_set (i := 1) nd rfl (Or.inl rfl) pe_dnewT)
          (pss_cons (ps_lock (ps_for PassesOwn.never rfl (pi_keys (pv 0)) (pg_name (i := 2) nd rfl (Or.inl rfl))
            (pss_one (ps_dput hu (pv 1) (pv 2) (pe_dget hu (pv 0) (pv 2) (fun _ _ => rfl)) rfl))))
          (pss_one (ps_ret (pv 1))))), ?_⟩
    refine fun cp hcp => ?_
    have s3 := same_new (o := .dT []) hcp
    have ncd : cp ≠ d := (ne_of_none hd hcp).symm
    refine ⟨d, .dT kvs, s3 _ _ hd, trivial, fun od => ?_⟩
    refine ⟨_, rfl, d, od, rfl, .inr ⟨kvs, upd_same, for_keysT (d := d) (o := od) (kvs := kvs)
      (fun j σ H' => ∃ (x2 : Option V), σ = [some (.ref d), some (.ref cp), x2] ∧ H' cp = some (.dT (kvs.take j)) ∧ H' d = some (.frz od (.dT kvs)) ∧ But1 H H' d)
      ⟨none, rfl, by rw [upd_ne ncd]; exact upd_same, upd_same, fun b o e n => by rw [upd_ne n]; exact s3 _ _ e⟩ (fun j σ H' ⟨_, _, _, e, _⟩ => e) ?_ ?_⟩⟩
    · rintro j ky kv q σ H' hj hq ⟨x2, rfl, e1, e2, b1⟩
      have hjl := (List.getElem?_eq_some_iff.mp hj).1
      try dsimp only [gName, tSeq, tAsg]
      refine ⟨_, rfl, _, rfl, d, kv, rfl, .inr ⟨kvs, ky, q, .inr ⟨od, e2⟩, rfl, hq, (valV_at hnd hj).symm⟩, _, rfl, _, rfl, cp, _, rfl, DPut.t (k := ky) e1 hq (sl_lt (by rw [List.length_take]; omega)), ?_⟩
      refine ⟨_, rfl, by rw [upd_same, put_take hnd hj], by rw [upd_ne ncd.symm]; exact e2, fun b o e n => ?_⟩
      rw [upd_ne (ne_of_none e hcp)]
      exact b1 _ _ e n
    · rintro σ H3' ⟨x2, rfl, e1, e2, b1⟩
      refine ⟨e2, ?_⟩
      rw [List.take_of_length_le (Nat.le_refl _)] at e1
      refine ⟨_, rfl, k cp _ (fun b o e => ?_) (by rw [upd_ne ncd]; exact e1) hcp⟩
      by_cases q : b = d
      · subst q
        rw [upd_same]
        exact hd.symm.trans e
      · rw [upd_ne q]; exact b1 _ _ e q
end
end K90

set_option Elab.async false
set_option linter.all false
set_option maxRecDepth 100000
set_option maxHeartbeats 4000000
/-! names with a number behind: they differ by their letter, by their number, and from words -/
namespace K90
open PySem PySem.Spec PyProof.Rows L2 Ru Rp Mch
def nm (c : Str) (k : Nat) : Str := c ++ Str.ofString (toString (k : Int))
theorem text_at (k : Nat) : Str.ofString (toString (k : Int)) = ⟨((Nat.toDigits 10 k).map Char.toNat).toArray⟩ := text_ofNat k
theorem char_inj {a b : Char} (h : a.toNat = b.toNat) : a = b := Char.ext (UInt32.toNat_inj.mp h)
theorem digits_inj {m n : Nat} (h : (Nat.toDigits 10 m).map Char.toNat = (Nat.toDigits 10 n).map Char.toNat) : m = n := by
  have e : Nat.toDigits 10 m = Nat.toDigits 10 n := (List.map_inj_right (fun _ _ => char_inj)).mp h
  have z := Nat.ofDigitChars_toDigits (b := 10) (n := m) (by decide) (by decide)
  rw [e, Nat.ofDigitChars_toDigits (by decide) (by decide)] at z
  exact z.symm
theorem nm_cps (c : Str) (k : Nat) : (nm c k).cps.toList = c.cps.toList ++ (Nat.toDigits 10 k).map Char.toNat := by
  show (c.cps ++ (Str.ofString (toString (k : Int))).cps).toList = _
  rw [text_at, Array.toList_append]
theorem nm_inj {c : Str} {m n : Nat} (h : nm c m = nm c n) : m = n := by
  have e := congrArg (fun s : Str => s.cps.toList) h
  simp only [nm_cps] at e
  exact digits_inj (List.append_cancel_left e)
theorem nm_digit (k : Nat) : ∃ d r, (Nat.toDigits 10 k).map Char.toNat = d :: r ∧ 48 ≤ d ∧ d ≤ 57 := by
  have hne : Nat.toDigits 10 k ≠ [] := Nat.toDigits_ne_nil
  cases e : Nat.toDigits 10 k with
  | nil => exact absurd e hne
  | cons x r =>
    have hx : x.isDigit = true := Nat.isDigit_of_mem_toDigits (b := 10) (n := k) (by decide) (by decide) (by rw [e]; exact List.mem_cons_self)
    refine ⟨x.toNat, r.map Char.toNat, rfl, ?_⟩
    unfold Char.isDigit at hx
    simp only [Bool.and_eq_true, decide_eq_true_eq] at hx
    exact ⟨hx.1, hx.2⟩
/-- a word whose second sign is no figure -/
def plainWord (w : Str) : Bool := match w.cps.toList with
  | _ :: d :: _ => decide (d < 48) || decide (57 < d)
  | _ => true
theorem nm_plain {c : Str} {x : Nat} (hc : c.cps.toList = [x]) {w : Str} (hw : plainWord w = true) (k : Nat) : nm c k ≠ w := by
  intro h
  obtain ⟨d, r, e, h1, h2⟩ := nm_digit k
  have z := nm_cps c k
  rw [hc, e, h] at z
  unfold plainWord at hw
  rw [z] at hw
  simp at hw
  omega
theorem nm_letter {c c' : Str} {x x' : Nat} (hc : c.cps.toList = [x]) (hc' : c'.cps.toList = [x']) (hx : x ≠ x') (m n : Nat) : nm c m ≠ nm c' n := by
  intro h
  have z := congrArg (fun s : Str => s.cps.toList) h
  simp only [nm_cps, hc, hc'] at z
  exact hx (List.cons.inj z).1
abbrev tn (k : Nat) : Nm := ("Ma", nm "t" k)
abbrev cn (k : Nat) : Nm := ("Ma", nm "c" k)
theorem t_cps : ("t" : Str).cps.toList = [116] := by decide +kernel
theorem c_cps : ("c" : Str).cps.toList = [99] := by decide +kernel
theorem tn_inj {m n : Nat} (h : tn m = tn n) : m = n := nm_inj (Prod.mk.inj h).2
theorem cn_inj {m n : Nat} (h : cn m = cn n) : m = n := nm_inj (Prod.mk.inj h).2
theorem tn_cn {m n : Nat} : ¬ tn m = cn n := fun h => nm_letter t_cps c_cps (by decide) m n (Prod.mk.inj h).2
theorem cn_tn {m n : Nat} : ¬ cn m = tn n := fun h => tn_cn h.symm
theorem tn_word {m : Nat} {mo w : Str} (h : plainWord w = true) : ¬ tn m = (mo, w) := fun z => nm_plain t_cps h m (Prod.mk.inj z).2
theorem cn_word {m : Nat} {mo w : Str} (h : plainWord w = true) : ¬ cn m = (mo, w) := fun z => nm_plain c_cps h m (Prod.mk.inj z).2
theorem word_tn {m : Nat} {mo w : Str} (h : plainWord w = true) : ¬ (mo, w) = tn m := fun z => tn_word h z.symm
theorem word_cn {m : Nat} {mo w : Str} (h : plainWord w = true) : ¬ (mo, w) = cn m := fun z => cn_word h z.symm
theorem nm_len (c : Str) (k : Nat) (hk : k ≤ 100000) : (Str.ofString (toString (k : Int))).length ≤ 100001 := by
  rw [text_at]
  show (((Nat.toDigits 10 k).map Char.toNat).toArray).size ≤ _
  rw [List.size_toArray, List.length_map]
  exact Nat.le_trans (tDigits_len_le 10 k) (by omega)
end K90

set_option Elab.async false
set_option linter.all false
set_option maxRecDepth 100000
set_option maxHeartbeats 4000000
/-! The plain law of k90: trees, chains, the users, the great runs. -/
namespace K90
open PySem Mch Rp
def treeRows (k : Nat) : List (Row Nm) := [.call (tn k) 0, .drop, .call (tn k) 0, .back]
def treeB (B : Built Nm) (leaf : List (Row Nm)) : Nat → Built Nm
  | 0 => Bset B (tn 0) (0, leaf)
  | k + 1 => Bset (treeB B leaf k) (tn (k + 1)) (0, treeRows k)
theorem treeB_other {B : Built Nm} {leaf : List (Row Nm)} {f : Nm} (h : ∀ j, ¬ f = tn j) : ∀ k, treeB B leaf k f = B f
  | 0 => bset_ne (h 0)
  | k + 1 => by
    show Bset _ _ _ f = _
    rw [bset_ne (h _), treeB_other h k]
def treeDef (leaf : List (Row Nm)) : Nat → List (Row Nm)
  | 0 => leaf
  | k + 1 => treeRows k
theorem treeB_at {B : Built Nm} {leaf : List (Row Nm)} : ∀ {k j : Nat}, j ≤ k → treeB B leaf k (tn j) = some (0, treeDef leaf j)
  | 0, j, h => by
    obtain rfl : j = 0 := by omega
    exact bset_same
  | k + 1, j, h => by
    by_cases e : j = k + 1
    · subst e; exact bset_same
    · show Bset _ _ _ _ = _
      rw [bset_ne (fun z => e (tn_inj z))]
      exact treeB_at (by omega)
/-- the trees of a dict -/
def Trees (B : Built Nm) (leaf : List (Row Nm)) (high : Nat) : Prop := ∀ j, j ≤ high → B (tn j) = some (0, treeDef leaf j)
theorem run_tree {B : Built Nm} {leaf : List (Row Nm)} {high : Nat} (hT : Trees B leaf high) {v : Cell} {dl kl : Nat} (hl : Run B leaf 0 [] [] v 0 dl kl 0) (hk : kl ≤ 400) (hd : 1 ≤ dl) :
    ∀ k, k ≤ high → ∃ kk h, kk ≤ 400 ∧ Run B (treeDef leaf k) 0 [] [] v (2 ^ (k + 1) - 2) ((dl + 4) * 2 ^ k - 4) kk h
  | 0, _ => ⟨kl, 0, hk, by simpa [treeDef] using hl⟩
  | k + 1, h => by
    obtain ⟨kk, hh, hkk, r⟩ := run_tree hT hl hk hd k (by omega)
    have hB := hT k (by omega)
    have q : Run B (treeRows k) 0 [] [] v ((2 ^ (k + 1) - 2) + ((2 ^ (k + 1) - 2) + 0 + 1) + 1) (((dl + 4) * 2 ^ k - 4) + ((((dl + 4) * 2 ^ k - 4) + 1 + 1) + 1) + 1) 4 (max (hh + 1) (max (hh + 1) 0)) :=
      .call rfl (by simp) hB r (by omega) (.simp rfl .drop (.call rfl (by simp) hB r (by omega) (.back rfl)))
    refine ⟨4, max (hh + 1) (max (hh + 1) 0), by omega, ?_⟩
    have p1 : 1 ≤ 2 ^ k := Nat.one_le_two_pow
    have p2 : (dl + 4) ≤ (dl + 4) * 2 ^ k := Nat.le_mul_of_pos_right _ (by omega)
    have e1 : (2 ^ (k + 1) - 2) + ((2 ^ (k + 1) - 2) + 0 + 1) + 1 = 2 ^ (k + 1 + 1) - 2 := by
      rw [Nat.pow_succ 2 (k + 1), Nat.pow_succ 2 k]; omega
    have e2 : ((dl + 4) * 2 ^ k - 4) + ((((dl + 4) * 2 ^ k - 4) + 1 + 1) + 1) + 1 = (dl + 4) * 2 ^ (k + 1) - 4 := by
      rw [Nat.pow_succ, ← Nat.mul_assoc]; omega
    rw [e1, e2] at q
    exact q
/-! ### chains -/
def linkRows (k : Nat) : List (Row Nm) := [.call (cn (k + 1)) 0, .back]
def endRows (n : Int) : List (Row Nm) := [.make n 0, .back]
def chainB (B : Built Nm) : Nat → Built Nm
  | 0 => B
  | k + 1 => Bset (chainB B k) (cn k) (0, linkRows k)
theorem chainB_other {B : Built Nm} {f : Nm} (h : ∀ j, ¬ f = cn j) : ∀ k, chainB B k f = B f
  | 0 => rfl
  | k + 1 => by
    show Bset _ _ _ f = _
    rw [bset_ne (h _), chainB_other h k]
theorem chainB_at {B : Built Nm} : ∀ {k j : Nat}, j < k → chainB B k (cn j) = some (0, linkRows j)
  | k + 1, j, h => by
    by_cases e : j = k
    · subst e; exact bset_same
    · show Bset _ _ _ _ = _
      rw [bset_ne (fun z => e (cn_inj z))]
      exact chainB_at (by omega)
theorem run_end (B : Built Nm) (n : Int) : Run B (endRows n) 0 [] [] (.mk n []) 0 2 2 0 := by
  have := Run.simp (B := B) (rows := endRows n) (i := 0) rfl (.make (m := n) (n := 0) (held := []) (st := []) (by simp) (by simp [sizes])) (.back rfl)
  simpa using this
theorem run_chain {B : Built Nm} {many : Nat} {n : Int} (h1 : ∀ j, j < many → B (cn j) = some (0, linkRows j)) (h2 : B (cn many) = some (0, endRows n)) :
    ∀ m j, j + m = many → ∃ rows h, B (cn j) = some (0, rows) ∧ Run B rows 0 [] [] (.mk n []) m (2 * m + 2) 2 h
  | 0, j, e => by
    obtain rfl : j = many := by omega
    exact ⟨_, 0, h2, run_end B n⟩
  | m + 1, j, e => by
    obtain ⟨rows, h, hB, r⟩ := run_chain h1 h2 m (j + 1) (by omega)
    have q : Run B (linkRows j) 0 [] [] (.mk n []) (m + 0 + 1) (2 * m + 2 + 1 + 1) 2 (max (h + 1) 0) := .call rfl (by simp) hB r (by omega) (.back rfl)
    exact ⟨linkRows j, _, h1 j (by omega), q⟩
/-! ### what a run comes to, out of a run -/
theorem runs_val {B : Built Nm} {f : Nm} {cells : List Cell} {rows : List (Row Nm)} {v : Cell} {c d k h : Nat} (hB : B f = some (cells.length, rows)) (r : Run B rows 0 cells [] v c d k h) (hc : 1 + c ≤ 100000) (hd : d ≤ 1000000) : RunsTo B f cells (.val v) :=
  .runs hB (ends_top r 1 0 hc (by omega))
end K90

set_option Elab.async false
set_option linter.all false
set_option maxRecDepth 100000
set_option maxHeartbeats 4000000
namespace K90
open PySem PySem.Spec PyProof.Rows L2 Ru Rp Mch
section
variable {P : Program} {w : World} {K : PySem.W.Frag} {mg : Str → Option Value} {base : Heap}
theorem log_small {i : Int} (h1 : 0 ≤ i) (h2 : i ≤ 100000) : i.natAbs.log2 < 1920 := by
  have h : i.natAbs ≤ 100000 := by omega
  by_cases e : i.natAbs = 0
  · rw [e]; decide
  · exact (Nat.log2_lt e).mpr (Nat.lt_of_le_of_lt h (Nat.lt_of_lt_of_le (by decide : 100000 < 2 ^ 17) (Nat.pow_le_pow_right (by decide) (by decide))))
/-- 't' + str(k) -/
theorem nm_read {σ : L2.St} {H : Hp} {c : Str} {ti : TE} {i : Int} {k : Nat} {Q : VK} (hi : i = (k : Int)) (hk : k ≤ 100000) (hc : c.length ≤ 10) (ht : ∀ (Q : VK), Q (.int i) H → ti σ H Q) (q : Q (.str (nm c k)) H) :
    tOp (fun x y H Q => ∃ i j, x = .str i ∧ y = .str j ∧ i.length + j.length ≤ sizeLine ∧ Q (.str (i ++ j)) H) (tC (.str c)) (tCB (fun xs H Q => ∃ i, xs = [.int i] ∧ i.natAbs.log2 < 1920 ∧ Q (.str (toString i)) H) (tCons ti tNil)) σ H Q := by
  subst hi
  refine ht _ ⟨_, rfl, log_small (by omega) (by omega), c, _, rfl, rfl, sl_le ?_, q⟩
  have := nm_len c k hk
  show c.length + (Str.ofString (toString (k : Int))).length ≤ _
  omega
abbrev N__law_tree : List Str := ["built", "high", "leaf", "k", "under"]
theorem sc__law_tree : FnScope N__law_tree ["built", "high", "leaf"] (defScope s__law_tree) := ⟨rfl, rfl, rfl, by decide +kernel, rfl, by decide +kernel, by decide +kernel⟩
def spTree (K : PySem.W.Frag) : Sp := fun vs H Q _ => ∃ (d lf : Addr) (high n : Nat) (kvs : List (List Key × V)) (B : Built Nm) (lv : List V) (leaf : List (Row Nm)), vs = [.ref d, .int (high : Int), .ref lf] ∧ DictAt K H d n kvs B ∧ H lf = some (.lst lv) ∧ RowsOf K H lv leaf ∧
  high ≤ 20 ∧ n ≤ 90000 ∧ leaf.length ≤ 1000 ∧ ∀ (H' : Hp) (kvs' : List (List Key × V)), But1 H H' d → DictAt K H' d (n + high + 1) kvs' (treeB B leaf high) → Q .non H'
theorem ok_tree (T : Txt K mg) : FnOk P w K mg base CX0 1 T.f__law_tree T.fd__law_tree ["built", "high", "leaf"] (spTree K) := by
  refine T.F__law_tree.ok sc__law_tree (fun vs H Q E h => ?_) (fun cdv A outer sh H vs Q E hr h => ?_)
  · obtain ⟨d, lf, high, n, kvs, B, lv, leaf, rfl, _⟩ := h
    rfl
  · obtain ⟨d, lf, high, n, kvs, B, lv, leaf, rfl, hD, elf, hlf, hhigh, hn, hleaf, k⟩ := h
    have nd := sc__law_tree.nd
    have hu := hu_of hr
    refine ⟨_, (pss_cons (ps_dput hu (pv 0) (pe_tup (pa_cons pe_str (pa_cons pe_str pa_nil))) (pe_tup (pa_cons pe_int (pa_cons (pe_callTy call_tuple_of (by rfl) T.z_tuple (by decide +kernel) (pa_cons (pv 2) pa_nil)) pa_nil))) rfl)
          (pss_one (ps_for PassesOwn.never rfl (pi_range2 rfl T.z_range (pa_cons pe_int (pa_cons (pe_op op_add (pv 1) pe_int) pa_nil))) (pg_name (i := 3) nd rfl (Or.inl rfl))
            (pss_cons (ps_set (i := 4) nd rfl (Or.inl rfl) (pe_tup (pa_cons pe_str (pa_cons pe_str (pa_cons (pe_op op_add_str pe_str (pe_callTy call_str_int (by rfl) T.z_str (by decide +kernel) (pa_cons (pe_op op_sub (pv 3) pe_int) pa_nil))) (pa_cons pe_int pa_nil))))))
            (pss_one (ps_dput hu (pv 0) (pe_tup (pa_cons pe_str (pa_cons (pe_op op_add_str pe_str (pe_callTy call_str_int (by rfl) T.z_str (by decide +kernel) (pa_cons (pv 3) pa_nil))) pa_nil))) (pe_tup (pa_cons pe_int (pa_cons (pe_tup (pa_cons (pv 4) (pa_cons (pe_tup (pa_cons pe_str pa_nil)) (pa_cons (pv 4) (pa_cons (pe_tup (pa_cons pe_str pa_nil)) pa_nil))))) pa_nil))) rfl)))))), ?_⟩
    have e0 : nm "t" 0 = ("t0" : Str) := by decide +kernel
    refine put_dict (i := 0) (mo := "Ma") (na := "t0") (by rfl) hD (by omega) (db_tup (g := 0) rfl (rs_of (i := 2) (by rfl) elf hlf)) fun H1 kvs1 b1 hB1 => ?_
    refine ⟨_, rfl, _, _, rfl, rfl, _, _, rfl, ⟨by omega, by omega, by omega, by omega⟩, for_range (lo := 1) (n := _) (fun j σ H' => ∃ (x3 x4 : Option V) (kvs : List (List Key × V)), σ = [some (.ref d), some (.int (high : Int)), some (.ref lf), x3, x4] ∧ But1 H H' d ∧ DictAt K H' d (n + j + 1) kvs (treeB B leaf j))
      ⟨none, none, kvs1, rfl, b1, by rw [← e0] at hB1; exact hB1⟩ ?_ ?_⟩
    · rintro j σ H' hj ⟨x3, x4, kvs', rfl, b2, hB2⟩
      have hj' : j ≤ 100 := by omega
      try dsimp only [gName, tSeq, tAsg, tTup, tCons, tNil, tC]
      refine nm_read (σ := [some (.ref d), some (.int (high : Int)), some (.ref lf), some (.int (1 + (j : Int))), x4]) (c := "t") (ti := tOp (rI0 fun i j => .int (i - j)) (tVar 3) (tC (.int 1))) (i := (1 : Int) + (j : Int) - 1) (k := j) (by omega) (by omega) (by decide) (fun Q q => ⟨_, rfl, _, _, rfl, rfl, q⟩) ?_
      refine ⟨sl_le (by show 4 ≤ 10000000; decide), fun up hup => ?_⟩
      refine ⟨_, rfl, sl_le (by show 1 ≤ 10000000; decide), fun p1 hp1 => ⟨_, rfl, sl_le (by show 1 ≤ 10000000; decide), fun p2 hp2 => ⟨sl_le (by show 4 ≤ 10000000; decide), fun p3 hp3 => ⟨sl_le (by show 2 ≤ 10000000; decide), fun p4 hp4 => ?_⟩⟩⟩⟩
      have q0 := same_new (o := .tup [.str "call", .str "Ma", .str (nm "t" j), .int 0]) hup
      have q1 := same_new (o := .tup [.str "drop"]) hp1
      have q2 := same_new (o := .tup [.str "back"]) hp2
      have q3 := same_new (o := .tup [.ref up, .ref p1, .ref up, .ref p2]) hp3
      have q4 := same_new (o := .tup [.int 0, .ref p3]) hp4
      have u1 := upd_same (H := H') (a := up) (o := .tup [.str "call", .str "Ma", .str (nm "t" j), .int 0])
      have u2 := q1 _ _ u1
      have d2 := upd_same (H := upd H' up (.tup [.str "call", .str "Ma", .str (nm "t" j), .int 0])) (a := p1) (o := .tup [.str "drop"])
      have hdef : DefAt K (upd (upd (upd (upd (upd H' up (.tup [.str "call", .str "Ma", .str (nm "t" j), .int 0])) p1 (.tup [.str "drop"])) p2 (.tup [.str "back"])) p3 (.tup [.ref up, .ref p1, .ref up, .ref p2])) p4 (.tup [.int 0, .ref p3])) (.ref p4) 0 (treeRows j) := by
        have ru : RowAt K (upd (upd (upd (upd (upd H' up (.tup [.str "call", .str "Ma", .str (nm "t" j), .int 0])) p1 (.tup [.str "drop"])) p2 (.tup [.str "back"])) p3 (.tup [.ref up, .ref p1, .ref up, .ref p2])) p4 (.tup [.int 0, .ref p3])) (.ref up) (.call (tn j) 0) := ⟨up, rfl, SqT.of (q4 _ _ (q3 _ _ (q2 _ _ u2)))⟩
        exact ⟨p4, .ref p3, rfl, SqT.of upd_same, p3, _, rfl, SqT.of (q4 _ _ upd_same), .cons ru (.cons ⟨p1, rfl, SqT.of (q4 _ _ (q3 _ _ (q2 _ _ d2)))⟩ (.cons ru (.cons ⟨p2, rfl, SqT.of (q4 _ _ (q3 _ _ upd_same))⟩ .nil)))⟩
      have s5 := (((q0.trans q1).trans q2).trans q3).trans q4
      have hB3 := hB2.same s5
      generalize upd (upd (upd (upd (upd H' up (.tup [.str "call", .str "Ma", .str (nm "t" j), .int 0])) p1 (.tup [.str "drop"])) p2 (.tup [.str "back"])) p3 (.tup [.ref up, .ref p1, .ref up, .ref p2])) p4 (.tup [.int 0, .ref p3]) = H5 at *
      refine put_key (i := 0) (mo := "Ma") (na := nm "t" (j + 1)) (by rfl) hB3 (by omega) hdef (fun H1 Q q => ?_) fun H6 kvs6 b6 hB6 => ?_
      · dsimp only [tTup, tCons, tNil, tC]
        refine nm_read (σ := [some (.ref d), some (.int (high : Int)), some (.ref lf), some (.int (1 + (j : Int))), some (.ref up)]) (c := "t") (ti := tVar 3) (i := (1 : Int) + (j : Int)) (k := j + 1) (by omega) (by omega) (by decide) (fun Q q => ⟨_, rfl, q⟩) ?_
        exact ⟨sl_le (by show 2 ≤ 10000000; decide), fun p hp => q p hp⟩
      · exact ⟨_, _, kvs6, rfl, fun b o e n => b6 _ _ (s5 _ _ (b2 _ _ e n)) n, by rw [show n + (j + 1) + 1 = n + j + 1 + 1 by omega]; exact hB6⟩
    · rintro σ H' ⟨x3, x4, kvs', rfl, b2, hB2⟩
      have e : ((high : Int) + 1 - 1).toNat = high := by omega
      rw [e] at hB2
      exact k H' kvs' b2 hB2
end
end K90

set_option Elab.async false
set_option linter.all false
set_option maxRecDepth 100000
set_option maxHeartbeats 4000000
namespace K90
open PySem PySem.Spec PyProof.Rows L2 Ru Rp Mch
section
variable {P : Program} {w : World} {K : PySem.W.Frag} {mg : Str → Option Value} {base : Heap}
def powV (n : Nat) : List V := (List.range n).map fun k => V.int ((2 ^ k : Nat) : Int)
theorem powV_at {n k : Nat} (h : k < n) : (powV n)[k]? = some (V.int ((2 ^ k : Nat) : Int)) := by
  unfold powV
  rw [List.getElem?_map, List.getElem?_range h]
  rfl
theorem powV_succ (n : Nat) : powV (n + 1) = powV n ++ [V.int ((2 ^ n : Nat) : Int)] := by
  unfold powV
  rw [List.range_succ, List.map_append]
  rfl
theorem powV_len (n : Nat) : (powV n).length = n := by simp [powV]
abbrev N__law_powers : List Str := ["many", "powers", "k"]
theorem sc__law_powers : FnScope N__law_powers ["many"] (defScope s__law_powers) := ⟨rfl, rfl, rfl, by decide +kernel, rfl, by decide +kernel, by decide +kernel⟩
def spPowers : Sp := fun vs H Q _ => ∃ (many : Nat), vs = [.int (many : Int)] ∧ many ≤ 100 ∧ ∀ (p : Addr) (H' : Hp), H p = none → Same H H' → H' p = some (.lst (powV (many + 1))) → Q (.ref p) H'
theorem ok_powers (T : Txt K mg) : FnOk P w K mg base CX0 1 T.f__law_powers T.fd__law_powers ["many"] spPowers := by
  refine T.F__law_powers.ok sc__law_powers (fun vs H Q E h => ?_) (fun cdv A outer sh H vs Q E hr h => ?_)
  · obtain ⟨many, rfl, _⟩ := h
    rfl
  · obtain ⟨many, rfl, hm, k⟩ := h
    have nd := sc__law_powers.nd
    refine ⟨_, (pss_cons (ps_set (i := 1) nd rfl (Or.inl rfl) (pe_lst (pa_cons pe_int pa_nil)))
          (pss_cons (ps_for PassesOwn.never rfl (pi_range1 rfl T.z_range (pa_cons (pv 0) pa_nil)) (pg_name (i := 2) nd rfl (Or.inl rfl))
            (pss_one (ps_expr (pe_bm PySem.F.plainAttrs_list PySem.F.slot_list_append PySem.F.type_list_append mt_append (pv 1) (pa_cons (pe_op op_mul pe_int (pe_ix ix_list (pv 1) (pv 2) (fun _ _ => rfl))) pa_nil)))))
          (pss_one (ps_ret (pv 1))))), ?_⟩
    refine ⟨sl_le (by show 1 ≤ 10000000; decide), fun p hp => ?_⟩
    refine ⟨_, rfl, _, rfl, by omega, by omega, for_range (lo := 0) (n := many) (fun j σ H' => ∃ (x2 : Option V), σ = [some (.int (many : Int)), some (.ref p), x2] ∧ Same H H' ∧ H' p = some (.lst (powV (j + 1))))
      ⟨none, rfl, same_new hp, upd_same⟩ ?_ ?_⟩
    · rintro j σ H' hj ⟨x2, rfl, sm, e⟩
      have l1 := powV_len (j + 1)
      have ea : atI (powV (j + 1)) (0 + (j : Int)) = some (V.int ((2 ^ j : Nat) : Int)) := by rw [Int.zero_add]; exact atI_nat (powV_at (by omega))
      refine ⟨_, rfl, .inl ⟨rfl, _, SqL.of e⟩, _, rfl, _, rfl, p, _, _, _, rfl, rfl, SqL.of e, ea, _, _, rfl, rfl, .inl ⟨by decide, by decide⟩, p, _, _, rfl, rfl, e, sl_lt (by omega), ?_⟩
      refine ⟨_, rfl, fun b o q => ?_, ?_⟩
      · rw [upd_ne (ne_of_none q hp)]; exact sm _ _ q
      · rw [upd_same, powV_succ (j + 1), show (2 ^ (j + 1) : Nat) = 2 * 2 ^ j by rw [Nat.pow_succ]; omega]
        rfl
    · rintro σ H' ⟨x2, rfl, sm, e⟩
      exact ⟨_, rfl, k p H' hp sm e⟩
end
end K90

set_option Elab.async false
set_option linter.all false
set_option maxRecDepth 100000
set_option maxHeartbeats 4000000
/-! The two great runs: which trees are called, and how many calls and rows they make. -/
namespace K90
open PySem Mch Rp
def turnG (size k : Nat) (s : Nat × List Nat) : Nat × List Nat := if size ≤ s.1 then (s.1 - size, s.2 ++ [k]) else s
def greedy (size : Nat → Nat) (top start : Nat) : Nat → Nat × List Nat
  | 0 => (start, [])
  | n + 1 => turnG (size (top - n)) (top - n) (turnG (size (top - n)) (top - n) (greedy size top start n))
def ksRows (ks : List Nat) : List (Row Nm) := (ks.map fun k => [Row.call (tn k) 0, .drop]).flatten
theorem ksRows_snoc (ks : List Nat) (k : Nat) : ksRows (ks ++ [k]) = ksRows ks ++ [.call (tn k) 0, .drop] := by simp [ksRows]
theorem ksRows_cons (k : Nat) (ks : List Nat) : ksRows (k :: ks) = [.call (tn k) 0, .drop] ++ ksRows ks := by simp [ksRows]
theorem ksRows_len (ks : List Nat) : (ksRows ks).length = 2 * ks.length := by
  induction ks with
  | nil => rfl
  | cons k r ih => rw [ksRows_cons, List.length_append, ih]; simp; omega
def sumC : List Nat → Nat
  | [] => 0
  | k :: r => 2 ^ (k + 1) - 1 + sumC r
def sumD (dl : Nat) : List Nat → Nat
  | [] => 0
  | k :: r => (dl + 4) * 2 ^ k - 2 + sumD dl r
theorem at_pre {α : Type} {a b : List α} {j : Nat} {x : α} (h : b[j]? = some x) : (a ++ b)[a.length + j]? = some x := by
  rw [List.getElem?_append_right (by omega), Nat.add_sub_cancel_left]; exact h
theorem steps_ks {B : Built Nm} {leaf : List (Row Nm)} {high : Nat} (hT : Trees B leaf high) {v : Cell} {dl kl : Nat} (hl : Run B leaf 0 [] [] v 0 dl kl 0) (hk : kl ≤ 400) (hd : 1 ≤ dl) (post : List (Row Nm)) :
    ∀ (ks : List Nat) (pre : List (Row Nm)), (∀ k ∈ ks, k ≤ high) → ∃ kk h, Steps B (pre ++ (ksRows ks ++ post)) pre.length [] [] (pre.length + 2 * ks.length) [] [] (sumC ks) (sumD dl ks) kk h
  | [], pre, _ => ⟨0, 0, .refl⟩
  | k :: ks, pre, hks => by
    have hkh := hks k List.mem_cons_self
    obtain ⟨k1, h1, hk1, r1⟩ := run_tree hT hl hk hd k hkh
    obtain ⟨k2, h2, r2⟩ := steps_ks hT hl hk hd post ks (pre ++ [.call (tn k) 0, .drop]) fun x hx => hks x (List.mem_cons_of_mem _ hx)
    have e : (pre ++ [Row.call (tn k) 0, .drop]) ++ (ksRows ks ++ post) = pre ++ (ksRows (k :: ks) ++ post) := by rw [ksRows_cons]; simp
    rw [e, List.length_append] at r2
    have a0 : (pre ++ (ksRows (k :: ks) ++ post))[pre.length]? = some (.call (tn k) 0) := at_pre (j := 0) (by rw [ksRows_cons]; rfl)
    have a1 : (pre ++ (ksRows (k :: ks) ++ post))[pre.length + 1]? = some .drop := at_pre (j := 1) (by rw [ksRows_cons]; rfl)
    have q := Steps.call (B := B) (held := []) (st := []) a0 (by simp) (hT k hkh) r1 (by omega) (.simp a1 .drop r2)
    have p1 : 1 ≤ 2 ^ k := Nat.one_le_two_pow
    have p2 : dl + 4 ≤ (dl + 4) * 2 ^ k := Nat.le_mul_of_pos_right _ (by omega)
    have e1 : 2 ^ (k + 1) - 2 + sumC ks + 1 = sumC (k :: ks) := by
      show _ = 2 ^ (k + 1) - 1 + sumC ks
      rw [Nat.pow_succ]; omega
    have e2 : (dl + 4) * 2 ^ k - 4 + (sumD dl ks + 1) + 1 = sumD dl (k :: ks) := by
      show _ = (dl + 4) * 2 ^ k - 2 + sumD dl ks
      omega
    have e3 : pre.length + [Row.call (tn k) 0, Row.drop].length + 2 * ks.length = pre.length + 2 * (k :: ks).length := by simp; omega
    rw [e1, e2, e3] at q
    exact ⟨_, _, q⟩
/-! ### as many calls as may be -/
def callKs : List Nat := [15, 14, 9, 8, 6, 4, 1, 0, 0]
theorem greedy_calls : greedy (fun k => 2 * 2 ^ k - 1) 15 99999 16 = (0, callKs) := by decide +kernel
def callTail : Nat → List (Row Nm)
  | 0 => [.make 7 0, .back]
  | 1 => [.make 1 0, .call (tn 0) 0, .make 7 0, .back]
  | 2 => [.make 1 0, .call ("Ma", "lack") 0, .make 7 0, .back]
  | _ => [.make 1 0, .call ("Ma", "two") 1, .make 7 0, .back]
def callOut : Nat → Out
  | 0 => .val (.mk 7 [])
  | 1 => .bad .long
  | 2 => .bad .name
  | _ => .bad .value
abbrev leaf6 : List (Row Nm) := [.make 6 0, .back]
def callsB : Built Nm := Bset (treeB (fun _ => none) leaf6 15) ("Ma", "two") (2, [.loc 0, .back])
def callsB2 (way : Nat) : Built Nm := Bset callsB ("Ma", "all") (0, ksRows callKs ++ callTail way)
theorem callsB2_tree (way : Nat) : Trees (callsB2 way) leaf6 15 := by
  intro j hj
  unfold callsB2 callsB
  rw [bset_ne (tn_word (by decide +kernel)), bset_ne (tn_word (by decide +kernel))]
  exact treeB_at hj
theorem runs_calls {way : Nat} (hw : way ≤ 3) : RunsTo (callsB2 way) ("Ma", "all") [] (callOut way) := by
  have hl : Run (callsB2 way) leaf6 0 [] [] (.mk 6 []) 0 2 2 0 := by
    have := Run.simp (B := callsB2 way) (rows := leaf6) (i := 0) rfl (.make (m := 6) (n := 0) (held := []) (st := []) (by simp) (by simp [sizes])) (.back rfl)
    simpa using this
  obtain ⟨kk, h, r⟩ := steps_ks (callsB2_tree way) hl (by omega) (by omega) (callTail way) callKs [] (by decide)
  have eC : sumC callKs = 99999 := by decide +kernel
  have eD : sumD 2 callKs ≤ 400000 := by decide +kernel
  rw [List.nil_append] at r
  have l9 : 0 + 2 * callKs.length = (ksRows callKs).length := by rw [ksRows_len]; omega
  have r' : Steps (callsB2 way) (ksRows callKs ++ callTail way) 0 [] [] (ksRows callKs).length [] [] (sumC callKs) (sumD 2 callKs) kk h := by rw [← l9]; exact r
  refine .runs (rows := ksRows callKs ++ callTail way) bset_same (ends_steps r' [] 1 0 _ (by omega) (by omega) ?_)
  have mk : ∀ {m : Int}, Simp1 (N := Nm) (.make m 0) [] [] [] [.mk m []] := fun {m} => by
    have := Simp1.make (N := Nm) (m := m) (n := 0) (held := []) (st := []) (by simp) (by simp [sizes])
    simpa using this
  rcases (show way = 0 ∨ way = 1 ∨ way = 2 ∨ way = 3 by omega) with rfl | rfl | rfl | rfl
  · refine .of_step (.simp (at_pre (j := 0) rfl) mk (by omega) (by omega)) ?_
    exact .of_end (.fin (at_pre (j := 1) rfl) (by omega) (by omega))
  · refine .of_step (.simp (at_pre (j := 0) rfl) mk (by omega) (by omega)) ?_
    exact .of_end (.calls (f := tn 0) (n := 0) (at_pre (j := 1) rfl) (Nat.zero_le _) (callsB2_tree 1 0 (by omega)) (by omega) (by omega))
  · refine .of_step (.simp (at_pre (j := 0) rfl) mk (by omega) (by omega)) ?_
    have hB : callsB2 2 ("Ma", "lack") = none := by
      unfold callsB2 callsB
      rw [bset_ne (by decide +kernel), bset_ne (by decide +kernel), treeB_other fun j => word_tn (by decide +kernel)]
    have hd : 0 + sumD 2 callKs + 1 ≤ 1000000 := by omega
    exact .of_end (.lack (at_pre (j := 1) rfl) (Nat.zero_le _) hB hd)
  · refine .of_step (.simp (at_pre (j := 0) rfl) mk (by omega) (by omega)) ?_
    have hB : callsB2 3 ("Ma", "two") = some (2, [.loc 0, .back]) := by
      unfold callsB2 callsB
      rw [bset_ne (by decide +kernel), bset_same]
    have hd : 0 + sumD 2 callKs + 1 ≤ 1000000 := by omega
    exact .of_end (.wrong (at_pre (j := 1) rfl) (Nat.le_refl _) hB (by omega) hd)
end K90

set_option Elab.async false
set_option linter.all false
set_option maxRecDepth 100000
set_option maxHeartbeats 4000000
/-! The run of a million rows. -/
namespace K90
open PySem Mch Rp
theorem isT' {N : Type} {B : Built N} {rows : List (Row N)} {i : Nat} {held : List Cell} {m : Int} {to : Nat} {cs st : List Cell} {v : Cell} {c d k h : Nat} (e : rows[i]? = some (.isr m to)) (r : Run B rows (i + 1) held (.mk m cs :: st) v c d k h) :
    Run B rows i held (.mk m cs :: st) v c (d + 1) (k + 1) h := .isr e (by rw [if_pos rfl]; exact r)
def three : List (Row Nm) := [.keep, .loc 0, .forget 1]
def leaf28 : List (Row Nm) := [.make 6 0] ++ (List.replicate 4 three).flatten ++ List.replicate 5 (.isr 6 0) ++ ([.make 2 1, .part 0, .make 1 0, .drop] ++ [.make 1 0, .make 1 0, .same, .drop]) ++ [.go 27, .back]
theorem run_leaf28 (B : Built Nm) : Run B leaf28 0 [] [] (.mk 6 []) 0 28 28 0 := .simp rfl (.make (n := 0) (by simp) (by simp [sizes])) (.simp rfl .keep (.simp rfl (.loc (c := .mk 6 []) rfl) (.simp rfl (.forget (n := 1) (by simp)) (.simp rfl .keep (.simp rfl (.loc (c := .mk 6 []) rfl) (.simp rfl (.forget (n := 1) (by simp)) (.simp rfl .keep (.simp rfl (.loc (c := .mk 6 []) rfl) (.simp rfl (.forget (n := 1) (by simp)) (.simp rfl .keep (.simp rfl (.loc (c := .mk 6 []) rfl) (.simp rfl (.forget (n := 1) (by simp)) (isT' rfl (isT' rfl (isT' rfl (isT' rfl (isT' rfl (.simp rfl (.make (n := 1) (by simp) (by simp [sizes, Cell.size])) (.simp rfl (.part (c := .mk 6 []) rfl) (.simp rfl (.make (n := 0) (by simp) (by simp [sizes])) (.simp rfl .drop (.simp rfl (.make (n := 0) (by simp) (by simp [sizes])) (.simp rfl (.make (n := 0) (by simp) (by simp [sizes])) (.simp rfl (.same (by simp [Cell.depth, depths])) (.simp rfl .drop (.go rfl (.back rfl)))))))))))))))))))))))))))
def rowKs : List Nat := [14, 13, 12, 11, 9, 4, 1]
theorem greedy_rows : greedy (fun k => 32 * 2 ^ k - 2) 14 999998 15 = (12, rowKs) := by decide +kernel
def goRows (base n : Nat) : List (Row Nm) := (List.range n).map fun j => .go (base + j + 1)
theorem goRows_succ (base n : Nat) : goRows base (n + 1) = goRows base n ++ [.go (base + n + 1)] := by
  unfold goRows
  rw [List.range_succ, List.map_append]
  rfl
theorem goRows_len (base n : Nat) : (goRows base n).length = n := by simp [goRows]
theorem goRows_at {base n j : Nat} (h : j < n) : (goRows base n)[j]? = some (.go (base + j + 1)) := by
  unfold goRows
  rw [List.getElem?_map, List.getElem?_range h]
  rfl
theorem steps_go {B : Built Nm} (pre post : List (Row Nm)) (n : Nat) : ∀ m j, j + m = n → ∃ kk, Steps B (pre ++ (goRows pre.length n ++ post)) (pre.length + j) [] [] (pre.length + n) [] [] 0 m kk 0
  | 0, j, e => by
    obtain rfl : j = n := by omega
    exact ⟨0, .refl⟩
  | m + 1, j, e => by
    obtain ⟨kk, r⟩ := steps_go (B := B) pre post n m (j + 1) (by omega)
    have a : (pre ++ (goRows pre.length n ++ post))[pre.length + j]? = some (.go (pre.length + j + 1)) := at_pre (by rw [List.getElem?_append_left (by rw [goRows_len]; omega)]; exact goRows_at (by omega))
    exact ⟨kk + 1, .go a r⟩
def rowsOut : Nat → Out
  | 0 => .val (.mk 8 [])
  | _ => .bad .long
def rowsAll (more : Nat) : List (Row Nm) := ksRows rowKs ++ (goRows (2 * rowKs.length) (12 + more) ++ [.make 8 0, .back])
def rowsB (more : Nat) : Built Nm := Bset (treeB (fun _ => none) leaf28 14) ("Ma", "all") (0, rowsAll more)
theorem rowsB_tree (more : Nat) : Trees (rowsB more) leaf28 14 := by
  intro j hj
  unfold rowsB
  rw [bset_ne (tn_word (by decide +kernel))]
  exact treeB_at hj
theorem runs_rows {more : Nat} (hw : more ≤ 1) : RunsTo (rowsB more) ("Ma", "all") [] (rowsOut more) := by
  obtain ⟨kk, h, r⟩ := steps_ks (rowsB_tree more) (run_leaf28 _) (by omega) (by omega) (goRows (2 * rowKs.length) (12 + more) ++ [.make 8 0, .back]) rowKs [] (by decide)
  have eC : sumC rowKs ≤ 90000 := by decide +kernel
  have eD : sumD 28 rowKs = 999998 - 12 := by decide +kernel
  rw [List.nil_append] at r
  have l9 : (ksRows rowKs).length = 2 * rowKs.length := ksRows_len _
  have r' : Steps (rowsB more) (rowsAll more) 0 [] [] (ksRows rowKs).length [] [] (sumC rowKs) (sumD 28 rowKs) kk h := by rw [l9, ← Nat.zero_add (2 * rowKs.length)]; exact r
  obtain ⟨k2, r2⟩ := steps_go (B := rowsB more) (ksRows rowKs) [.make 8 0, .back] (12 + more) (12 + more) 0 (by omega)
  rw [l9, ← l9] at r2
  have r3 : Steps (rowsB more) (rowsAll more) (ksRows rowKs).length [] [] ((ksRows rowKs).length + (12 + more)) [] [] 0 (12 + more) k2 0 := by
    unfold rowsAll
    rw [← l9]
    exact r2
  refine .runs (rows := rowsAll more) bset_same (ends_steps r' [] 1 0 _ (by omega) (by omega) (ends_steps r3 [] _ _ _ (by omega) (by omega) ?_))
  have mk : Simp1 (N := Nm) (.make 8 0) [] [] [] [.mk 8 []] := by
    have := Simp1.make (N := Nm) (m := 8) (n := 0) (held := []) (st := []) (by simp) (by simp [sizes])
    simpa using this
  have a0 : (rowsAll more)[(ksRows rowKs).length + (12 + more)]? = some (.make 8 0) := by
    unfold rowsAll
    refine at_pre ?_
    have := at_pre (a := goRows (2 * rowKs.length) (12 + more)) (b := [Row.make 8 0, .back]) (j := 0) rfl
    rw [goRows_len] at this
    exact this
  have a1 : (rowsAll more)[(ksRows rowKs).length + (12 + more) + 1]? = some .back := by
    unfold rowsAll
    rw [Nat.add_assoc]
    refine at_pre ?_
    have := at_pre (a := goRows (2 * rowKs.length) (12 + more)) (b := [Row.make 8 0, .back]) (j := 1) rfl
    rw [goRows_len] at this
    exact this
  refine .of_step (.simp a0 mk (by omega) (by omega)) ?_
  rcases (show more = 0 ∨ more = 1 by omega) with rfl | rfl
  · exact .of_end (.fin a1 (by omega) (by omega))
  · exact .of_end (.rows a1 rfl (by omega) (by omega) (by omega))
end K90

set_option Elab.async false
set_option linter.all false
set_option maxRecDepth 100000
set_option maxHeartbeats 4000000
namespace K90
open PySem PySem.Spec PyProof.Rows L2 Ru Rp Mch
section
variable {P : Program} {w : World} {K : PySem.W.Frag} {mg : Str → Option Value} {base : Heap}
/-- a def that raises nothing here -/
theorem calm_ok {k : Nat} {f : Addr} {fd : FuncData} {ps : List Str} {sp sp0 : Sp} (F : FnOk P w K mg base (L2N.CX P w) k f fd ps sp) (h : ∀ vs H Q E, sp0 vs H Q E → sp vs H Q E0) : FnOk P w K mg base CX0 k f fd ps sp0 := by
  refine ⟨fun vs H Q E z => F.len _ _ _ _ (h _ _ _ _ z), fun A up s H args us vs Q E hr e0 hb hv hs => codeAny_mono (F.run A up s H args us vs Q E0 hr e0 hb hv (h _ _ _ _ hs)) fun r s' hq => ?_⟩
  cases r with
  | ok fl => cases fl <;> exact hq
  | error e =>
    have q : L2N.CX P w up H s E0 e s' := hq
    unfold L2N.CX at q
    simp only [and_false, exists_false] at q
    all_goals exact q.elim
def spRunV (K : PySem.W.Frag) : Sp := fun vs H Q _ => ∃ (d c : Addr) (kvs : List (List Key × V)) (B : Built Nm) (mo na : Str) (cv : List V) (cells : List Cell) (v : Cell),
  vs = [.ref d, .str mo, .str na, .ref c] ∧ H d = some (.dT kvs) ∧ BuiltOf K H kvs B ∧ SqT K H c cv ∧ CellsAt K H cv cells ∧ RunsTo B (mo, na) cells (.val v) ∧ cells.length ≤ 1000 ∧ ∀ (u : V) (H' : Hp), Same H H' → CellAt K H' u v → Q u H'
theorem ok_runV (T : Txt K mg) : FnOk P w K mg base CX0 31 T.f_run T.fd_run ["built", "module", "name", "cells"] (spRunV K) :=
  calm_ok (ok_run T) fun vs H Q E ⟨d, c, kvs, B, mo, na, cv, cells, v, e, h1, h2, h3, h4, h5, h6, k⟩ => ⟨d, c, kvs, B, mo, na, cv, cells, _, e, h1, h2, h3, h4, h5, h6, fun v' hv u H' s hu => by cases hv; exact k u H' s hu, fun e z => by cases z⟩
def iterG (size k : Nat) (s : Nat × List Nat) : Nat → Nat × List Nat
  | 0 => s
  | n + 1 => turnG size k (iterG size k s n)
theorem turnG_len {size k m : Nat} {s : Nat × List Nat} (h : s.2.length ≤ m) : (turnG size k s).2.length ≤ m + 1 := by
  unfold turnG
  split
  · simp; omega
  · omega
theorem none_dict {H : Hp} {d : Addr} (hd : H d = some (.dT [])) : DictAt K H d 0 [] (fun _ => none) := ⟨hd, Nat.le_refl _, ⟨(fun p hp => by cases hp), List.nodup_nil⟩, (fun f => ⟨fun _ => rfl, fun g rs z => by cases z⟩)⟩
abbrev N__law_many_calls : List Str := ["way", "built", "powers", "rows", "left", "back", "size", "turn"]
theorem sc__law_many_calls : FnScope N__law_many_calls ["way"] (defScope s__law_many_calls) := ⟨rfl, rfl, rfl, by decide +kernel, rfl, by decide +kernel, by decide +kernel⟩
def spManyCalls : Sp := fun vs H Q _ => ∃ (way : Nat), vs = [.int (way : Int)] ∧ way ≤ 3 ∧ ∀ (H' : Hp), Q (.bl true) H'
theorem ok_many_calls (T : Txt K mg) : FnOk P w K mg base CX0 33 T.f__law_many_calls T.fd__law_many_calls ["way"] spManyCalls := by
  refine T.F__law_many_calls.ok sc__law_many_calls (fun vs H Q E h => ?_) (fun cdv A outer sh H vs Q E hr h => ?_)
  · obtain ⟨way, rfl, _⟩ := h
    rfl
  · obtain ⟨way, rfl, hway, k⟩ := h
    have nd := sc__law_many_calls.nd
    have hu := hu_of hr
    have G__law_powers : FnOk P w K mg base CX0 1 T.f__law_powers T.fd__law_powers ["many"] spPowers := ok_powers T
    have G__law_tree : FnOk P w K mg base CX0 1 T.f__law_tree T.fd__law_tree ["built", "high", "leaf"] (spTree K) := ok_tree T
    have G__law_word : FnOk P w K mg base CX0 32 T.f__law_word T.fd__law_word ["built", "module", "name", "cells"] (spWord K) := ok_word T
    have G__law_alike : FnOk P w K mg base CX0 12 T.f__law_alike T.fd__law_alike ["told", "due"] (spAlike K 10) := ok_alike T 10
    have G_run : FnOk P w K mg base CX0 31 T.f_run T.fd_run ["built", "module", "name", "cells"] (spRunV K) := ok_runV T
    have hr__law_powers : Room 1 _ := hr.mono (by decide)
    have hr__law_tree : Room 1 _ := hr.mono (by decide)
    have hr__law_word : Room 32 _ := hr
    have hr__law_alike : Room 12 _ := hr.mono (by decide)
    have hr_run : Room 31 _ := hr.mono (by decide)
    refine ⟨_, (pss_cons (ps_set (i := 1) nd rfl (Or.inl rfl) pe_dnewT)
          (pss_cons (ps_set (i := 2) nd rfl (Or.inl rfl) (pe_call G__law_powers hr__law_powers rfl T.g__law_powers T.k__law_powers T.b__law_powers .nil pass0 (pa_cons pe_int pa_nil)))
          (pss_cons (ps_expr (pe_call G__law_tree hr__law_tree rfl T.g__law_tree T.k__law_tree T.b__law_tree .nil pass0 (pa_cons (pv 1) (pa_cons pe_int (pa_cons (pe_lst (pa_cons (pe_tup (pa_cons pe_str (pa_cons pe_int (pa_cons pe_int pa_nil)))) (pa_cons (pe_tup (pa_cons pe_str pa_nil)) pa_nil))) pa_nil)))))
          (pss_cons (ps_dput hu (pv 1) (pe_tup (pa_cons pe_str (pa_cons pe_str pa_nil))) (pe_tup (pa_cons pe_int (pa_cons (pe_tup (pa_cons (pe_tup (pa_cons pe_str (pa_cons pe_int pa_nil))) (pa_cons (pe_tup (pa_cons pe_str pa_nil)) pa_nil))) pa_nil))) rfl)
          (pss_cons (ps_set (i := 3) nd rfl (Or.inl rfl) (pe_lst pa_nil))
          (pss_cons (ps_set (i := 4) nd rfl (Or.inl rfl) pe_int)
          (pss_cons (ps_for PassesOwn.never rfl (pi_range1 rfl T.z_range (pa_cons pe_int pa_nil)) (pg_name (i := 5) nd rfl (Or.inl rfl))
            (pss_cons (ps_set (i := 6) nd rfl (Or.inl rfl) (pe_op op_sub (pe_op op_mul pe_int (pe_ix ix_list (pv 2) (pe_op op_sub pe_int (pv 5)) (fun _ _ => rfl))) pe_int))
            (pss_one (ps_for PassesOwn.never rfl (pi_range1 rfl T.z_range (pa_cons pe_int pa_nil)) (pg_name (i := 7) nd rfl (Or.inl rfl))
              (pss_one (ps_if (pt_cmpR op_ge (pv 4) (pv 6) (nomark _))
                (pss_cons (ps_set (i := 4) nd rfl (Or.inl rfl) (pe_op op_sub (pv 4) (pv 6)))
                (pss_one (ps_expr (pe_bm PySem.F.plainAttrs_list PySem.F.slot_list_extend PySem.F.type_list_extend mt_extend (pv 3) (pa_cons (pe_lst (pa_cons (pe_tup (pa_cons pe_str (pa_cons pe_str (pa_cons (pe_op op_add_str pe_str (pe_callTy call_str_int (by rfl) T.z_str (by decide +kernel) (pa_cons (pe_op op_sub pe_int (pv 5)) pa_nil))) (pa_cons pe_int pa_nil))))) (pa_cons (pe_tup (pa_cons pe_str pa_nil)) pa_nil))) pa_nil)))))
                pss_nil))))))
          (Evl.pss_cut (ps_if (pt_cmpR op_gt (pv 0) pe_int (nomark _))
            (pss_cons (ps_expr (pe_bm PySem.F.plainAttrs_list PySem.F.slot_list_append PySem.F.type_list_append mt_append (pv 3) (pa_cons (pe_tup (pa_cons pe_str (pa_cons pe_int (pa_cons pe_int pa_nil)))) pa_nil)))
            (pss_one (ps_expr (pe_bm PySem.F.plainAttrs_list PySem.F.slot_list_append PySem.F.type_list_append mt_append (pv 3) (pa_cons (pe_tup (pa_cons pe_str (pa_cons pe_str (pa_cons (pe_ix ix_list (pe_lst (pa_cons pe_str (pa_cons pe_str (pa_cons pe_str pa_nil)))) (pe_op op_sub (pv 0) pe_int) (fun _ _ => rfl)) (pa_cons (pe_ix ix_list (pe_lst (pa_cons pe_int (pa_cons pe_int (pa_cons pe_int pa_nil)))) (pe_op op_sub (pv 0) pe_int) (fun _ _ => rfl)) pa_nil))))) pa_nil)))))
            pss_nil)
          (pss_cons (ps_expr (pe_bm PySem.F.plainAttrs_list PySem.F.slot_list_extend PySem.F.type_list_extend mt_extend (pv 3) (pa_cons (pe_lst (pa_cons (pe_tup (pa_cons pe_str (pa_cons pe_int (pa_cons pe_int pa_nil)))) (pa_cons (pe_tup (pa_cons pe_str pa_nil)) pa_nil))) pa_nil)))
          (pss_cons (ps_dput hu (pv 1) (pe_tup (pa_cons pe_str (pa_cons pe_str pa_nil))) (pe_tup (pa_cons pe_int (pa_cons (pe_callTy call_tuple_of (by rfl) T.z_tuple (by decide +kernel) (pa_cons (pv 3) pa_nil)) pa_nil))) rfl)
          (pss_cons (ps_if (pt_cmpR op_eq (pv 0) pe_int (nomark _))
            (pss_one (ps_ret (pe_call G__law_alike hr__law_alike rfl T.g__law_alike T.k__law_alike T.b__law_alike .nil pass0 (pa_cons (pe_call G_run hr_run rfl T.g_run T.k_run T.b_run .nil pass0 (pa_cons (pv 1) (pa_cons pe_str (pa_cons pe_str (pa_cons (pe_tup pa_nil) pa_nil))))) (pa_cons (pe_tup (pa_cons pe_int (pa_cons (pe_tup pa_nil) pa_nil))) pa_nil)))))
            pss_nil)
          (pss_one (ps_ret (pe_cmpR op_eq (pe_call G__law_word hr__law_word rfl T.g__law_word T.k__law_word T.b__law_word .nil pass0 (pa_cons (pv 1) (pa_cons pe_str (pa_cons pe_str (pa_cons (pe_tup pa_nil) pa_nil))))) (pe_ix ix_list (pe_lst (pa_cons pe_str (pa_cons pe_str (pa_cons pe_str pa_nil)))) (pe_op op_sub (pv 0) pe_int) (fun _ _ => rfl)) (nomark _))))))))))))))), ?_⟩
    refine fun d hd => ?_
    have hB0 : DictAt K (upd H d (.dT [])) d 0 [] (fun _ => none) := none_dict upd_same
    generalize upd H d (.dT []) = H1 at *
    refine ⟨17, rfl, by decide, fun pw H2 hpw s2 epw => ?_⟩
    have hB2 := hB0.same s2
    refine ⟨_, rfl, sl_le (by show 3 ≤ 10000000; decide), fun p1 hp1 => ⟨sl_le (by show 1 ≤ 10000000; decide), fun p2 hp2 => ⟨sl_le (by show 2 ≤ 10000000; decide), fun lf hlf => ?_⟩⟩⟩
    have y1 := same_new (o := .tup [.str "make", .int 6, .int 0]) hp1
    have y2 := same_new (o := .tup [.str "back"]) hp2
    have y3 := same_new (o := .lst [.ref p1, .ref p2]) hlf
    have s3 := (y1.trans y2).trans y3
    have hrs : RowsOf K (upd (upd (upd H2 p1 (.tup [.str "make", .int 6, .int 0])) p2 (.tup [.str "back"])) lf (.lst [.ref p1, .ref p2])) [.ref p1, .ref p2] leaf6 := .cons ⟨p1, rfl, SqT.of (y3 _ _ (y2 _ _ upd_same))⟩ (.cons ⟨p2, rfl, SqT.of (y3 _ _ upd_same)⟩ .nil)
    have elf := upd_same (H := upd (upd H2 p1 (.tup [.str "make", .int 6, .int 0])) p2 (.tup [.str "back"])) (a := lf) (o := .lst [.ref p1, .ref p2])
    generalize upd (upd (upd H2 p1 (.tup [.str "make", .int 6, .int 0])) p2 (.tup [.str "back"])) lf (.lst [.ref p1, .ref p2]) = H3 at *
    have hB3 := hB2.same s3
    refine ⟨d, lf, 15, 0, [], _, [.ref p1, .ref p2], leaf6, rfl, hB3, elf, hrs, by decide, by decide, by simp, fun H4 kvs4 b4 hB4 => ?_⟩
    have npd : pw ≠ d := ne_of (s3 _ _ epw) hB3.at_ (by intro z; cases z)
    have epw4 := b4 _ _ (s3 _ _ epw) npd
    try dsimp only [gName, tSeq, tAsg]
    refine put_dict (i := 1) (mo := "Ma") (na := "two") (by rfl) hB4 (by decide) (db_tup (g := 2) (rs := [.loc 0, .back]) rfl (rs_tup (rls_cons (rb_tup fun _ _ q => q) (rls_cons (rb_tup fun _ _ q => q) rls_nil)) (by simp))) fun H5 kvs5 b5 hB5 => ?_
    have hB5' : DictAt K H5 d 17 kvs5 callsB := hB5
    have epw5 := b5 _ _ epw4 npd
    try dsimp only [gName, tSeq, tAsg]
    refine ⟨Nat.zero_le _, fun rl hrl => ?_⟩
    have sz0 : ∀ k : Nat, 1 ≤ 2 ^ k := fun k => Nat.one_le_two_pow
    refine ⟨_, rfl, by decide, by decide, for_range (lo := 0) (n := 16) (fun n σ H' => ∃ (x5 x6 x7 : Option V) (rv : List V), σ = [some (.int (way : Int)), some (.ref d), some (.ref pw), some (.ref rl), some (.int ((greedy (fun k => 2 * 2 ^ k - 1) 15 99999 n).1 : Int)), x5, x6, x7] ∧ Same H5 H' ∧ H' rl = some (.lst rv) ∧
        RowsOf K H' rv (ksRows (greedy (fun k => 2 * 2 ^ k - 1) 15 99999 n).2) ∧ (greedy (fun k => 2 * 2 ^ k - 1) 15 99999 n).2.length ≤ 2 * n) ⟨none, none, none, [], rfl, same_new hrl, upd_same, .nil, by simp [greedy]⟩ ?_ ?_⟩
    · rintro n σ H' hn ⟨x5, x6, x7, rv, rfl, sm, erl, hrv, hlen⟩
      have p1 := sz0 (15 - n)
      have ea : atI (powV 18) ((15 : Int) - (0 + (n : Int))) = some (V.int ((2 ^ (15 - n) : Nat) : Int)) := by
        rw [show (15 : Int) - (0 + (n : Int)) = ((15 - n : Nat) : Int) by omega]
        exact atI_nat (powV_at (by omega))
      try dsimp only [gName, tSeq, tAsg]
      refine ⟨_, rfl, _, rfl, _, _, rfl, rfl, pw, _, _, _, rfl, rfl, SqL.of (sm _ _ epw5), ea, _, _, rfl, rfl, .inl ⟨by decide, by decide⟩, _, _, rfl, rfl, ?_⟩
      have es : (2 : Int) * ((2 ^ (15 - n) : Nat) : Int) - 1 = ((2 * 2 ^ (15 - n) - 1 : Nat) : Int) := by omega
      try dsimp only [gName, tSeq, tAsg]
      rw [es]
      refine ⟨_, rfl, by decide, by decide, for_range (lo := 0) (n := 2) (fun t σ H' => ∃ (x7 : Option V) (rv : List V), σ = [some (.int (way : Int)), some (.ref d), some (.ref pw), some (.ref rl), some (.int ((iterG (2 * 2 ^ (15 - n) - 1) (15 - n) (greedy (fun k => 2 * 2 ^ k - 1) 15 99999 n) t).1 : Int)), some (.int (0 + (n : Int))), some (.int ((2 * 2 ^ (15 - n) - 1 : Nat) : Int)), x7] ∧
          Same H5 H' ∧ H' rl = some (.lst rv) ∧ RowsOf K H' rv (ksRows (iterG (2 * 2 ^ (15 - n) - 1) (15 - n) (greedy (fun k => 2 * 2 ^ k - 1) 15 99999 n) t).2) ∧ (iterG (2 * 2 ^ (15 - n) - 1) (15 - n) (greedy (fun k => 2 * 2 ^ k - 1) 15 99999 n) t).2.length ≤ 2 * n + t)
        ⟨_, rv, rfl, sm, erl, hrv, hlen⟩ ?_ ?_⟩
      · rintro t σ H6 ht ⟨x7, rv6, rfl, sm6, erl6, hrv6, hlen6⟩
        have hl2 := turnG_len (size := 2 * 2 ^ (15 - n) - 1) (k := 15 - n) hlen6
        generalize hg : iterG (2 * 2 ^ (15 - n) - 1) (15 - n) (greedy (fun k => 2 * 2 ^ k - 1) 15 99999 n) t = g at *
        have hg1 : iterG (2 * 2 ^ (15 - n) - 1) (15 - n) (greedy (fun k => 2 * 2 ^ k - 1) 15 99999 n) (t + 1) = turnG (2 * 2 ^ (15 - n) - 1) (15 - n) g := by rw [← hg]; rfl
        refine ⟨_, rfl, _, rfl, _, _, rfl, rfl, _, rfl, ?_⟩
        refine ite2 (fun z => ?_) (fun z => ?_)
        · have z2 : ((2 * 2 ^ (15 - n) - 1 : Nat) : Int) ≤ (g.1 : Int) := of_decide_eq_true z
          have z3 : 2 * 2 ^ (15 - n) - 1 ≤ g.1 := by omega
          have ht' : turnG (2 * 2 ^ (15 - n) - 1) (15 - n) g = (g.1 - (2 * 2 ^ (15 - n) - 1), g.2 ++ [15 - n]) := if_pos z3
          refine ⟨_, rfl, _, rfl, _, _, rfl, rfl, ?_⟩
          try dsimp only [gName, tSeq, tAsg]
          refine ext_rows (K := K) (i := 3) (rs2 := [.call (tn (15 - n)) 0, .drop]) (by rfl) erl6 hrv6 ?_ (by rw [ksRows_len]; omega) (by simp) fun H7 rv7 b7 erl7 hrv7 => ?_
          · refine rls_cons (rb_tup fun H Q q => ?_) (rls_cons (rb_tup fun _ _ q => q) rls_nil)
            dsimp only [tCons, tNil, tC]
            exact nm_read (c := "t") (ti := tOp (rI0 fun i j => .int (i - j)) (tC (.int 15)) (tVar 5)) (i := (15 : Int) - (0 + (n : Int))) (k := 15 - n) (by omega) (by omega) (by decide) (fun Q q => ⟨_, rfl, _, _, rfl, rfl, q⟩) q
          · refine ⟨some (.int (0 + (t : Int))), rv7, ?_, same_but1 sm6 hrl b7, erl7, ?_, ?_⟩
            · rw [hg1, ht', show (g.1 : Int) - ((2 * 2 ^ (15 - n) - 1 : Nat) : Int) = ((g.1 - (2 * 2 ^ (15 - n) - 1) : Nat) : Int) by omega]
              rfl
            · rw [hg1, ht', ksRows_snoc]; exact hrv7
            · rw [hg1]; omega
        · have z2 : ¬ ((2 * 2 ^ (15 - n) - 1 : Nat) : Int) ≤ (g.1 : Int) := fun q => z (decide_eq_true q)
          have ht' : turnG (2 * 2 ^ (15 - n) - 1) (15 - n) g = g := if_neg (by omega)
          exact ⟨some (.int (0 + (t : Int))), rv6, by rw [hg1, ht']; rfl, sm6, erl6, by rw [hg1, ht']; exact hrv6, by rw [hg1, ht']; omega⟩
      · rintro σ H6 ⟨x7, rv6, rfl, sm6, erl6, hrv6, hlen6⟩
        exact ⟨_, _, _, rv6, rfl, sm6, erl6, hrv6, by exact hlen6⟩
    · rintro σ H6 ⟨x5, x6, x7, rv, rfl, sm, erl, hrv, hlen⟩
      rw [greedy_calls] at hrv ⊢
      have hB6 := hB5'.same sm
      -- if way > 0
      refine ⟨fun σ' H' => ∃ (x4 x5 x6 x7 : Option V) (rv : List V) (rs : List (Row Nm)), σ' = [some (.int (way : Int)), some (.ref d), some (.ref pw), some (.ref rl), x4, x5, x6, x7] ∧ Same H5 H' ∧ H' rl = some (.lst rv) ∧ RowsOf K H' rv (ksRows callKs ++ rs) ∧ rs.length ≤ 2 ∧ rs ++ ([.make 7 0, .back] : List (Row Nm)) = callTail way, ?_, ?_⟩
      · refine ⟨_, rfl, _, _, rfl, rfl, _, rfl, ?_⟩
        refine ite2 (fun z => ?_) (fun z => ?_)
        · have z2 : (0 : Int) < (way : Int) := of_decide_eq_true z
          refine app_row (K := K) (i := 3) (r := .make 1 0) (by rfl) erl hrv (rb_tup fun _ _ q => q) (by rw [ksRows_len]; decide) fun H7 rv7 b7 erl7 hrv7 => ?_
          have sm7 := same_but1 sm hrl b7
          have pick : ∃ (nmw : Str) (g : Nat), atI [V.str "t0", .str "lack", .str "two"] ((way : Int) - 1) = some (.str nmw) ∧ atI [V.int 0, .int 0, .int 1] ((way : Int) - 1) = some (.int (g : Int)) ∧ ([.make 1 0, .call ("Ma", nmw) g] ++ [.make 7 0, .back] : List (Row Nm)) = callTail way := by
            rcases (show way = 1 ∨ way = 2 ∨ way = 3 by omega) with rfl | rfl | rfl
            · refine ⟨_, 0, rfl, rfl, ?_⟩
              have e0 : nm "t" 0 = ("t0" : Str) := by decide +kernel
              show _ = [Row.make 1 0, .call (tn 0) 0, .make 7 0, .back]
              unfold tn
              rw [e0]
              rfl
            · exact ⟨_, 0, rfl, rfl, rfl⟩
            · exact ⟨_, 1, rfl, rfl, rfl⟩
          obtain ⟨nmw, g, hp1, hp2, hp3⟩ := pick
          have rb : RB K H7 [some (.int (way : Int)), some (.ref d), some (.ref pw), some (.ref rl), some (.int ((0, callKs).1 : Int)), x5, x6, x7]
              (tTup (tCons (tC (.str "call")) (tCons (tC (.str "Ma")) (tCons (tOp (rIxL K) (tLst (tCons (tC (.str "t0")) (tCons (tC (.str "lack")) (tCons (tC (.str "two")) tNil)))) (tOp (rI0 fun i j => .int (i - j)) (tVar 0) (tC (.int 1)))) (tCons (tOp (rIxL K) (tLst (tCons (tC (.int 0)) (tCons (tC (.int 0)) (tCons (tC (.int 1)) tNil)))) (tOp (rI0 fun i j => .int (i - j)) (tVar 0) (tC (.int 1)))) tNil)))))
              (.call ("Ma", nmw) g) := by
            intro H8 s8 Q q
            refine ⟨sl_le (by show 3 ≤ 10000000; decide), fun L1 hL1 => ⟨_, rfl, _, _, rfl, rfl, L1, _, _, _, rfl, rfl, SqL.of upd_same, hp1, sl_le (by show 3 ≤ 10000000; decide), fun L2 hL2 => ⟨_, rfl, _, _, rfl, rfl, L2, _, _, _, rfl, rfl, SqL.of upd_same, hp2, sl_le (by show 4 ≤ 10000000; decide), fun p hp => ?_⟩⟩⟩
            exact q _ _ (((same_new hL1).trans (same_new hL2)).trans (same_new hp)) ⟨p, rfl, SqT.of upd_same⟩
          refine app_row (K := K) (i := 3) (r := .call ("Ma", nmw) g) (by rfl) erl7 hrv7 rb (by rw [List.length_append, ksRows_len]; decide) fun H8 rv8 b8 erl8 hrv8 => ?_
          exact ⟨_, _, _, _, rv8, [.make 1 0, .call ("Ma", nmw) g], rfl, same_but1 sm7 hrl b8, erl8, by rw [List.append_assoc] at hrv8; exact hrv8, by simp, hp3⟩
        · have z2 : ¬ (0 : Int) < (way : Int) := fun q => z (decide_eq_true q)
          obtain rfl : way = 0 := by omega
          exact ⟨_, _, _, _, rv, [], rfl, sm, erl, by rw [List.append_nil]; exact hrv, by simp, rfl⟩
      · rintro σ H7 ⟨x4, x5, x6, x7, rv7, rs, rfl, sm7, erl7, hrv7, hrsl, htail⟩
        have lk : (ksRows callKs).length = 18 := by rw [ksRows_len]; rfl
        refine ext_rows (K := K) (i := 3) (rs2 := [.make 7 0, .back]) (by rfl) erl7 hrv7 (rls_cons (rb_tup fun _ _ q => q) (rls_cons (rb_tup fun _ _ q => q) rls_nil)) (by rw [List.length_append]; omega) (by simp) fun H8 rv8 b8 erl8 hrv8 => ?_
        rw [List.append_assoc, htail] at hrv8
        have sm8 := same_but1 sm7 hrl b8
        have hB8 := hB5'.same sm8
        try dsimp only [gName, tSeq, tAsg]
        have lt : (callTail way).length ≤ 4 := by rw [← htail, List.length_append]; simp; omega
        refine put_dict (i := 1) (mo := "Ma") (na := "all") (by rfl) hB8 (by decide) (db_tup (g := 0) rfl (rs_of (i := 3) (by rfl) erl8 hrv8)) fun H9 kvs9 b9 hB9 => ?_
        have hB9' : DictAt K H9 d 18 kvs9 (callsB2 way) := hB9
        have hruns := runs_calls hway
        refine ⟨_, rfl, rfl, _, rfl, ?_⟩
        refine ite2 (fun z => ?_) (fun z => ?_)
        · have z2 : way = 0 := by have q := of_decide_eq_true z; injection q with q; omega
          subst z2
          refine ⟨_, rfl, Nat.zero_le _, fun e1 he1 => ?_⟩
          have t1 := same_new (o := .tup []) he1
          have hB10 := hB9'.same t1
          refine ⟨d, e1, kvs9, callsB2 0, "Ma", "all", [], [], .mk 7 [], rfl, hB10.at_, hB10.built, SqT.of upd_same, cells_nil.mpr rfl, hruns, by simp, fun u H10 s10 hu10 => ?_⟩
          refine ⟨Nat.zero_le _, fun e2 he2 => ⟨sl_le (by show 2 ≤ 10000000; decide), fun e3 he3 => ?_⟩⟩
          have t2 := same_new (o := .tup []) he2
          have t3 := same_new (o := .tup [.int 7, .ref e2]) he3
          refine ⟨u, .ref e3, rfl, tw_cell 5 (c := .mk 7 []) (by simp [Cell.depth, depths]) (by simp [Cell.size, sizes]) (hu10.to (TEx.of_same (t2.trans t3))) (cellAt_mk.mpr ⟨e3, e2, [], rfl, SqT.of upd_same, SqT.of (t3 _ _ upd_same), cells_nil.mpr rfl⟩), fun H11 s11 => k H11⟩
        · have z2 : ¬ way = 0 := fun q => z (by rw [q]; rfl)
          refine ⟨_, rfl, Nat.zero_le _, fun e1 he1 => ?_⟩
          have t1 := same_new (o := .tup []) he1
          have hB10 := hB9'.same t1
          refine ⟨d, e1, kvs9, callsB2 way, "Ma", "all", [], [], callOut way, rfl, hB10.at_, hB10.built, SqT.of upd_same, cells_nil.mpr rfl, hruns, by simp, fun H10 s10 => ?_⟩
          have hat : atI [V.str "TooLong", .str "BadName", .str "BadValue"] ((way : Int) - 1) = some (.str (wordOf (callOut way))) := by
            rcases (show way = 1 ∨ way = 2 ∨ way = 3 by omega) with rfl | rfl | rfl <;> rfl
          refine ⟨sl_le (by show 3 ≤ 10000000; decide), fun L hL => ⟨_, rfl, _, _, rfl, rfl, L, _, _, _, rfl, rfl, SqL.of upd_same, hat, rfl, ?_⟩⟩
          rw [decide_eq_true rfl]
          exact k _
end
end K90

set_option Elab.async false
set_option linter.all false
set_option maxRecDepth 100000
set_option maxHeartbeats 4000000
namespace K90
open PySem PySem.Spec PyProof.Rows L2 Ru Rp Mch
section
variable {P : Program} {w : World} {K : PySem.W.Frag} {mg : Str → Option Value} {base : Heap}
/-! ### lists of rows, put together -/
section
variable (H0 : Hp) (σ : L2.St)
def LB (K : PySem.W.Frag) (te : TE) (rs : List (Row Nm)) : Prop := ∀ H, Same H0 H → ∀ Q : VK, (∀ p vs H', Same H H' → H' p = some (.lst vs) → RowsOf K H' vs rs → Q (.ref p) H') → te σ H Q
end
theorem lb_lst {H0 : Hp} {σ : L2.St} {ta : TA} {rs : List (Row Nm)} (h : RLs K H0 σ ta rs) (hl : rs.length ≤ 1000) : LB H0 σ K (tLst ta) rs := fun H s Q q => lst_rows h s (fun p vs H' _ s' e hr => q p vs H' s' e hr) hl
theorem lb_var {H0 : Hp} {σ : L2.St} {i : Nat} {l : Addr} {vs : List V} {rs : List (Row Nm)} (hi : σ[i]? = some (some (.ref l))) (hl : H0 l = some (.lst vs)) (hr : RowsOf K H0 vs rs) : LB H0 σ K (tVar i) rs := fun H s Q q => ⟨_, hi, q l vs H (Same.refl _) (s _ _ hl) (hr.to (TEx.of_same s))⟩
theorem lb_cat {H0 : Hp} {σ : L2.St} {ta tb : TE} {r1 r2 : List (Row Nm)} (ha : LB H0 σ K ta r1) (hb : LB H0 σ K tb r2) (hl : r1.length + r2.length ≤ 100000) : LB H0 σ K (tOp rCat ta tb) (r1 ++ r2) := fun H s Q q =>
  ha H s _ fun p vs H1 s1 e1 hr1 => hb H1 (s.trans s1) _ fun p2 vs2 H2 s2 e2 hr2 => by
    have l1 := rows_len hr1
    have l2 := rows_len hr2
    refine ⟨p, p2, vs, vs2, rfl, rfl, s2 _ _ e1, e2, sl_le (by omega), fun l hl => ?_⟩
    have s3 := same_new (o := .lst (vs ++ vs2)) hl
    exact q l _ _ ((s1.trans s2).trans s3) upd_same (RowsOf.to (TEx.of_same s3) (paired_append (RowsOf.to (TEx.of_same s2) hr1) hr2))
theorem rows_reps {H : Hp} {vs : List V} {rs : List (Row Nm)} (h : RowsOf K H vs rs) : ∀ n : Nat, RowsOf K H (List.replicate n vs).flatten (List.replicate n rs).flatten
  | 0 => .nil
  | n + 1 => by
    rw [List.replicate_succ, List.replicate_succ, List.flatten_cons, List.flatten_cons]
    exact paired_append h (rows_reps h n)
theorem lb_rep {H0 : Hp} {σ : L2.St} {ta : TE} {r1 : List (Row Nm)} (n : Nat) (ha : LB H0 σ K ta r1) (hn : n ≤ 100) (hl : r1.length ≤ 100) : LB H0 σ K (tOp rRep ta (tC (.int (n : Int)))) (List.replicate n r1).flatten := fun H s Q q =>
  ha H s _ fun p vs H1 s1 e1 hr1 => by
    have l1 := rows_len hr1
    refine ⟨p, (n : Int), vs, rfl, rfl, e1, by omega, by omega, sl_le ?_, fun l hl => ?_⟩
    · rw [Int.toNat_natCast, l1]
      exact Nat.le_trans (Nat.mul_le_mul hl hn) (by decide)
    · rw [Int.toNat_natCast] at *
      have s3 := same_new (o := .lst (List.replicate n vs).flatten) hl
      exact q l _ _ (s1.trans s3) upd_same (RowsOf.to (TEx.of_same s3) (rows_reps hr1 n))
theorem arg_c {v : V} {tr : TA} {σ : L2.St} {H : Hp} {Q : List V → Hp → Prop} (h : tr σ H fun xs H' => Q (v :: xs) H') : tCons (tC v) tr σ H Q := h
theorem arg_e {te : TE} {tr : TA} {σ : L2.St} {H : Hp} {Q : List V → Hp → Prop} (h : te σ H fun x H1 => tr σ H1 fun xs H2 => Q (x :: xs) H2) : tCons te tr σ H Q := h
abbrev N__law_many_rows : List Str := ["more", "built", "powers", "leaf", "rows", "left", "back", "size", "turn", "k"]
theorem sc__law_many_rows : FnScope N__law_many_rows ["more"] (defScope s__law_many_rows) := ⟨rfl, rfl, rfl, by decide +kernel, rfl, by decide +kernel, by decide +kernel⟩
def spManyRows : Sp := fun vs H Q _ => ∃ (more : Nat), vs = [.int (more : Int)] ∧ more ≤ 1 ∧ ∀ (H' : Hp), Q (.bl true) H'
theorem ok_many_rows (T : Txt K mg) : FnOk P w K mg base CX0 33 T.f__law_many_rows T.fd__law_many_rows ["more"] spManyRows := by
  refine T.F__law_many_rows.ok sc__law_many_rows (fun vs H Q E h => ?_) (fun cdv A outer sh H vs Q E hr h => ?_)
  · obtain ⟨more, rfl, _⟩ := h
    rfl
  · obtain ⟨more, rfl, hmore, k⟩ := h
    have nd := sc__law_many_rows.nd
    have hu := hu_of hr
    have G__law_powers : FnOk P w K mg base CX0 1 T.f__law_powers T.fd__law_powers ["many"] spPowers := ok_powers T
    have G__law_tree : FnOk P w K mg base CX0 1 T.f__law_tree T.fd__law_tree ["built", "high", "leaf"] (spTree K) := ok_tree T
    have G__law_word : FnOk P w K mg base CX0 32 T.f__law_word T.fd__law_word ["built", "module", "name", "cells"] (spWord K) := ok_word T
    have G__law_alike : FnOk P w K mg base CX0 12 T.f__law_alike T.fd__law_alike ["told", "due"] (spAlike K 10) := ok_alike T 10
    have G_run : FnOk P w K mg base CX0 31 T.f_run T.fd_run ["built", "module", "name", "cells"] (spRunV K) := ok_runV T
    have hr__law_powers : Room 1 _ := hr.mono (by decide)
    have hr__law_tree : Room 1 _ := hr.mono (by decide)
    have hr__law_word : Room 32 _ := hr
    have hr__law_alike : Room 12 _ := hr.mono (by decide)
    have hr_run : Room 31 _ := hr.mono (by decide)
    refine ⟨_, (pss_cons (ps_set (i := 1) nd rfl (Or.inl rfl) pe_dnewT)
          (pss_cons (ps_set (i := 2) nd rfl (Or.inl rfl) (pe_call G__law_powers hr__law_powers rfl T.g__law_powers T.k__law_powers T.b__law_powers .nil pass0 (pa_cons pe_int pa_nil)))
          (pss_cons (ps_set (i := 3) nd rfl (Or.inl rfl) (pe_op op_cat (pe_op op_cat (pe_lst (pa_cons (pe_tup (pa_cons pe_str (pa_cons pe_int (pa_cons pe_int pa_nil)))) pa_nil)) (pe_op op_rep (pe_lst (pa_cons (pe_tup (pa_cons pe_str pa_nil)) (pa_cons (pe_tup (pa_cons pe_str (pa_cons pe_int pa_nil))) (pa_cons (pe_tup (pa_cons pe_str (pa_cons pe_int pa_nil))) pa_nil)))) pe_int)) (pe_op op_rep (pe_lst (pa_cons (pe_tup (pa_cons pe_str (pa_cons pe_int (pa_cons pe_int pa_nil)))) pa_nil)) pe_int)))
          (pss_cons (ps_set (i := 3) nd rfl (Or.inl rfl) (pe_op op_cat (pe_op op_cat (pv 3) (pe_lst (pa_cons (pe_tup (pa_cons pe_str (pa_cons pe_int (pa_cons pe_int pa_nil)))) (pa_cons (pe_tup (pa_cons pe_str (pa_cons pe_int pa_nil))) (pa_cons (pe_tup (pa_cons pe_str (pa_cons pe_int (pa_cons pe_int pa_nil)))) (pa_cons (pe_tup (pa_cons pe_str pa_nil)) pa_nil)))))) (pe_lst (pa_cons (pe_tup (pa_cons pe_str (pa_cons pe_int (pa_cons pe_int pa_nil)))) (pa_cons (pe_tup (pa_cons pe_str (pa_cons pe_int (pa_cons pe_int pa_nil)))) (pa_cons (pe_tup (pa_cons pe_str pa_nil)) (pa_cons (pe_tup (pa_cons pe_str pa_nil)) pa_nil)))))))
          (pss_cons (ps_expr (pe_call G__law_tree hr__law_tree rfl T.g__law_tree T.k__law_tree T.b__law_tree .nil pass0 (pa_cons (pv 1) (pa_cons pe_int (pa_cons (pe_op op_cat (pv 3) (pe_lst (pa_cons (pe_tup (pa_cons pe_str (pa_cons pe_int pa_nil))) (pa_cons (pe_tup (pa_cons pe_str pa_nil)) pa_nil)))) pa_nil)))))
          (pss_cons (ps_set (i := 4) nd rfl (Or.inl rfl) (pe_lst pa_nil))
          (pss_cons (ps_set (i := 5) nd rfl (Or.inl rfl) pe_int)
          (pss_cons (ps_for PassesOwn.never rfl (pi_range1 rfl T.z_range (pa_cons pe_int pa_nil)) (pg_name (i := 6) nd rfl (Or.inl rfl))
            (pss_cons (ps_set (i := 7) nd rfl (Or.inl rfl) (pe_op op_sub (pe_op op_mul pe_int (pe_ix ix_list (pv 2) (pe_op op_sub pe_int (pv 6)) (fun _ _ => rfl))) pe_int))
            (pss_one (ps_for PassesOwn.never rfl (pi_range1 rfl T.z_range (pa_cons pe_int pa_nil)) (pg_name (i := 8) nd rfl (Or.inl rfl))
              (pss_one (ps_if (pt_cmpR op_ge (pv 5) (pv 7) (nomark _))
                (pss_cons (ps_set (i := 5) nd rfl (Or.inl rfl) (pe_op op_sub (pv 5) (pv 7)))
                (pss_one (ps_expr (pe_bm PySem.F.plainAttrs_list PySem.F.slot_list_extend PySem.F.type_list_extend mt_extend (pv 4) (pa_cons (pe_lst (pa_cons (pe_tup (pa_cons pe_str (pa_cons pe_str (pa_cons (pe_op op_add_str pe_str (pe_callTy call_str_int (by rfl) T.z_str (by decide +kernel) (pa_cons (pe_op op_sub pe_int (pv 6)) pa_nil))) (pa_cons pe_int pa_nil))))) (pa_cons (pe_tup (pa_cons pe_str pa_nil)) pa_nil))) pa_nil)))))
                pss_nil))))))
          (pss_cons (ps_for PassesOwn.never rfl (pi_range1 rfl T.z_range (pa_cons (pe_op op_add (pv 5) (pv 0)) pa_nil)) (pg_name (i := 9) nd rfl (Or.inl rfl))
            (pss_one (ps_expr (pe_bm PySem.F.plainAttrs_list PySem.F.slot_list_append PySem.F.type_list_append mt_append (pv 4) (pa_cons (pe_tup (pa_cons pe_str (pa_cons (pe_op op_add (pe_callB call_len_seq (by rfl) T.z_len (by decide +kernel) (pa_cons (pv 4) pa_nil)) pe_int) pa_nil))) pa_nil)))))
          (pss_cons (ps_expr (pe_bm PySem.F.plainAttrs_list PySem.F.slot_list_extend PySem.F.type_list_extend mt_extend (pv 4) (pa_cons (pe_lst (pa_cons (pe_tup (pa_cons pe_str (pa_cons pe_int (pa_cons pe_int pa_nil)))) (pa_cons (pe_tup (pa_cons pe_str pa_nil)) pa_nil))) pa_nil)))
          (pss_cons (ps_dput hu (pv 1) (pe_tup (pa_cons pe_str (pa_cons pe_str pa_nil))) (pe_tup (pa_cons pe_int (pa_cons (pe_callTy call_tuple_of (by rfl) T.z_tuple (by decide +kernel) (pa_cons (pv 4) pa_nil)) pa_nil))) rfl)
          (pss_cons (ps_if (pt_cmpR op_eq (pv 0) pe_int (nomark _))
            (pss_one (ps_ret (pe_call G__law_alike hr__law_alike rfl T.g__law_alike T.k__law_alike T.b__law_alike .nil pass0 (pa_cons (pe_call G_run hr_run rfl T.g_run T.k_run T.b_run .nil pass0 (pa_cons (pv 1) (pa_cons pe_str (pa_cons pe_str (pa_cons (pe_tup pa_nil) pa_nil))))) (pa_cons (pe_tup (pa_cons pe_int (pa_cons (pe_tup pa_nil) pa_nil))) pa_nil)))))
            pss_nil)
          (pss_one (ps_ret (pe_cmpR op_eq (pe_call G__law_word hr__law_word rfl T.g__law_word T.k__law_word T.b__law_word .nil pass0 (pa_cons (pv 1) (pa_cons pe_str (pa_cons pe_str (pa_cons (pe_tup pa_nil) pa_nil))))) pe_str (nomark _)))))))))))))))), ?_⟩
    refine fun d hd => ?_
    have hB0 : DictAt K (upd H d (.dT [])) d 0 [] (fun _ => none) := none_dict upd_same
    generalize upd H d (.dT []) = H1 at *
    refine ⟨15, rfl, by decide, fun pw H2 hpw s2 epw => ?_⟩
    have hB2 := hB0.same s2
    try dsimp only [gName, tSeq, tAsg]
    refine (lb_cat (lb_cat (lb_lst (rs := [.make 6 0]) (rls_cons (rb_tup fun _ _ q => q) rls_nil) (by simp)) (lb_rep 4 (lb_lst (rs := three) (rls_cons (rb_tup fun _ _ q => q) (rls_cons (rb_tup fun _ _ q => q) (rls_cons (rb_tup fun _ _ q => q) rls_nil))) (by simp [three])) (by decide) (by simp [three])) (by simp [three])) (lb_rep 5 (lb_lst (rs := [.isr 6 0]) (rls_cons (rb_tup fun _ _ q => q) rls_nil) (by simp)) (by decide) (by simp)) (by simp [three]) : LB (K := K) H2 _ _ _) H2 (Same.refl _) _ fun lf1 lv1 H3 s3 elf1 hlf1 => ?_
    try dsimp only [gName, tSeq, tAsg]
    refine (lb_cat (lb_cat (lb_var (i := 3) (by rfl) elf1 hlf1) (lb_lst (rs := [.make 2 1, .part 0, .make 1 0, .drop]) (rls_cons (rb_tup fun _ _ q => q) (rls_cons (rb_tup fun _ _ q => q) (rls_cons (rb_tup fun _ _ q => q) (rls_cons (rb_tup fun _ _ q => q) rls_nil)))) (by simp)) (by simp [three])) (lb_lst (rs := [.make 1 0, .make 1 0, .same, .drop]) (rls_cons (rb_tup fun _ _ q => q) (rls_cons (rb_tup fun _ _ q => q) (rls_cons (rb_tup fun _ _ q => q) (rls_cons (rb_tup fun _ _ q => q) rls_nil)))) (by simp)) (by simp [three]) : LB (K := K) H3 _ _ _) H3 (Same.refl _) _ fun lf2 lv2 H4 s4 elf2 hlf2 => ?_
    have hB4 := (hB2.same s3).same s4
    have epw4 := s4 _ _ (s3 _ _ epw)
    try dsimp only [gName, tSeq, tAsg]
    refine ⟨_, rfl, ?_⟩
    refine arg_c (arg_e ?_)
    refine (lb_cat (lb_var (i := 3) (by rfl) elf2 hlf2) (lb_lst (rs := [.go 27, .back]) (rls_cons (rb_tup fun _ _ q => q) (rls_cons (rb_tup fun _ _ q => q) rls_nil)) (by simp)) (by simp [three]) : LB (K := K) H4 _ _ _) H4 (Same.refl _) _ fun lf lv H5a s5a elf hlf => ?_
    have hB5a := hB4.same s5a
    have hlf' : RowsOf K H5a lv leaf28 := hlf
    refine ⟨d, lf, 14, 0, [], _, lv, leaf28, rfl, hB5a, elf, hlf', by decide, by decide, by simp [leaf28, three], fun H5 kvs5 b5 hB5 => ?_⟩
    have npd : pw ≠ d := ne_of (s5a _ _ epw4) hB5a.at_ (by intro z; cases z)
    have epw5 := b5 _ _ (s5a _ _ epw4) npd
    try dsimp only [gName, tSeq, tAsg]
    refine ⟨Nat.zero_le _, fun rl hrl => ?_⟩
    have sz0 : ∀ k : Nat, 1 ≤ 2 ^ k := fun k => Nat.one_le_two_pow
    refine ⟨_, rfl, by decide, by decide, for_range (lo := 0) (n := 15) (fun n σ H' => ∃ (x5 x6 x7 : Option V) (rv : List V), σ = [some (.int (more : Int)), some (.ref d), some (.ref pw), some (.ref lf2), some (.ref rl), some (.int ((greedy (fun k => 32 * 2 ^ k - 2) 14 999998 n).1 : Int)), x5, x6, x7, none] ∧ Same H5 H' ∧ H' rl = some (.lst rv) ∧
        RowsOf K H' rv (ksRows (greedy (fun k => 32 * 2 ^ k - 2) 14 999998 n).2) ∧ (greedy (fun k => 32 * 2 ^ k - 2) 14 999998 n).2.length ≤ 2 * n) ⟨none, none, none, [], rfl, same_new hrl, upd_same, .nil, by simp [greedy]⟩ ?_ ?_⟩
    · rintro n σ H' hn ⟨x5, x6, x7, rv, rfl, sm, erl, hrv, hlen⟩
      have p1 := sz0 (14 - n)
      have ea : atI (powV 16) ((14 : Int) - (0 + (n : Int))) = some (V.int ((2 ^ (14 - n) : Nat) : Int)) := by
        rw [show (14 : Int) - (0 + (n : Int)) = ((14 - n : Nat) : Int) by omega]
        exact atI_nat (powV_at (by omega))
      try dsimp only [gName, tSeq, tAsg]
      refine ⟨_, rfl, _, rfl, _, _, rfl, rfl, pw, _, _, _, rfl, rfl, SqL.of (sm _ _ epw5), ea, _, _, rfl, rfl, .inl ⟨by decide, by decide⟩, _, _, rfl, rfl, ?_⟩
      have es : (32 : Int) * ((2 ^ (14 - n) : Nat) : Int) - 2 = ((32 * 2 ^ (14 - n) - 2 : Nat) : Int) := by omega
      try dsimp only [gName, tSeq, tAsg]
      rw [es]
      refine ⟨_, rfl, by decide, by decide, for_range (lo := 0) (n := 2) (fun t σ H' => ∃ (x7 : Option V) (rv : List V), σ = [some (.int (more : Int)), some (.ref d), some (.ref pw), some (.ref lf2), some (.ref rl), some (.int ((iterG (32 * 2 ^ (14 - n) - 2) (14 - n) (greedy (fun k => 32 * 2 ^ k - 2) 14 999998 n) t).1 : Int)), some (.int (0 + (n : Int))), some (.int ((32 * 2 ^ (14 - n) - 2 : Nat) : Int)), x7, none] ∧
          Same H5 H' ∧ H' rl = some (.lst rv) ∧ RowsOf K H' rv (ksRows (iterG (32 * 2 ^ (14 - n) - 2) (14 - n) (greedy (fun k => 32 * 2 ^ k - 2) 14 999998 n) t).2) ∧ (iterG (32 * 2 ^ (14 - n) - 2) (14 - n) (greedy (fun k => 32 * 2 ^ k - 2) 14 999998 n) t).2.length ≤ 2 * n + t)
        ⟨_, rv, rfl, sm, erl, hrv, hlen⟩ ?_ ?_⟩
      · rintro t σ H6 ht ⟨x7, rv6, rfl, sm6, erl6, hrv6, hlen6⟩
        have hl2 := turnG_len (size := 32 * 2 ^ (14 - n) - 2) (k := 14 - n) hlen6
        generalize hg : iterG (32 * 2 ^ (14 - n) - 2) (14 - n) (greedy (fun k => 32 * 2 ^ k - 2) 14 999998 n) t = g at *
        have hg1 : iterG (32 * 2 ^ (14 - n) - 2) (14 - n) (greedy (fun k => 32 * 2 ^ k - 2) 14 999998 n) (t + 1) = turnG (32 * 2 ^ (14 - n) - 2) (14 - n) g := by rw [← hg]; rfl
        refine ⟨_, rfl, _, rfl, _, _, rfl, rfl, _, rfl, ?_⟩
        refine ite2 (fun z => ?_) (fun z => ?_)
        · have z2 : ((32 * 2 ^ (14 - n) - 2 : Nat) : Int) ≤ (g.1 : Int) := of_decide_eq_true z
          have z3 : 32 * 2 ^ (14 - n) - 2 ≤ g.1 := by omega
          have ht' : turnG (32 * 2 ^ (14 - n) - 2) (14 - n) g = (g.1 - (32 * 2 ^ (14 - n) - 2), g.2 ++ [14 - n]) := if_pos z3
          refine ⟨_, rfl, _, rfl, _, _, rfl, rfl, ?_⟩
          try dsimp only [gName, tSeq, tAsg]
          refine ext_rows (K := K) (i := 4) (rs2 := [.call (tn (14 - n)) 0, .drop]) (by rfl) erl6 hrv6 ?_ (by rw [ksRows_len]; omega) (by simp) fun H7 rv7 b7 erl7 hrv7 => ?_
          · refine rls_cons (rb_tup fun H Q q => ?_) (rls_cons (rb_tup fun _ _ q => q) rls_nil)
            dsimp only [tCons, tNil, tC]
            exact nm_read (c := "t") (ti := tOp (rI0 fun i j => .int (i - j)) (tC (.int 14)) (tVar 6)) (i := (14 : Int) - (0 + (n : Int))) (k := 14 - n) (by omega) (by omega) (by decide) (fun Q q => ⟨_, rfl, _, _, rfl, rfl, q⟩) q
          · refine ⟨some (.int (0 + (t : Int))), rv7, ?_, same_but1 sm6 hrl b7, erl7, ?_, ?_⟩
            · rw [hg1, ht', show (g.1 : Int) - ((32 * 2 ^ (14 - n) - 2 : Nat) : Int) = ((g.1 - (32 * 2 ^ (14 - n) - 2) : Nat) : Int) by omega]
              rfl
            · rw [hg1, ht', ksRows_snoc]; exact hrv7
            · rw [hg1]; omega
        · have z2 : ¬ ((32 * 2 ^ (14 - n) - 2 : Nat) : Int) ≤ (g.1 : Int) := fun q => z (decide_eq_true q)
          have ht' : turnG (32 * 2 ^ (14 - n) - 2) (14 - n) g = g := if_neg (by omega)
          exact ⟨some (.int (0 + (t : Int))), rv6, by rw [hg1, ht']; rfl, sm6, erl6, by rw [hg1, ht']; exact hrv6, by rw [hg1, ht']; omega⟩
      · rintro σ H6 ⟨x7, rv6, rfl, sm6, erl6, hrv6, hlen6⟩
        exact ⟨_, _, _, rv6, rfl, sm6, erl6, hrv6, by exact hlen6⟩
    · rintro σ H6 ⟨x5, x6, x7, rv, rfl, sm, erl, hrv, hlen⟩
      rw [greedy_rows] at hrv ⊢
      have lk : (ksRows rowKs).length = 2 * rowKs.length := ksRows_len _
      have lk2 : rowKs.length = 7 := rfl
      have hB5' : DictAt K H5 d 15 kvs5 (treeB (fun _ => none) leaf28 14) := hB5
      refine ⟨_, rfl, _, rfl, _, _, rfl, rfl, _, rfl, (by show -(2 ^ 62) ≤ (12 : Int) + (more : Int); omega), (by show (12 : Int) + (more : Int) < 2 ^ 62; omega), for_range (lo := 0) (n := _) (fun j σ H' => ∃ (x6 x7 x8 x9 : Option V) (rv : List V), σ = [some (.int (more : Int)), some (.ref d), some (.ref pw), some (.ref lf2), some (.ref rl), some (.int 12), x6, x7, x8, x9] ∧ Same H5 H' ∧ H' rl = some (.lst rv) ∧ RowsOf K H' rv (ksRows rowKs ++ goRows (2 * rowKs.length) j))
        ⟨_, _, _, _, rv, rfl, sm, erl, by rw [show goRows (2 * rowKs.length) 0 = [] from rfl, List.append_nil]; exact hrv⟩ ?_ ?_⟩
      · rintro j σ H6 hj ⟨y6, y7, y8, y9, rv6, rfl, sm6, erl6, hrv6⟩
        have hj2 : j < 20 := by
          have : (((12 : Int) + (more : Int)).toNat) ≤ 13 := by omega
          have h3 : j < ((12 : Int) + (more : Int)).toNat := hj
          omega
        have lr := rows_len hrv6
        rw [List.length_append, goRows_len, lk] at lr
        have el : ((rv6.length : Nat) : Int) + 1 = ((2 * rowKs.length + j + 1 : Nat) : Int) := by omega
        refine app_row (K := K) (i := 4) (r := .go (2 * rowKs.length + j + 1)) (by rfl) erl6 hrv6 (fun H7 s7 Q q => ?_) (by rw [List.length_append, goRows_len, lk]; omega) fun H8 rv8 b8 erl8 hrv8 => ?_
        · refine ⟨_, rfl, rl, rv6, rfl, .inl (SqL.of (s7 _ _ erl6)), _, _, rfl, rfl, sl_le (by show 2 ≤ 10000000; decide), fun p hp => q _ _ (same_new hp) ⟨p, rfl, SqT.of ?_⟩⟩
          rw [upd_same]
          show some (HO.tup [V.str "go", V.int (((rv6.length : Nat) : Int) + 1)]) = some (.tup [.str "go", .int _])
          rw [el]
        · exact ⟨_, _, _, _, rv8, rfl, same_but1 sm6 hrl b8, erl8, by rw [goRows_succ, ← List.append_assoc]; exact hrv8⟩
      · rintro σ H7 ⟨y6, y7, y8, y9, rv7, rfl, sm7, erl7, hrv7⟩
        have en : ((((12, rowKs) : Nat × List Nat).1 : Int) + (more : Int)).toNat = 12 + more := by show ((12 : Int) + (more : Int)).toNat = _; omega
        rw [en] at hrv7
        refine ext_rows (K := K) (i := 4) (rs2 := [.make 8 0, .back]) (by rfl) erl7 hrv7 (rls_cons (rb_tup fun _ _ q => q) (rls_cons (rb_tup fun _ _ q => q) rls_nil)) (by rw [List.length_append, goRows_len, lk]; omega) (by simp) fun H8 rv8 b8 erl8 hrv8 => ?_
        rw [List.append_assoc] at hrv8
        have hrv8' : RowsOf K H8 rv8 (rowsAll more) := hrv8
        have sm8 := same_but1 sm7 hrl b8
        have hB8 := hB5'.same sm8
        try dsimp only [gName, tSeq, tAsg]
        have lt : (rowsAll more).length ≤ 100 := by
          unfold rowsAll
          rw [List.length_append, List.length_append, goRows_len, lk]
          simp
          omega
        refine put_dict (i := 1) (mo := "Ma") (na := "all") (by rfl) hB8 (by decide) (db_tup (g := 0) rfl (rs_of (i := 4) (by rfl) erl8 hrv8')) fun H9 kvs9 b9 hB9 => ?_
        have hB9' : DictAt K H9 d 16 kvs9 (rowsB more) := hB9
        have hruns := runs_rows hmore
        refine ⟨_, rfl, rfl, _, rfl, ?_⟩
        refine ite2 (fun z => ?_) (fun z => ?_)
        · have z2 : more = 0 := by have q := of_decide_eq_true z; injection q with q; omega
          subst z2
          refine ⟨_, rfl, Nat.zero_le _, fun e1 he1 => ?_⟩
          have t1 := same_new (o := .tup []) he1
          have hB10 := hB9'.same t1
          refine ⟨d, e1, kvs9, rowsB 0, "Ma", "all", [], [], .mk 8 [], rfl, hB10.at_, hB10.built, SqT.of upd_same, cells_nil.mpr rfl, hruns, by simp, fun u H10 s10 hu10 => ?_⟩
          refine ⟨Nat.zero_le _, fun e2 he2 => ⟨sl_le (by show 2 ≤ 10000000; decide), fun e3 he3 => ?_⟩⟩
          have t2 := same_new (o := .tup []) he2
          have t3 := same_new (o := .tup [.int 8, .ref e2]) he3
          refine ⟨u, .ref e3, rfl, tw_cell 5 (c := .mk 8 []) (by simp [Cell.depth, depths]) (by simp [Cell.size, sizes]) (hu10.to (TEx.of_same (t2.trans t3))) (cellAt_mk.mpr ⟨e3, e2, [], rfl, SqT.of upd_same, SqT.of (t3 _ _ upd_same), cells_nil.mpr rfl⟩), fun H11 s11 => k H11⟩
        · have z2 : ¬ more = 0 := fun q => z (by rw [q]; rfl)
          have z3 : more = 1 := by omega
          refine ⟨_, rfl, Nat.zero_le _, fun e1 he1 => ?_⟩
          have t1 := same_new (o := .tup []) he1
          have hB10 := hB9'.same t1
          refine ⟨d, e1, kvs9, rowsB more, "Ma", "all", [], [], rowsOut more, rfl, hB10.at_, hB10.built, SqT.of upd_same, cells_nil.mpr rfl, hruns, by simp, fun H10 s10 => ?_⟩
          have ew : wordOf (rowsOut more) = "TooLong" := by rw [z3]; rfl
          refine ⟨rfl, ?_⟩
          rw [ew, decide_eq_true rfl]
          exact k _
end
end K90

set_option Elab.async false
set_option linter.all false
set_option maxRecDepth 100000
set_option maxHeartbeats 4000000
/-! tuple * int for every small int. -/
namespace Tm
open PySem PySem.Spec PyProof.Rows L2
theorem mul_one (l : Addr) (items : Array Value) (n : Nat) (dd : Option Addr) (sl : Array (Option Value)) (u : Tok) :
    Meets (Builtin.«tuple.__mul__» ⟨[.ref l, .int 1 u], []⟩) (fun _ R s => s.heap.get? l = some { cls := .type "tuple", dict := dd, data := .seq items n, slots := sl } ∧ R (.ok (.ret (Value.ref l))) s) :=
  .of_wp fun prog w A R s h => by
    obtain ⟨hp, g, d, tk, os⟩ := s
    obtain ⟨hl, h⟩ := h
    have f1 := AutoSeq1.idx_int
    wp_walk using wpAny_loadPart' hl
    exact ⟨_, rfl, h⟩
theorem mul_zero (l : Addr) (items : Array Value) (n : Nat) (dd : Option Addr) (sl : Array (Option Value)) (u : Tok) (he : items.isEmpty = false) :
    Meets (Builtin.«tuple.__mul__» ⟨[.ref l, .int 0 u], []⟩) (fun _ R s => s.heap.get? l = some { cls := .type "tuple", dict := dd, data := .seq items n, slots := sl } ∧
      R (.ok (.ret (Value.ref s.heap.objs.size))) { s with heap := s.heap.push { cls := Value.type "tuple", data := Data.seq #[] } }) :=
  .of_wp fun prog w A R s h => by
    obtain ⟨hp, g, d, tk, os⟩ := s
    obtain ⟨hl, h⟩ := h
    have f1 := AutoSeq1.idx_int
    wp_walk using wpAny_loadPart' hl
    exact ⟨_, rfl, h⟩
def rRepA (K : PySem.W.Frag) : R2 := fun x y H Q => ∃ l k xs, x = .ref l ∧ y = .int k ∧ SqT K H l xs ∧ xs ≠ [] ∧ 0 ≤ k ∧ k ≤ 1000 ∧ xs.length ≤ 1000 ∧
  ∀ (r : Addr) (H' : Hp), Same H H' → SqT K H' r (List.replicate k.toNat xs).flatten → Q (.ref r) H'
theorem op_repA {X : Cx} : OpR X (binaryOp .Mult) (rRepA X.K) := by
  intro pins s σ H x y v u Q I rx ry h
  obtain ⟨l, k, xs, rfl, rfl, hT, hne, h1, h2, hz, q⟩ := h
  by_cases hk : 2 ≤ k
  · refine op_repT pins s σ H _ _ v u Q I rx ry ⟨l, k, xs, rfl, rfl, hT, hne, hk, h2, hz, fun p hp => q p _ (fun b o e => ?_) (SqT.of upd_same)⟩
    rw [upd_ne (ne_of_none e hp)]
    exact e
  · cases rx
    obtain ⟨t, rfl⟩ := ry
    obtain ⟨its, r, ⟨⟨cls, dd, data, sl⟩, ho, hc, n, hd⟩, hs⟩ := I.tuple hT
    dsimp only at hc hd
    subst hc hd
    have hemp : its.toArray.isEmpty = false := by
      have hl := r.length
      cases its with
      | nil => exact absurd (List.eq_nil_of_length_eq_zero hl) hne
      | cons a b => rfl
    have isT : s.TypeIs (.ref l) "tuple" := ⟨_, ho, rfl⟩
    refine wpAny_binaryOp_repeat_ref (T := "tuple") (U := "int") (by decide) isT (fun s' => typeIs_int s' k t) noFill_tuple_mul
      F.fills_int_mul F.slot_int_rmul repeat_tuple F.slot_int_index.lookup ?_
    refine call_meets F.slot_int_rmul (typeIs_int s k t) F.entry_int_rmul (F.args_int_rmul_2 _ _)
      (int_rmul_tuple k t l its.toArray n dd sl) ⟨ho, rfl, isT, ?_⟩
    rcases (show k = 0 ∨ k = 1 by omega) with rfl | rfl
    · refine call_meets F.slot_tuple_mul isT F.entry_tuple_mul (F.args_tuple_mul_2 _ _)
        (mul_zero l its.toArray n dd sl t hemp) ⟨ho, ?_⟩
      have fresh : H s.heap.objs.size = none := I.hok.fresh (Nat.le_refl _)
      refine ⟨.ref s.heap.objs.size, _, I.laid (t' := s.toks) (o := .tup []) (fun b ob z => Heap.get?_push_of_some _ z) (Nat.le_refl _) ?_, rfl, q _ _ (fun b o e => ?_) (SqT.of upd_same)⟩
      · exact ⟨Nat.zero_le _, [], .nil, IsTup.new _ _⟩
      · rw [upd_ne (ne_of_none e fresh)]; exact e
    · refine call_meets F.slot_tuple_mul isT F.entry_tuple_mul (F.args_tuple_mul_2 _ _)
        (mul_one l its.toArray n dd sl t) ⟨ho, ?_⟩
      refine ⟨.ref l, H, I, rfl, q l H (fun b o e => e) ?_⟩
      have e : (List.replicate (1 : Int).toNat xs).flatten = xs := by simp
      rw [e]
      exact hT
end Tm

set_option Elab.async false
set_option linter.all false
set_option maxRecDepth 100000
set_option maxHeartbeats 4000000
namespace K90
open PySem PySem.Spec PyProof.Rows L2 Ru Rp Mch
theorem cells_reps {K : PySem.W.Frag} {H : Hp} {v : V} {c : Cell} (h : CellAt K H v c) : ∀ n : Nat, CellsAt K H (List.replicate n [v]).flatten (List.replicate n c)
  | 0 => cells_nil.mpr rfl
  | n + 1 => by
    rw [List.replicate_succ, List.replicate_succ, List.flatten_cons]
    exact cells_cons.mpr ⟨v, _, rfl, h, cells_reps h n⟩
def partC (a : Int) : Cell := .mk 3 (List.replicate 50 (.mk a []))
def wideC (a : Int) (size : Nat) : Cell := .mk a ([partC a, .mk 1 [partC a]] ++ List.replicate (size - 104) (.mk 0 []))
theorem sizes_rep (n : Nat) (c : Cell) : sizes (List.replicate n c) = n * c.size := by
  induction n with
  | zero => simp [sizes]
  | succ n ih => rw [List.replicate_succ, sizes, ih, Nat.succ_mul]; omega
theorem wide_size (a : Int) {size : Nat} (h : 104 ≤ size) : (wideC a size).size = size := by
  have e : (partC a).size = 51 := by simp [partC, Cell.size, sizes_rep, sizes]
  unfold wideC
  simp only [Cell.size, sizes_append, sizes, sizes_rep, e]
  omega
theorem depths_rep (n : Nat) (c : Cell) : depths (List.replicate n c) ≤ c.depth := depths_le fun d hd => by rw [(List.mem_replicate.mp hd).2]; exact Nat.le_refl _
theorem wide_depth (a : Int) (size : Nat) : (wideC a size).depth ≤ 5 := by
  have e : (partC a).depth ≤ 2 := by
    have := depths_rep 50 (.mk a [])
    simp only [partC, Cell.depth, depths] at this ⊢
    omega
  have e2 := depths_rep (size - 104) (.mk 0 [])
  unfold wideC
  simp only [Cell.depth, depths_append, depths] at e2 ⊢
  omega
section
variable {P : Program} {w : World} {K : PySem.W.Frag} {mg : Str → Option Value} {base : Heap}
abbrev N__law_wide : List Str := ["a", "size", "part"]
theorem sc__law_wide : FnScope N__law_wide ["a", "size"] (defScope s__law_wide) := ⟨rfl, rfl, rfl, by decide +kernel, rfl, by decide +kernel, by decide +kernel⟩
def spWide (K : PySem.W.Frag) : Sp := fun vs H Q _ => ∃ (a : Int) (size : Nat), vs = [.int a, .int (size : Int)] ∧ 106 ≤ size ∧ size ≤ 300 ∧ ∀ (v : V) (H' : Hp), Same H H' → CellAt K H' v (wideC a size) → Q v H'
theorem ok_wide (T : Txt K mg) : FnOk P w K mg base CX0 1 T.f__law_wide T.fd__law_wide ["a", "size"] (spWide K) := by
  refine T.F__law_wide.ok sc__law_wide (fun vs H Q E h => ?_) (fun cdv A outer sh H vs Q E hr h => ?_)
  · obtain ⟨a, size, rfl, _⟩ := h
    rfl
  · obtain ⟨a, size, rfl, hs1, hs2, k⟩ := h
    have nd := sc__law_wide.nd
    refine ⟨_, (pss_cons (ps_set (i := 2) nd rfl (Or.inl rfl) (pe_tup (pa_cons pe_int (pa_cons (pe_op Tm.op_repA (pe_tup (pa_cons (pe_tup (pa_cons (pv 0) (pa_cons (pe_tup pa_nil) pa_nil))) pa_nil)) pe_int) pa_nil))))
          (pss_one (ps_ret (pe_tup (pa_cons (pv 0) (pa_cons (pe_op op_catA (pe_tup (pa_cons (pv 2) (pa_cons (pe_tup (pa_cons pe_int (pa_cons (pe_tup (pa_cons (pv 2) pa_nil)) pa_nil))) pa_nil))) (pe_op Tm.op_repA (pe_tup (pa_cons (pe_tup (pa_cons pe_int (pa_cons (pe_tup pa_nil) pa_nil))) pa_nil)) (pe_op op_sub (pv 1) pe_int))) pa_nil)))))), ?_⟩
    refine ⟨_, rfl, Nat.zero_le _, fun p1 hp1 => ⟨sl_le (by show 2 ≤ 10000000; decide), fun p2 hp2 => ⟨sl_le (by show 1 ≤ 10000000; decide), fun p3 hp3 => ?_⟩⟩⟩
    have y1 := same_new (o := .tup []) hp1
    have y2 := same_new (o := .tup [.int a, .ref p1]) hp2
    have y3 := same_new (o := .tup [.ref p2]) hp3
    have ca : CellAt K (upd (upd (upd H p1 (.tup [])) p2 (.tup [.int a, .ref p1])) p3 (.tup [.ref p2])) (.ref p2) (.mk a []) := cellAt_mk.mpr ⟨p2, p1, [], rfl, SqT.of (y3 _ _ upd_same), SqT.of (y3 _ _ (y2 _ _ upd_same)), cells_nil.mpr rfl⟩
    have e3 := upd_same (H := upd (upd H p1 (.tup [])) p2 (.tup [.int a, .ref p1])) (a := p3) (o := .tup [.ref p2])
    have s3 := (y1.trans y2).trans y3
    generalize upd (upd (upd H p1 (.tup [])) p2 (.tup [.int a, .ref p1])) p3 (.tup [.ref p2]) = H3 at *
    refine ⟨p3, 50, [.ref p2], rfl, rfl, SqT.of e3, by simp, by decide, by decide, by simp, fun r4 H4 s4 hr4 => ⟨sl_le (by show 2 ≤ 10000000; decide), fun p5 hp5 => ?_⟩⟩
    have s5 := same_new (o := .tup [.int 3, .ref r4]) hp5
    have cp : CellAt K (upd H4 p5 (.tup [.int 3, .ref r4])) (.ref p5) (partC a) :=
      cellAt_mk.mpr ⟨p5, r4, _, rfl, SqT.of upd_same, (TEx.of_same s5).sq hr4, cells_reps (ca.to (TEx.of_same (s4.trans s5))) 50⟩
    have u5 := (s3.trans s4).trans s5
    generalize upd H4 p5 (.tup [.int 3, .ref r4]) = H5 at *
    refine ⟨_, rfl, _, rfl, _, rfl, sl_le (by show 1 ≤ 10000000; decide), fun q1 hq1 => ⟨sl_le (by show 2 ≤ 10000000; decide), fun q2 hq2 => ⟨sl_le (by show 2 ≤ 10000000; decide), fun q3 hq3 => ?_⟩⟩⟩
    have z1 := same_new (o := .tup [.ref p5]) hq1
    have z2 := same_new (o := .tup [.int 1, .ref q1]) hq2
    have z3 := same_new (o := .tup [.ref p5, .ref q2]) hq3
    have z123 := (z1.trans z2).trans z3
    have cs2 : CellsAt K (upd (upd (upd H5 q1 (.tup [.ref p5])) q2 (.tup [.int 1, .ref q1])) q3 (.tup [.ref p5, .ref q2])) [.ref p5, .ref q2] [partC a, .mk 1 [partC a]] :=
      cells_cons.mpr ⟨_, _, rfl, cp.to (TEx.of_same z123), cells_one (cellAt_mk.mpr ⟨q2, q1, _, rfl, SqT.of (z3 _ _ upd_same), SqT.of (z3 _ _ (z2 _ _ upd_same)), cells_one (cp.to (TEx.of_same z123))⟩)⟩
    have eq3 := upd_same (H := upd (upd H5 q1 (.tup [.ref p5])) q2 (.tup [.int 1, .ref q1])) (a := q3) (o := .tup [.ref p5, .ref q2])
    generalize upd (upd (upd H5 q1 (.tup [.ref p5])) q2 (.tup [.int 1, .ref q1])) q3 (.tup [.ref p5, .ref q2]) = H6 at *
    refine ⟨Nat.zero_le _, fun p1' hp1' => ⟨sl_le (by show 2 ≤ 10000000; decide), fun p2' hp2' => ⟨sl_le (by show 1 ≤ 10000000; decide), fun p3' hp3' => ?_⟩⟩⟩
    have y1' := same_new (o := .tup []) hp1'
    have y2' := same_new (o := .tup [.int 0, .ref p1']) hp2'
    have y3' := same_new (o := .tup [.ref p2']) hp3'
    have c0 : CellAt K (upd (upd (upd H6 p1' (.tup [])) p2' (.tup [.int 0, .ref p1'])) p3' (.tup [.ref p2'])) (.ref p2') (.mk 0 []) := cellAt_mk.mpr ⟨p2', p1', [], rfl, SqT.of (y3' _ _ upd_same), SqT.of (y3' _ _ (y2' _ _ upd_same)), cells_nil.mpr rfl⟩
    have e3' := upd_same (H := upd (upd H6 p1' (.tup [])) p2' (.tup [.int 0, .ref p1'])) (a := p3') (o := .tup [.ref p2'])
    have s3' := (y1'.trans y2').trans y3'
    generalize upd (upd (upd H6 p1' (.tup [])) p2' (.tup [.int 0, .ref p1'])) p3' (.tup [.ref p2']) = H7 at *
    refine ⟨_, rfl, _, _, rfl, rfl, p3', (size : Int) - 104, [.ref p2'], rfl, rfl, SqT.of e3', by simp, by omega, by omega, by simp, fun r8 H8 s8 hr8 => ?_⟩
    have en : ((size : Int) - 104).toNat = size - 104 := by omega
    rw [en] at hr8
    refine cat_any ((TEx.of_same (s3'.trans s8)).sq (SqT.of eq3)) hr8 (by simp; omega) fun r9 H9 s9 hr9 => ⟨sl_le (by show 2 ≤ 10000000; decide), fun p9 hp9 => ?_⟩
    have s10 := same_new (o := .tup [.int a, .ref r9]) hp9
    refine k (.ref p9) _ ((((((u5.trans z123).trans s3').trans s8).trans s9)).trans s10) (cellAt_mk.mpr ⟨p9, r9, _, rfl, SqT.of upd_same, (TEx.of_same s10).sq hr9, cells_append (cs2.to (TEx.of_same (((s3'.trans s8).trans s9).trans s10))) (cells_reps (c0.to (TEx.of_same ((s8.trans s9).trans s10))) (size - 104))⟩)
end
end K90

set_option Elab.async false
set_option linter.all false
set_option maxRecDepth 100000
set_option maxHeartbeats 4000000
namespace K90
open PySem PySem.Spec PyProof.Rows L2 Ru Rp Mch
def maybeRows (a : Int) : List (Row Nm) := [.loc 0, .isr a 4, .call ("Other", "lack") 0, .back, .back]
def shortRows (a : Int) (b : Nat) : List (Row Nm) := if b % 2 = 1 then [.loc 0, .isr a 6, .loc 0, .loc 0, .call ("Ma", "two") 3, .back, .back] else [.loc 0, .isr a 4, .call ("Ma", "two") 1, .back, .back]
def growRows (b : Nat) (n : Int) : List (Row Nm) := if b % 2 = 1 then [.loc 0, .make 1 0, .make n 2, .back] else [.loc 0, .make n 1, .back]
def handsRows (b : Nat) : List (Row Nm) := [.loc (b % (1 + b % 3)), .back]
def wasteRows (a n : Int) : List (Row Nm) := [.loc 0, .make n 1, .drop, .make a 0, .back]
def pastRows (a : Int) : List (Row Nm) := [.loc 0, .call ("Ma", "grow") 1, .drop, .make a 0, .back]
def usersB (B : Built Nm) (a : Int) (b : Nat) (n : Int) : Built Nm :=
  Bset (Bset (Bset (Bset (Bset (Bset (Bset B ("Ma", "two") (2, [.loc 1, .loc 0, .make 2 2, .back])) ("Ma", "maybe") (1, maybeRows a)) ("Ma", "short") (1, shortRows a b)) ("Ma", "grow") (1, growRows b n)) ("Ma", "hands") (1 + b % 3, handsRows b))
    ("Ma", "waste") (1, wasteRows a n)) ("Ma", "past") (1, pastRows a)
section
variable {P : Program} {w : World} {K : PySem.W.Frag} {mg : Str → Option Value} {base : Heap}
abbrev N__law_users : List Str := ["built", "a", "b", "number", "rows"]
theorem sc__law_users : FnScope N__law_users ["built", "a", "b", "number"] (defScope s__law_users) := ⟨rfl, rfl, rfl, by decide +kernel, rfl, by decide +kernel, by decide +kernel⟩
def spUsers (K : PySem.W.Frag) : Sp := fun vs H Q _ => ∃ (d : Addr) (a b number n : Nat) (kvs : List (List Key × V)) (B : Built Nm), vs = [.ref d, .int (a : Int), .int (b : Int), .int (number : Int)] ∧ DictAt K H d n kvs B ∧ n ≤ 90000 ∧
  ∀ (H' : Hp) (kvs' : List (List Key × V)), But1 H H' d → DictAt K H' d (n + 7) kvs' (usersB B a b number) → Q .non H'
theorem ok_users (T : Txt K mg) : FnOk P w K mg base CX0 1 T.f__law_users T.fd__law_users ["built", "a", "b", "number"] (spUsers K) := by
  refine T.F__law_users.ok sc__law_users (fun vs H Q E h => ?_) (fun cdv A outer sh H vs Q E hr h => ?_)
  · obtain ⟨d, a, b, number, n, kvs, B, rfl, _⟩ := h
    rfl
  · obtain ⟨d, a, b, number, n, kvs, B, rfl, hB, hn, k⟩ := h
    have nd := sc__law_users.nd
    have hu := hu_of hr
    refine ⟨_, (pss_cons (ps_dput hu (pv 0) (pe_tup (pa_cons pe_str (pa_cons pe_str pa_nil))) (pe_tup (pa_cons pe_int (pa_cons (pe_tup (pa_cons (pe_tup (pa_cons pe_str (pa_cons pe_int pa_nil))) (pa_cons (pe_tup (pa_cons pe_str (pa_cons pe_int pa_nil))) (pa_cons (pe_tup (pa_cons pe_str (pa_cons pe_int (pa_cons pe_int pa_nil)))) (pa_cons (pe_tup (pa_cons pe_str pa_nil)) pa_nil))))) pa_nil))) rfl)
          (pss_cons (ps_set (i := 4) nd rfl (Or.inl rfl) (pe_lst (pa_cons (pe_tup (pa_cons pe_str (pa_cons pe_int pa_nil))) (pa_cons (pe_tup (pa_cons pe_str (pa_cons (pv 1) (pa_cons pe_int pa_nil)))) (pa_cons (pe_tup (pa_cons pe_str (pa_cons pe_str (pa_cons pe_str (pa_cons pe_int pa_nil))))) (pa_cons (pe_tup (pa_cons pe_str pa_nil)) (pa_cons (pe_tup (pa_cons pe_str pa_nil)) pa_nil)))))))
          (pss_cons (ps_dput hu (pv 0) (pe_tup (pa_cons pe_str (pa_cons pe_str pa_nil))) (pe_tup (pa_cons pe_int (pa_cons (pe_callTy call_tuple_of (by rfl) T.z_tuple (by decide +kernel) (pa_cons (pv 4) pa_nil)) pa_nil))) rfl)
          (pss_cons (ps_set (i := 4) nd rfl (Or.inl rfl) (pe_lst (pa_cons (pe_tup (pa_cons pe_str (pa_cons pe_int pa_nil))) (pa_cons (pe_tup (pa_cons pe_str (pa_cons (pv 1) (pa_cons pe_int pa_nil)))) (pa_cons (pe_tup (pa_cons pe_str (pa_cons pe_str (pa_cons pe_str (pa_cons pe_int pa_nil))))) (pa_cons (pe_tup (pa_cons pe_str pa_nil)) (pa_cons (pe_tup (pa_cons pe_str pa_nil)) pa_nil)))))))
          (Evl.pss_cut (ps_if (pt_cmpR op_eq (pe_op op_mod (pv 2) pe_int) pe_int (nomark _))
            (pss_one (ps_set (i := 4) nd rfl (Or.inl rfl) (pe_lst (pa_cons (pe_tup (pa_cons pe_str (pa_cons pe_int pa_nil))) (pa_cons (pe_tup (pa_cons pe_str (pa_cons (pv 1) (pa_cons pe_int pa_nil)))) (pa_cons (pe_tup (pa_cons pe_str (pa_cons pe_int pa_nil))) (pa_cons (pe_tup (pa_cons pe_str (pa_cons pe_int pa_nil))) (pa_cons (pe_tup (pa_cons pe_str (pa_cons pe_str (pa_cons pe_str (pa_cons pe_int pa_nil))))) (pa_cons (pe_tup (pa_cons pe_str pa_nil)) (pa_cons (pe_tup (pa_cons pe_str pa_nil)) pa_nil))))))))))
            pss_nil)
          (pss_cons (ps_dput hu (pv 0) (pe_tup (pa_cons pe_str (pa_cons pe_str pa_nil))) (pe_tup (pa_cons pe_int (pa_cons (pe_callTy call_tuple_of (by rfl) T.z_tuple (by decide +kernel) (pa_cons (pv 4) pa_nil)) pa_nil))) rfl)
          (pss_cons (ps_set (i := 4) nd rfl (Or.inl rfl) (pe_lst (pa_cons (pe_tup (pa_cons pe_str (pa_cons pe_int pa_nil))) (pa_cons (pe_tup (pa_cons pe_str (pa_cons (pv 3) (pa_cons pe_int pa_nil)))) (pa_cons (pe_tup (pa_cons pe_str pa_nil)) pa_nil)))))
          (Evl.pss_cut (ps_if (pt_cmpR op_eq (pe_op op_mod (pv 2) pe_int) pe_int (nomark _))
            (pss_one (ps_set (i := 4) nd rfl (Or.inl rfl) (pe_lst (pa_cons (pe_tup (pa_cons pe_str (pa_cons pe_int pa_nil))) (pa_cons (pe_tup (pa_cons pe_str (pa_cons pe_int (pa_cons pe_int pa_nil)))) (pa_cons (pe_tup (pa_cons pe_str (pa_cons (pv 3) (pa_cons pe_int pa_nil)))) (pa_cons (pe_tup (pa_cons pe_str pa_nil)) pa_nil)))))))
            pss_nil)
          (pss_cons (ps_dput hu (pv 0) (pe_tup (pa_cons pe_str (pa_cons pe_str pa_nil))) (pe_tup (pa_cons pe_int (pa_cons (pe_callTy call_tuple_of (by rfl) T.z_tuple (by decide +kernel) (pa_cons (pv 4) pa_nil)) pa_nil))) rfl)
          (pss_cons (ps_dput hu (pv 0) (pe_tup (pa_cons pe_str (pa_cons pe_str pa_nil))) (pe_tup (pa_cons (pe_op op_add pe_int (pe_op op_mod (pv 2) pe_int)) (pa_cons (pe_tup (pa_cons (pe_tup (pa_cons pe_str (pa_cons (pe_op op_modN (pv 2) (pe_op op_add pe_int (pe_op op_mod (pv 2) pe_int))) pa_nil))) (pa_cons (pe_tup (pa_cons pe_str pa_nil)) pa_nil))) pa_nil))) rfl)
          (pss_cons (ps_dput hu (pv 0) (pe_tup (pa_cons pe_str (pa_cons pe_str pa_nil))) (pe_tup (pa_cons pe_int (pa_cons (pe_tup (pa_cons (pe_tup (pa_cons pe_str (pa_cons pe_int pa_nil))) (pa_cons (pe_tup (pa_cons pe_str (pa_cons (pv 3) (pa_cons pe_int pa_nil)))) (pa_cons (pe_tup (pa_cons pe_str pa_nil)) (pa_cons (pe_tup (pa_cons pe_str (pa_cons (pv 1) (pa_cons pe_int pa_nil)))) (pa_cons (pe_tup (pa_cons pe_str pa_nil)) pa_nil)))))) pa_nil))) rfl)
          (pss_one (ps_dput hu (pv 0) (pe_tup (pa_cons pe_str (pa_cons pe_str pa_nil))) (pe_tup (pa_cons pe_int (pa_cons (pe_tup (pa_cons (pe_tup (pa_cons pe_str (pa_cons pe_int pa_nil))) (pa_cons (pe_tup (pa_cons pe_str (pa_cons pe_str (pa_cons pe_str (pa_cons pe_int pa_nil))))) (pa_cons (pe_tup (pa_cons pe_str pa_nil)) (pa_cons (pe_tup (pa_cons pe_str (pa_cons (pv 1) (pa_cons pe_int pa_nil)))) (pa_cons (pe_tup (pa_cons pe_str pa_nil)) pa_nil)))))) pa_nil))) rfl))))))))))))), ?_⟩
    refine put_dict (i := 0) (mo := "Ma") (na := "two") (by rfl) hB (by omega) (db_tup (g := 2) (rs := [.loc 1, .loc 0, .make 2 2, .back]) rfl (rs_tup (rls_cons (rb_tup fun _ _ q => q) (rls_cons (rb_tup fun _ _ q => q) (rls_cons (rb_tup fun _ _ q => q) (rls_cons (rb_tup fun _ _ q => q) rls_nil)))) (by simp))) fun H1 kvs1 b1 hB1 => ?_
    try dsimp only [gName, tSeq, tAsg]
    refine lst_rows (K := K) (H0 := H1) (rs := maybeRows a) (rls_cons (rb_tup fun _ _ q => q) (rls_cons (rb_tup fun _ _ q => ⟨_, rfl, q⟩) (rls_cons (rb_tup fun _ _ q => q) (rls_cons (rb_tup fun _ _ q => q) (rls_cons (rb_tup fun _ _ q => q) rls_nil))))) (Same.refl _) (fun r2 v2 H2 hr2 s2 e2 hrs2 => ?_) (by simp [maybeRows])
    have hB2 := hB1.same s2
    try dsimp only [gName, tSeq, tAsg]
    refine put_dict (i := 0) (mo := "Ma") (na := "maybe") (by rfl) hB2 (by omega) (db_tup (g := 1) rfl (rs_of (i := 4) (by rfl) e2 hrs2)) fun H3 kvs3 b3 hB3 => ?_
    have c3 : But1 H H3 d := fun x o e nx => b3 _ _ (s2 _ _ (b1 _ _ e nx)) nx
    -- short
    try dsimp only [gName, tSeq, tAsg]
    refine lst_rows (K := K) (H0 := H3) (rs := [.loc 0, .isr (a : Int) 4, .call ("Ma", "two") 1, .back, .back]) (rls_cons (rb_tup fun _ _ q => q) (rls_cons (rb_tup fun _ _ q => ⟨_, rfl, q⟩) (rls_cons (rb_tup fun _ _ q => q) (rls_cons (rb_tup fun _ _ q => q) (rls_cons (rb_tup fun _ _ q => q) rls_nil))))) (Same.refl _) (fun r4 v4 H4 hr4 s4 e4 hrs4 => ?_) (by simp)
    refine ⟨fun σ' H' => ∃ (l : Addr) (vs : List V), σ' = [some (.ref d), some (.int (a : Int)), some (.int (b : Int)), some (.int (number : Int)), some (.ref l)] ∧ Same H3 H' ∧ H' l = some (.lst vs) ∧ RowsOf K H' vs (shortRows a b), ?_, ?_⟩
    · refine ⟨_, rfl, _, _, rfl, rfl, (by show (0 : Int) < 2; decide), rfl, _, rfl, ite2 (fun z => ?_) (fun z => ?_)⟩
      · have z2 : (b : Int) % 2 = 1 := by have q := of_decide_eq_true z; injection q
        try dsimp only [gName, tSeq, tAsg]
        refine lst_rows (K := K) (H0 := H4) (rs := [.loc 0, .isr (a : Int) 6, .loc 0, .loc 0, .call ("Ma", "two") 3, .back, .back]) (rls_cons (rb_tup fun _ _ q => q) (rls_cons (rb_tup fun _ _ q => ⟨_, rfl, q⟩) (rls_cons (rb_tup fun _ _ q => q) (rls_cons (rb_tup fun _ _ q => q) (rls_cons (rb_tup fun _ _ q => q) (rls_cons (rb_tup fun _ _ q => q) (rls_cons (rb_tup fun _ _ q => q) rls_nil))))))) (Same.refl _) (fun r5 v5 H5 hr5 s5 e5 hrs5 => ?_) (by simp)
        exact ⟨r5, v5, rfl, s4.trans s5, e5, by unfold shortRows; rw [if_pos (by omega)]; exact hrs5⟩
      · have z2 : ¬ (b : Int) % 2 = 1 := fun q => z (decide_eq_true (congrArg V.int q))
        exact ⟨r4, v4, rfl, s4, e4, by unfold shortRows; rw [if_neg (by omega)]; exact hrs4⟩
    rintro σ' H5 ⟨l5, v5, rfl, s5, e5, hrs5⟩
    have hB5 := hB3.same s5
    have lsh : (shortRows (a : Int) b).length ≤ 1000 := by unfold shortRows; split <;> simp
    try dsimp only [gName, tSeq, tAsg]
    refine put_dict (i := 0) (mo := "Ma") (na := "short") (by rfl) hB5 (by omega) (db_tup (g := 1) rfl (rs_of (i := 4) (by rfl) e5 hrs5)) fun H6 kvs6 b6 hB6 => ?_
    have c6 : But1 H H6 d := fun x o e nx => b6 _ _ (s5 _ _ (c3 _ _ e nx)) nx
    -- grow
    try dsimp only [gName, tSeq, tAsg]
    refine lst_rows (K := K) (H0 := H6) (rs := [.loc 0, .make (number : Int) 1, .back]) (rls_cons (rb_tup fun _ _ q => q) (rls_cons (rb_tup fun _ _ q => ⟨_, rfl, q⟩) (rls_cons (rb_tup fun _ _ q => q) rls_nil))) (Same.refl _) (fun r7 v7 H7 hr7 s7 e7 hrs7 => ?_) (by simp)
    refine ⟨fun σ' H' => ∃ (l : Addr) (vs : List V), σ' = [some (.ref d), some (.int (a : Int)), some (.int (b : Int)), some (.int (number : Int)), some (.ref l)] ∧ Same H6 H' ∧ H' l = some (.lst vs) ∧ RowsOf K H' vs (growRows b number), ?_, ?_⟩
    · refine ⟨_, rfl, _, _, rfl, rfl, (by show (0 : Int) < 2; decide), rfl, _, rfl, ite2 (fun z => ?_) (fun z => ?_)⟩
      · have z2 : (b : Int) % 2 = 1 := by have q := of_decide_eq_true z; injection q
        try dsimp only [gName, tSeq, tAsg]
        refine lst_rows (K := K) (H0 := H7) (rs := [.loc 0, .make 1 0, .make (number : Int) 2, .back]) (rls_cons (rb_tup fun _ _ q => q) (rls_cons (rb_tup fun _ _ q => q) (rls_cons (rb_tup fun _ _ q => ⟨_, rfl, q⟩) (rls_cons (rb_tup fun _ _ q => q) rls_nil)))) (Same.refl _) (fun r8 v8 H8 hr8 s8 e8 hrs8 => ?_) (by simp)
        exact ⟨r8, v8, rfl, s7.trans s8, e8, by unfold growRows; rw [if_pos (by omega)]; exact hrs8⟩
      · have z2 : ¬ (b : Int) % 2 = 1 := fun q => z (decide_eq_true (congrArg V.int q))
        exact ⟨r7, v7, rfl, s7, e7, by unfold growRows; rw [if_neg (by omega)]; exact hrs7⟩
    rintro σ' H8 ⟨l8, v8, rfl, s8, e8, hrs8⟩
    have hB8 := hB6.same s8
    try dsimp only [gName, tSeq, tAsg]
    refine put_dict (i := 0) (mo := "Ma") (na := "grow") (by rfl) hB8 (by omega) (db_tup (g := 1) rfl (rs_of (i := 4) (by rfl) e8 hrs8)) fun H9 kvs9 b9 hB9 => ?_
    have c9 : But1 H H9 d := fun x o e nx => b9 _ _ (s8 _ _ (c6 _ _ e nx)) nx
    -- hands
    have eg : (1 : Int) + (b : Int) % 3 = ((1 + b % 3 : Nat) : Int) := by omega
    have em : Int.fmod (b : Int) ((1 : Int) + (b : Int) % 3) = ((b % (1 + b % 3) : Nat) : Int) := by rw [eg, fmod_nat]
    try dsimp only [gName, tSeq, tAsg]
    refine ⟨_, rfl, _, _, rfl, rfl, (by show (0 : Int) < 3; decide), _, _, rfl, rfl, _, rfl, _, rfl, _, _, rfl, rfl, (by show (0 : Int) < 3; decide), _, _, rfl, rfl, _, _, rfl, rfl, (by show ((1 : Int) + (b : Int) % 3) ≠ 0; omega), sl_le (by show 2 ≤ 10000000; decide), fun p1 hp1 => ⟨sl_le (by show 1 ≤ 10000000; decide), fun p2 hp2 => ⟨sl_le (by show 2 ≤ 10000000; decide), fun p3 hp3 => ⟨sl_le (by show 2 ≤ 10000000; decide), fun p4 hp4 => ?_⟩⟩⟩⟩
    have q1 : Same H9 (upd H9 p1 (.tup [.str "local", .int (Int.fmod (b : Int) ((1 : Int) + (b : Int) % 3))])) := same_new hp1
    have q2 : Same (upd H9 p1 (.tup [.str "local", .int (Int.fmod (b : Int) ((1 : Int) + (b : Int) % 3))])) (upd (upd H9 p1 (.tup [.str "local", .int (Int.fmod (b : Int) ((1 : Int) + (b : Int) % 3))])) p2 (.tup [.str "back"])) := same_new hp2
    have q3 : Same (upd (upd H9 p1 (.tup [.str "local", .int (Int.fmod (b : Int) ((1 : Int) + (b : Int) % 3))])) p2 (.tup [.str "back"])) (upd (upd (upd H9 p1 (.tup [.str "local", .int (Int.fmod (b : Int) ((1 : Int) + (b : Int) % 3))])) p2 (.tup [.str "back"])) p3 (.tup [.ref p1, .ref p2])) := same_new hp3
    have q4 : Same (upd (upd (upd H9 p1 (.tup [.str "local", .int (Int.fmod (b : Int) ((1 : Int) + (b : Int) % 3))])) p2 (.tup [.str "back"])) p3 (.tup [.ref p1, .ref p2])) (upd (upd (upd (upd H9 p1 (.tup [.str "local", .int (Int.fmod (b : Int) ((1 : Int) + (b : Int) % 3))])) p2 (.tup [.str "back"])) p3 (.tup [.ref p1, .ref p2])) p4 (.tup [.int ((1 : Int) + (b : Int) % 3), .ref p3])) := same_new hp4
    have hdef : DefAt K (upd (upd (upd (upd H9 p1 (.tup [.str "local", .int (Int.fmod (b : Int) ((1 : Int) + (b : Int) % 3))])) p2 (.tup [.str "back"])) p3 (.tup [.ref p1, .ref p2])) p4 (.tup [.int ((1 : Int) + (b : Int) % 3), .ref p3])) (.ref p4) (1 + b % 3) (handsRows b) :=
      ⟨p4, .ref p3, rfl, SqT.of (by rw [← eg]; exact upd_same), p3, _, rfl, SqT.of (q4 _ _ upd_same), .cons ⟨p1, rfl, SqT.of (q4 _ _ (q3 _ _ (q2 _ _ (by rw [upd_same, em]; rfl))))⟩ (.cons ⟨p2, rfl, SqT.of (q4 _ _ (q3 _ _ upd_same))⟩ .nil)⟩
    have s10 := ((q1.trans q2).trans q3).trans q4
    have hB10 := hB9.same s10
    refine put_rest (i := 0) (mo := "Ma") (na := "hands") (by rfl) hB10 (by omega) hdef fun H11 kvs11 b11 hB11 => ?_
    try dsimp only [gName, tSeq, tAsg]
    refine put_dict (i := 0) (mo := "Ma") (na := "waste") (by rfl) hB11 (by omega) (db_tup (g := 1) (rs := wasteRows a number) rfl (rs_tup (rls_cons (rb_tup fun _ _ q => q) (rls_cons (rb_tup fun _ _ q => ⟨_, rfl, q⟩) (rls_cons (rb_tup fun _ _ q => q) (rls_cons (rb_tup fun _ _ q => ⟨_, rfl, q⟩) (rls_cons (rb_tup fun _ _ q => q) rls_nil))))) (by simp [wasteRows]))) fun H12 kvs12 b12 hB12 => ?_
    try dsimp only [gName, tSeq, tAsg]
    refine put_dict (i := 0) (mo := "Ma") (na := "past") (by rfl) hB12 (by omega) (db_tup (g := 1) (rs := pastRows a) rfl (rs_tup (rls_cons (rb_tup fun _ _ q => q) (rls_cons (rb_tup fun _ _ q => q) (rls_cons (rb_tup fun _ _ q => q) (rls_cons (rb_tup fun _ _ q => ⟨_, rfl, q⟩) (rls_cons (rb_tup fun _ _ q => q) rls_nil))))) (by simp [pastRows]))) fun H13 kvs13 b13 hB13 => ?_
    exact k H13 kvs13 (fun x o e nx => b13 _ _ (b12 _ _ (b11 _ _ (s10 _ _ (c9 _ _ e nx)) nx) nx) nx) hB13
end
end K90

set_option Elab.async false
set_option linter.all false
set_option maxRecDepth 100000
set_option maxHeartbeats 4000000
/-! What each thing that law asks comes to. -/
namespace K90
open PySem Mch Rp
abbrev mw (w : Str) : Nm := (("Ma" : Str), w)
section
variable {B : Built Nm} {a n : Int} {b : Nat}
theorem users_two : usersB B a b n ("Ma", "two") = some (2, [.loc 1, .loc 0, .make 2 2, .back]) := by
  unfold usersB
  rw [bset_ne (by decide +kernel), bset_ne (by decide +kernel), bset_ne (by decide +kernel), bset_ne (by decide +kernel), bset_ne (by decide +kernel), bset_ne (by decide +kernel), bset_same]
theorem users_maybe : usersB B a b n ("Ma", "maybe") = some (1, maybeRows a) := by
  unfold usersB
  rw [bset_ne (by decide +kernel), bset_ne (by decide +kernel), bset_ne (by decide +kernel), bset_ne (by decide +kernel), bset_ne (by decide +kernel), bset_same]
theorem users_short : usersB B a b n ("Ma", "short") = some (1, shortRows a b) := by
  unfold usersB
  rw [bset_ne (by decide +kernel), bset_ne (by decide +kernel), bset_ne (by decide +kernel), bset_ne (by decide +kernel), bset_same]
theorem users_grow : usersB B a b n ("Ma", "grow") = some (1, growRows b n) := by
  unfold usersB
  rw [bset_ne (by decide +kernel), bset_ne (by decide +kernel), bset_ne (by decide +kernel), bset_same]
theorem users_hands : usersB B a b n ("Ma", "hands") = some (1 + b % 3, handsRows b) := by
  unfold usersB
  rw [bset_ne (by decide +kernel), bset_ne (by decide +kernel), bset_same]
theorem users_waste : usersB B a b n ("Ma", "waste") = some (1, wasteRows a n) := by
  unfold usersB
  rw [bset_ne (by decide +kernel), bset_same]
theorem users_past : usersB B a b n ("Ma", "past") = some (1, pastRows a) := by
  unfold usersB
  exact bset_same
theorem users_other {f : Nm} (h1 : ¬ f = mw "two") (h2 : ¬ f = mw "maybe") (h3 : ¬ f = mw "short") (h4 : ¬ f = mw "grow") (h5 : ¬ f = mw "hands") (h6 : ¬ f = mw "waste") (h7 : ¬ f = mw "past") : usersB B a b n f = B f := by
  unfold usersB
  rw [bset_ne h7, bset_ne h6, bset_ne h5, bset_ne h4, bset_ne h3, bset_ne h2, bset_ne h1]
end
/-- the dict that law builds -/
def lawB (many high : Nat) (a : Int) (b : Nat) (n : Int) : Built Nm := usersB (treeB (Bset (chainB (fun _ => none) many) (cn many) (0, endRows n)) (endRows n) high) a b n
section
variable {many high b : Nat} {a n : Int}
theorem law_tree : Trees (lawB many high a b n) (endRows n) high := fun j hj => by
  unfold lawB
  rw [users_other (tn_word (by decide +kernel)) (tn_word (by decide +kernel)) (tn_word (by decide +kernel)) (tn_word (by decide +kernel)) (tn_word (by decide +kernel)) (tn_word (by decide +kernel)) (tn_word (by decide +kernel))]
  exact treeB_at hj
theorem law_link {j : Nat} (hj : j < many) : lawB many high a b n (cn j) = some (0, linkRows j) := by
  unfold lawB
  rw [users_other (cn_word (by decide +kernel)) (cn_word (by decide +kernel)) (cn_word (by decide +kernel)) (cn_word (by decide +kernel)) (cn_word (by decide +kernel)) (cn_word (by decide +kernel)) (cn_word (by decide +kernel)), treeB_other fun k => cn_tn,
    bset_ne (fun z => by have := cn_inj z; omega)]
  exact chainB_at hj
theorem law_end : lawB many high a b n (cn many) = some (0, endRows n) := by
  unfold lawB
  rw [users_other (cn_word (by decide +kernel)) (cn_word (by decide +kernel)) (cn_word (by decide +kernel)) (cn_word (by decide +kernel)) (cn_word (by decide +kernel)) (cn_word (by decide +kernel)) (cn_word (by decide +kernel)), treeB_other fun k => cn_tn]
  exact bset_same
/-- a name that is neither of a tree nor of the chain nor of the users -/
theorem law_none {mo w : Str} (hw : plainWord w = true) (h1 : ¬ (mo, w) = mw "two") (h2 : ¬ (mo, w) = mw "maybe") (h3 : ¬ (mo, w) = mw "short") (h4 : ¬ (mo, w) = mw "grow") (h5 : ¬ (mo, w) = mw "hands") (h6 : ¬ (mo, w) = mw "waste") (h7 : ¬ (mo, w) = mw "past") :
    lawB many high a b n (mo, w) = none := by
  unfold lawB
  rw [users_other h1 h2 h3 h4 h5 h6 h7, treeB_other fun k => word_tn hw, bset_ne (word_cn hw), chainB_other fun k => word_cn hw]
theorem law_lack : lawB many high a b n ("Other", "lack") = none := law_none (by decide +kernel) (by decide +kernel) (by decide +kernel) (by decide +kernel) (by decide +kernel) (by decide +kernel) (by decide +kernel) (by decide +kernel)
theorem law_cx : lawB many high a b n ("Ma", "cx") = none := law_none (by decide +kernel) (by decide +kernel) (by decide +kernel) (by decide +kernel) (by decide +kernel) (by decide +kernel) (by decide +kernel) (by decide +kernel)
theorem law_mx {w : Str} : lawB many high a b n ("Mx", w) = none := by
  have hm : ∀ v : Str, ¬ (("Mx" : Str), w) = (("Ma" : Str), v) := fun v z => by
    have := (Prod.mk.inj z).1
    exact absurd this (by decide +kernel)
  unfold lawB
  rw [users_other (hm _) (hm _) (hm _) (hm _) (hm _) (hm _) (hm _), treeB_other fun k => hm _, bset_ne (hm _), chainB_other fun k => hm _]
theorem law_c0 (hm : many ≤ 2400) : RunsTo (lawB many high a b n) (cn 0) [] (.val (.mk n [])) := by
  obtain ⟨rows, h, hB, r⟩ := run_chain (B := lawB many high a b n) (n := n) (fun j hj => law_link hj) law_end many 0 (by omega)
  exact runs_val hB r (by omega) (by omega)
theorem law_top (hh : high ≤ 13) : RunsTo (lawB many high a b n) (tn high) [] (.val (.mk n [])) := by
  obtain ⟨kk, h, hk, r⟩ := run_tree (law_tree (many := many) (high := high) (a := a) (b := b) (n := n)) (run_end _ n) (by omega) (by omega) high (by omega)
  have p : 2 ^ high ≤ 2 ^ 13 := Nat.pow_le_pow_right (by decide) hh
  have p2 : 2 ^ (high + 1) = 2 * 2 ^ high := by rw [Nat.pow_succ]; omega
  refine runs_val (law_tree high (Nat.le_refl _)) r ?_ ?_
  · rw [p2]; omega
  · omega
end
/-! ### the users -/
section
variable {B : Built Nm} {a n : Int} {b : Nat}
theorem hands_ok (hB : B ("Ma", "hands") = some (1 + b % 3, handsRows b)) {cells : List Cell} (hl : cells.length = 1 + b % 3) {c : Cell} (hc : cells[b % (1 + b % 3)]? = some c) : RunsTo B ("Ma", "hands") cells (.val c) := by
  rw [← hl] at hB
  exact runs_val hB (.simp (rows := handsRows b) rfl (.loc hc) (.back rfl)) (by omega) (by omega)
theorem maybe_ok (hB : B ("Ma", "maybe") = some (1, maybeRows a)) {m : Int} {cs : List Cell} (h : ¬ m = a) : RunsTo B ("Ma", "maybe") [.mk m cs] (.val (.mk m cs)) := by
  have r : Run B (maybeRows a) 0 [.mk m cs] [] (.mk m cs) 0 3 3 0 := .simp rfl (.loc rfl) (.isr rfl (by rw [if_neg h]; exact .back rfl))
  exact runs_val (cells := [.mk m cs]) hB r (by omega) (by omega)
theorem short_ok (hB : B ("Ma", "short") = some (1, shortRows a b)) {m : Int} {cs : List Cell} (h : ¬ m = a) : RunsTo B ("Ma", "short") [.mk m cs] (.val (.mk m cs)) := by
  have r : Run B (shortRows a b) 0 [.mk m cs] [] (.mk m cs) 0 3 3 0 := by
    unfold shortRows
    split
    · exact .simp rfl (.loc rfl) (.isr rfl (by rw [if_neg h]; exact .back rfl))
    · exact .simp rfl (.loc rfl) (.isr rfl (by rw [if_neg h]; exact .back rfl))
  exact runs_val (cells := [.mk m cs]) hB r (by omega) (by omega)
theorem maybe_bad (hB : B ("Ma", "maybe") = some (1, maybeRows a)) (hl : B ("Other", "lack") = none) {cs : List Cell} : RunsTo B ("Ma", "maybe") [.mk a cs] (.bad .name) := by
  refine .runs (cells := [.mk a cs]) hB ?_
  refine .of_step (.simp (r := .loc 0) rfl (.loc rfl) (by omega) (by omega)) ?_
  refine .of_step (.isr (m := a) (to := 4) rfl (by omega) (by omega)) ?_
  rw [if_pos rfl]
  have hd : 0 + 1 + 1 ≤ 1000000 := by omega
  exact .of_end (.lack rfl (Nat.zero_le _) hl hd)
end
end K90

set_option Elab.async false
set_option linter.all false
set_option maxRecDepth 100000
set_option maxHeartbeats 4000000
namespace K90
open PySem Mch Rp
section
variable {B : Built Nm} {a n : Int} {b : Nat}
theorem wrong_many {f : Nm} {g : Nat} {rows : List (Row Nm)} {cells : List Cell} (hB : B f = some (g, rows)) (h : g ≠ cells.length) : RunsTo B f cells (.bad .value) := .wrong hB h
theorem short_bad (hB : B ("Ma", "short") = some (1, shortRows a b)) (ht : B ("Ma", "two") = some (2, [.loc 1, .loc 0, .make 2 2, .back])) {cs : List Cell} : RunsTo B ("Ma", "short") [.mk a cs] (.bad .value) := by
  by_cases hb : b % 2 = 1
  · have e : shortRows a b = [.loc 0, .isr a 6, .loc 0, .loc 0, .call ("Ma", "two") 3, .back, .back] := if_pos hb
    rw [e] at hB
    refine .runs (cells := [.mk a cs]) hB ?_
    refine .of_step (.simp (r := .loc 0) rfl (.loc rfl) (by omega) (by omega)) ?_
    refine .of_step (.isr (m := a) (to := 6) rfl (by omega) (by omega)) ?_
    rw [if_pos rfl]
    refine .of_step (.simp (r := .loc 0) rfl (.loc rfl) (by omega) (by omega)) ?_
    refine .of_step (.simp (r := .loc 0) rfl (.loc rfl) (by omega) (by omega)) ?_
    have hd : 0 + 1 + 1 + 1 + 1 ≤ 1000000 := by omega
    exact .of_end (.wrong rfl (Nat.le_refl _) ht (by omega) hd)
  · have e : shortRows a b = [.loc 0, .isr a 4, .call ("Ma", "two") 1, .back, .back] := if_neg hb
    rw [e] at hB
    refine .runs (cells := [.mk a cs]) hB ?_
    refine .of_step (.simp (r := .loc 0) rfl (.loc rfl) (by omega) (by omega)) ?_
    refine .of_step (.isr (m := a) (to := 4) rfl (by omega) (by omega)) ?_
    rw [if_pos rfl]
    have hd : 0 + 1 + 1 ≤ 1000000 := by omega
    exact .of_end (.wrong rfl (Nat.le_refl _) ht (by omega) hd)
def growC (b : Nat) (n : Int) (x : Cell) : Cell := if b % 2 = 1 then .mk n [x, .mk 1 []] else .mk n [x]
theorem run_grow (B : Built Nm) {x : Cell} (h : x.size + b % 2 ≤ 255) : ∃ d k, Run B (growRows b n) 0 [x] [] (growC b n x) 0 d k 0 ∧ d ≤ 4 ∧ k ≤ 4 := by
  by_cases hb : b % 2 = 1
  · have e1 : growRows b n = [.loc 0, .make 1 0, .make n 2, .back] := if_pos hb
    have e2 : growC b n x = .mk n [x, .mk 1 []] := if_pos hb
    rw [e1, e2]
    exact ⟨_, _, .simp rfl (.loc rfl) (.simp rfl (.make (n := 0) (by simp) (by simp [sizes])) (.simp rfl (.make (n := 2) (by simp) (by simp [sizes, Cell.size]; omega)) (.back rfl))), by omega, by omega⟩
  · have e1 : growRows b n = [.loc 0, .make n 1, .back] := if_neg hb
    have e2 : growC b n x = .mk n [x] := if_neg hb
    rw [e1, e2]
    exact ⟨_, _, .simp rfl (.loc rfl) (.simp rfl (.make (n := 1) (by simp) (by simp [sizes]; omega)) (.back rfl)), by omega, by omega⟩
theorem grow_ok (hB : B ("Ma", "grow") = some (1, growRows b n)) {x : Cell} (h : x.size + b % 2 ≤ 255) : RunsTo B ("Ma", "grow") [x] (.val (growC b n x)) := by
  obtain ⟨d, k, r, h1, h2⟩ := run_grow (n := n) B h
  exact runs_val (cells := [x]) hB r (by omega) (by omega)
theorem grow_end {x : Cell} (h : 256 ≤ x.size + b % 2) (h2 : x.size ≤ 300) (fs : List (Frame Nm)) (c d : Nat) (hc : c ≤ 1000) (hd : d ≤ 1000) : Ends B ⟨fs, growRows b n, 0, [x], [], c, d⟩ (.bad .long) := by
  by_cases hb : b % 2 = 1
  · have e1 : growRows b n = [.loc 0, .make 1 0, .make n 2, .back] := if_pos hb
    rw [e1]
    refine .of_step (.simp (r := .loc 0) rfl (.loc rfl) (by omega) (by omega)) ?_
    refine .of_step (.simp (r := .make 1 0) rfl (.make (n := 0) (by simp) (by simp [sizes])) (by omega) (by omega)) ?_
    have hd' : d + 1 + 1 + 1 ≤ 1000000 := by omega
    exact .of_end (.great (n := 2) rfl (by simp) (by simp [sizes, Cell.size]; omega) (by simp [sizes, Cell.size]; omega) (by omega) hd')
  · have e1 : growRows b n = [.loc 0, .make n 1, .back] := if_neg hb
    rw [e1]
    refine .of_step (.simp (r := .loc 0) rfl (.loc rfl) (by omega) (by omega)) ?_
    have hd' : d + 1 + 1 ≤ 1000000 := by omega
    exact .of_end (.great (n := 1) rfl (by simp) (by simp [sizes]; omega) (by simp [sizes]; omega) (by omega) hd')
theorem grow_bad (hB : B ("Ma", "grow") = some (1, growRows b n)) {x : Cell} (h : 256 ≤ x.size + b % 2) (h2 : x.size ≤ 300) : RunsTo B ("Ma", "grow") [x] (.bad .long) :=
  .runs (cells := [x]) hB (grow_end h h2 [] 1 0 (by omega) (by omega))
theorem waste_ok (hB : B ("Ma", "waste") = some (1, wasteRows a n)) {x : Cell} (h : x.size ≤ 255) : RunsTo B ("Ma", "waste") [x] (.val (.mk a [])) := by
  have r : Run B (wasteRows a n) 0 [x] [] (.mk a []) 0 5 5 0 := .simp rfl (.loc rfl) (.simp rfl (.make (n := 1) (by simp) (by simp [sizes]; omega)) (.simp rfl .drop (.simp rfl (.make (n := 0) (by simp) (by simp [sizes])) (.back rfl))))
  exact runs_val (cells := [x]) hB r (by omega) (by omega)
theorem waste_bad (hB : B ("Ma", "waste") = some (1, wasteRows a n)) {x : Cell} (h : 256 ≤ x.size) (h2 : x.size ≤ 300) : RunsTo B ("Ma", "waste") [x] (.bad .long) := by
  refine .runs (cells := [x]) hB ?_
  refine .of_step (.simp (r := .loc 0) rfl (.loc rfl) (by omega) (by omega)) ?_
  have hd' : 0 + 1 + 1 ≤ 1000000 := by omega
  exact .of_end (.great (n := 1) rfl (by simp) (by simp [sizes]; omega) (by simp [sizes]; omega) (by omega) hd')
theorem past_ok (hB : B ("Ma", "past") = some (1, pastRows a)) (hg : B ("Ma", "grow") = some (1, growRows b n)) {x : Cell} (h : x.size + b % 2 ≤ 255) : RunsTo B ("Ma", "past") [x] (.val (.mk a [])) := by
  obtain ⟨d, k, r, h1, h2⟩ := run_grow (n := n) B h
  have q : Run B (pastRows a) 0 [x] [] (.mk a []) (0 + 0 + 1) (d + (0 + 1 + 1 + 1) + 1 + 1) 5 (max (0 + 1) 0) :=
    .simp rfl (.loc rfl) (.call (st := [x]) (n := 1) rfl (by simp) hg r (by omega) (.simp rfl .drop (.simp rfl (.make (n := 0) (by simp) (by simp [sizes])) (.back rfl))))
  exact runs_val (cells := [x]) hB q (by omega) (by omega)
theorem past_bad (hB : B ("Ma", "past") = some (1, pastRows a)) (hg : B ("Ma", "grow") = some (1, growRows b n)) {x : Cell} (h : 256 ≤ x.size + b % 2) (h2 : x.size ≤ 300) : RunsTo B ("Ma", "past") [x] (.bad .long) := by
  refine .runs (cells := [x]) hB ?_
  refine .of_step (.simp (r := .loc 0) rfl (.loc rfl) (by omega) (by omega)) ?_
  refine .of_step (.call (n := 1) rfl (by simp) hg (by omega) (by omega)) ?_
  exact grow_end h h2 _ 2 2 (by omega) (by omega)
/-! ### the dict behind the changes -/
theorem maybe_new (hB : B ("Ma", "maybe") = some (1, maybeRows a)) {m : Int} (hl : B ("Other", "lack") = some (0, endRows m)) {cs : List Cell} : RunsTo B ("Ma", "maybe") [.mk a cs] (.val (.mk m [])) := by
  have q : Run B (maybeRows a) 0 [.mk a cs] [] (.mk m []) (0 + 0 + 1) (2 + 1 + 1 + 1 + 1) 4 (max (0 + 1) 0) := .simp rfl (.loc rfl) (.isr rfl (by rw [if_pos rfl]; exact .call (n := 0) rfl (by simp) hl (run_end B m) (by omega) (.back rfl)))
  exact runs_val (cells := [.mk a cs]) hB q (by omega) (by omega)
theorem short_new (hB : B ("Ma", "short") = some (1, shortRows a b)) (ht : B ("Ma", "two") = some (1 + 2 * (b % 2), [.loc 0, .back])) {cs : List Cell} : RunsTo B ("Ma", "short") [.mk a cs] (.val (.mk a cs)) := by
  by_cases hb : b % 2 = 1
  · have e : shortRows a b = [.loc 0, .isr a 6, .loc 0, .loc 0, .call ("Ma", "two") 3, .back, .back] := if_pos hb
    rw [e] at hB
    rw [hb] at ht
    have t : Run B [.loc 0, .back] 0 [.mk a cs, .mk a cs, .mk a cs] [] (.mk a cs) 0 2 2 0 := .simp rfl (.loc rfl) (.back rfl)
    have q : Run B [.loc 0, .isr a 6, .loc 0, .loc 0, .call ("Ma", "two") 3, .back, .back] 0 [.mk a cs] [] (.mk a cs) (0 + 0 + 1) (2 + 1 + 1 + 1 + 1 + 1 + 1) 6 (max (0 + 1) 0) :=
      .simp rfl (.loc rfl) (.isr rfl (by rw [if_pos rfl]; exact .simp rfl (.loc rfl) (.simp rfl (.loc rfl) (.call (st := [.mk a cs, .mk a cs, .mk a cs]) (n := 3) rfl (by simp) ht t (by omega) (.back rfl)))))
    exact runs_val (cells := [.mk a cs]) hB q (by omega) (by omega)
  · have e : shortRows a b = [.loc 0, .isr a 4, .call ("Ma", "two") 1, .back, .back] := if_neg hb
    rw [e] at hB
    have hb0 : b % 2 = 0 := by omega
    rw [hb0] at ht
    have t : Run B [.loc 0, .back] 0 [.mk a cs] [] (.mk a cs) 0 2 2 0 := .simp rfl (.loc rfl) (.back rfl)
    have q : Run B [.loc 0, .isr a 4, .call ("Ma", "two") 1, .back, .back] 0 [.mk a cs] [] (.mk a cs) (0 + 0 + 1) (2 + 1 + 1 + 1 + 1) 4 (max (0 + 1) 0) :=
      .simp rfl (.loc rfl) (.isr rfl (by rw [if_pos rfl]; exact .call (st := [.mk a cs]) (n := 1) rfl (by simp) ht t (by omega) (.back rfl)))
    exact runs_val (cells := [.mk a cs]) hB q (by omega) (by omega)
end
/-! ### calls without an end -/
def selfB : Built Nm := Bset (fun _ => none) ("Ma", "self") (0, [.call ("Ma", "self") 0, .back])
theorem self_ends : ∀ m c d (fs : List (Frame Nm)), c + m = 100000 → d ≤ c → Ends selfB ⟨fs, [.call ("Ma", "self") 0, .back], 0, [], [], c, d⟩ (.bad .long)
  | 0, c, d, fs, e, hd => by
    have h1 : d ≤ 1000000 := by omega
    exact .of_end (.calls rfl (Nat.zero_le _) (bset_same (B := fun _ => none)) (by omega) h1)
  | m + 1, c, d, fs, e, hd => by
    refine .of_step (.call (n := 0) rfl (Nat.zero_le _) (bset_same (B := fun _ => none)) (by omega) (by omega)) ?_
    exact self_ends m (c + 1) (d + 1) _ (by omega) (by omega)
theorem runs_self : RunsTo selfB ("Ma", "self") [] (.bad .long) := .runs (cells := []) bset_same (self_ends 99999 1 0 [] (by omega) (by omega))
end K90

set_option Elab.async false
set_option linter.all false
set_option maxRecDepth 100000
set_option maxHeartbeats 4000000
/-! {key: value}, one pair, the key a tuple. -/
namespace Dt
open PySem PySem.Spec PyProof.Rows L2
def tDispT (tk tv : TE) : TE := fun σ H Q => ∀ p, H p = none → tk σ (upd H p (.dT [])) fun x H1 => tv σ H1 fun y H2 => ∃ (b : Addr) (key : List Key), x = .ref b ∧ H2 p = some (.dT []) ∧ H2 b = some (.tup (key.map kV)) ∧ Q (.ref p) (upd H2 p (.dT (putK [] key y)))
section
variable {X : Cx} {k v : Expr} {tk tv : TE} {pos : Pos}
theorem pe_dispT (hu : X.A.units + 1 < cLine) (hk : PE X k tk) (hv : PE X v tv) : PE X (.Dict [some k] [v] pos) (tDispT tk tv) := by
  constructor
  intro pins s σ H Q I reading
  have fresh := I.hok.fresh (Nat.le_refl s.heap.objs.size)
  have I1 := I.laid (a := s.heap.objs.size) (o := .dT []) (h' := s.heap.push { cls := .type "dict", data := .dict #[] }) (t' := s.toks) (fun _ _ q => Heap.get?_push_of_some _ q) (Nat.le_refl _) (dt_empty s.heap I.big)
  rw [arm_eval_Dict, zip_pairTrees [some k] [v] X.env pos rfl rfl, dictDisplay_pairs _ (by simp [pairTrees]) (by simp [pairTrees])]
  apply wpAny_bind
  apply wpAny_standAt
  apply wpAny_bind
  unfold subDict
  refine wpAny_bind (wpAny_alloc ?_)
  refine wpAny_bind (wpAny_holding ?_)
  rw [if_pos (by simp [pairTrees])]
  apply wpAny_bind
  apply pairTrees_cons_walk
  refine thn (hk.run pins _ σ _ _ I1 (reading _ fresh)) ?_
  rintro u s1 ⟨x, H1, I2, rx, q1⟩
  refine thn (hv.run pins s1 σ H1 _ I2 q1) ?_
  rintro u2 s2 ⟨y, H2, I3, ry, b, key, rfl, ep, eb, q⟩
  apply pairTrees_nil_walk
  obtain rfl : u = Value.ref b := rx
  refine wpAny_holding ?_
  obtain ⟨z, hd, xs, rel, dd⟩ := dt_of I3.hok ep
  have hz : xs.length ≤ sizeLine := by rw [← Paired.length rel]; exact z
  have hl : (putK ([] : List (List Key × V)) key y).length ≤ sizeLine := by
    have := length_putK ([] : List (List Key × V)) key y
    rw [sizeLine_eq]
    simp only [List.length_nil] at this
    omega
  apply wpAny_bind
  rw [List.forIn_cons]
  dsimp only
  apply wpAny_bind
  apply wpAny_bind
  refine wpAny_dictSet_heap (hsz := hz) (by show X.A.units < cLine; omega) (key_of I3.hok eb) dd ?_
  intro h' made same
  refine wpAny_pure ?_
  dsimp only
  rw [List.forIn_nil]
  refine wpAny_pure (wpAny_pure (wpAny_pure (wpAny_pure ?_)))
  obtain ⟨w0, es, ep', hq, h2, h3, h4, h6, h5⟩ := made
  refine ⟨.ref s.heap.objs.size, _, ?_, rfl, q⟩
  refine d_write I3 (by rw [ep]; exact True.intro) same ⟨w0, hq⟩ ⟨hl, hd, _, (rel.put key eb ry).keeps (fun c ys ec => ?_), w0, es, ep', hq, h2, h3, h4, h5⟩
  rw [upd_ne (ne_of ec ep (fun z => nomatch z))]
  exact ec
end
end Dt

set_option Elab.async false
set_option linter.all false
set_option maxRecDepth 100000
set_option maxHeartbeats 4000000
/-! Displays within displays: what a reading lays, told without the heap's steps. -/
namespace K90
open PySem PySem.Spec PyProof.Rows L2 Ru Rp Mch
def VB (H0 : Hp) (σ : L2.St) (R : Hp → V → Prop) (te : TE) : Prop := ∀ H, Same H0 H → ∀ Q : V → Hp → Prop, (∀ v H', Same H H' → R H' v → Q v H') → te σ H Q
def VBs (H0 : Hp) (σ : L2.St) (R : Hp → List V → Prop) (ta : TA) : Prop := ∀ H, Same H0 H → ∀ Q : List V → Hp → Prop, (∀ v H', Same H H' → R H' v → Q v H') → ta σ H Q
def Mo {α : Type} (R : Hp → α → Prop) : Prop := ∀ H H' v, Same H H' → R H v → R H' v
def TupOf (K : PySem.W.Frag) (R : Hp → List V → Prop) (H : Hp) (v : V) : Prop := ∃ p vs, v = .ref p ∧ SqT K H p vs ∧ R H vs
def LstOf (R : Hp → List V → Prop) (H : Hp) (v : V) : Prop := ∃ p vs, v = .ref p ∧ H p = some (.lst vs) ∧ R H vs
def ConsOf (R : Hp → V → Prop) (S : Hp → List V → Prop) (H : Hp) (vs : List V) : Prop := ∃ v q, vs = v :: q ∧ R H v ∧ S H q
section
variable {K : PySem.W.Frag} {H0 : Hp} {σ : L2.St} {R : Hp → V → Prop} {S : Hp → List V → Prop} {te : TE} {ta : TA}
theorem mo_tup (h : Mo S) : Mo (TupOf K S) := fun H H' v s ⟨p, vs, e, h1, h2⟩ => ⟨p, vs, e, (TEx.of_same s).sq h1, h _ _ _ s h2⟩
theorem mo_cons (h : Mo R) (g : Mo S) : Mo (ConsOf R S) := fun H H' v s ⟨x, q, e, h1, h2⟩ => ⟨x, q, e, h _ _ _ s h1, g _ _ _ s h2⟩
theorem vb_weak {R' : Hp → V → Prop} (h : VB H0 σ R te) (w : ∀ H v, R H v → R' H v) : VB H0 σ R' te := fun H s Q q => h H s Q fun v H' s' r => q v H' s' (w _ _ r)
theorem vbs_weak {S' : Hp → List V → Prop} (h : VBs H0 σ S ta) (w : ∀ H v, S H v → S' H v) : VBs H0 σ S' ta := fun H s Q q => h H s Q fun v H' s' r => q v H' s' (w _ _ r)
theorem vb_c {v : V} : VB H0 σ (fun _ x => x = v) (tC v) := fun H s Q q => q _ _ (Same.refl H) rfl
theorem vb_var {i : Nat} {v : V} (hi : σ[i]? = some (some v)) (h : R H0 v) (m : Mo R) : VB H0 σ R (tVar i) := fun H s Q q => ⟨v, hi, q _ _ (Same.refl H) (m _ _ _ s h)⟩
theorem vb_int {te : TE} {v : V} (h : ∀ H Q, Q v H → te σ H Q) : VB H0 σ (fun _ x => x = v) te := fun H s Q q => h _ _ (q _ _ (Same.refl H) rfl)
theorem vbs_nil : VBs H0 σ (fun _ vs => vs = []) tNil := fun H s Q q => q _ _ (Same.refl H) rfl
theorem vbs_cons (h : VB H0 σ R te) (g : VBs H0 σ S ta) (m : Mo R) : VBs H0 σ (ConsOf R S) (tCons te ta) := fun H s Q q =>
  h H s _ fun v H1 s1 r1 => g H1 (s.trans s1) _ fun vs H2 s2 r2 => q _ _ (s1.trans s2) ⟨v, vs, rfl, m _ _ _ s2 r1, r2⟩
theorem vb_tup (g : VBs H0 σ S ta) (m : Mo S) (hl : ∀ H vs, S H vs → vs.length ≤ 10000000) : VB H0 σ (TupOf K S) (tTup ta) := fun H s Q q =>
  g H s _ fun vs H1 s1 r1 => ⟨sl_le (hl _ _ r1), fun p hp => q _ _ (s1.trans (same_new hp)) ⟨p, vs, rfl, SqT.of upd_same, m _ _ _ (same_new hp) r1⟩⟩
theorem vb_lst (g : VBs H0 σ S ta) (m : Mo S) (hl : ∀ H vs, S H vs → vs.length ≤ 10000000) : VB H0 σ (LstOf S) (tLst ta) := fun H s Q q =>
  g H s _ fun vs H1 s1 r1 => ⟨sl_le (hl _ _ r1), fun p hp => q _ _ (s1.trans (same_new hp)) ⟨p, vs, rfl, upd_same, m _ _ _ (same_new hp) r1⟩⟩
/-! ### cells -/
abbrev CV (K : PySem.W.Frag) (c : Cell) : Hp → V → Prop := fun H v => CellAt K H v c
abbrev CVs (K : PySem.W.Frag) (cs : List Cell) : Hp → List V → Prop := fun H vs => CellsAt K H vs cs
theorem mo_cell {c : Cell} : Mo (CV K c) := fun H H' v s h => h.to (TEx.of_same s)
theorem mo_cells {cs : List Cell} : Mo (CVs K cs) := fun H H' v s h => h.to (TEx.of_same s)
theorem mo_eq {α : Type} {v : α} : Mo (fun _ x => x = v) := fun H H' x s h => h
theorem cbs_nil : VBs H0 σ (CVs K []) tNil := vbs_weak vbs_nil fun H v h => cells_nil.mpr h
theorem cbs_cons {c : Cell} {cs : List Cell} (h : VB H0 σ (CV K c) te) (g : VBs H0 σ (CVs K cs) ta) : VBs H0 σ (CVs K (c :: cs)) (tCons te ta) :=
  vbs_weak (vbs_cons h g mo_cell) fun H v ⟨x, q, e, h1, h2⟩ => cells_cons.mpr ⟨x, q, e, h1, h2⟩
abbrev TV (K : PySem.W.Frag) (cs : List Cell) : Hp → V → Prop := TupOf K (CVs K cs)
theorem tb_tup {cs : List Cell} (g : VBs H0 σ (CVs K cs) ta) (hl : cs.length ≤ 10000000) : VB H0 σ (TV K cs) (tTup ta) := vb_tup g mo_cells fun H vs h => by rw [cells_len h]; exact hl
theorem cb_tup {n : Int} {cs : List Cell} {t1 t2 : TE} (h1 : ∀ H Q, Q (V.int n) H → t1 σ H Q) (h2 : VB H0 σ (TV K cs) t2) : VB H0 σ (CV K (.mk n cs)) (tTup (tCons t1 (tCons t2 tNil))) :=
  vb_weak (vb_tup (K := K) (vbs_cons (vb_int h1) (vbs_cons h2 vbs_nil (mo_tup mo_cells)) mo_eq) (mo_cons mo_eq (mo_cons (mo_tup mo_cells) mo_eq)) (by
    rintro H vs ⟨_, _, rfl, _, _, _, rfl, _, rfl⟩
    simp)) fun H v => by
    rintro ⟨p, vs, rfl, e, _, _, rfl, rfl, _, _, rfl, ⟨b, ws, rfl, hb, hc⟩, rfl⟩
    exact cellAt_mk.mpr ⟨p, b, ws, rfl, e, hb, hc⟩
theorem mo_tv {cs : List Cell} : Mo (TV K cs) := mo_tup mo_cells
theorem tb_rep {c : Cell} {k : Nat} {t1 t2 : TE} (h : VB H0 σ (TV K [c]) t1) (h2 : ∀ H Q, Q (V.int (k : Int)) H → t2 σ H Q) (hk : k ≤ 1000) : VB H0 σ (TV K (List.replicate k c)) (tOp (Tm.rRepA K) t1 t2) := fun H s Q q =>
  h H s _ fun v H1 s1 ⟨p, vs, e, h1, hc⟩ => h2 _ _ (by
    obtain ⟨x, _, rfl, hx, hq⟩ := cells_cons.mp hc
    rw [cells_nil.mp hq] at h1
    refine ⟨p, (k : Int), [x], e, rfl, h1, by simp, by omega, by omega, by simp, fun r H' s' hr => q _ _ (s1.trans s') ⟨r, _, rfl, hr, ?_⟩⟩
    rw [Int.toNat_natCast]
    exact cells_reps (hx.to (TEx.of_same s')) k)
theorem tb_cat {cs ds : List Cell} {t1 t2 : TE} (h : VB H0 σ (TV K cs) t1) (g : VB H0 σ (TV K ds) t2) (hl : cs.length + ds.length ≤ 10000000) : VB H0 σ (TV K (cs ++ ds)) (tOp (rCatA K) t1 t2) := fun H s Q q =>
  h H s _ fun v H1 s1 ⟨p1, v1, e1, h1, c1⟩ => g H1 (s.trans s1) _ fun v2 H2 s2 ⟨p2, w2, e2, h2, c2⟩ => by
    have h1' := (TEx.of_same s2).sq h1
    have c1' : CellsAt K H2 v1 cs := c1.to (TEx.of_same s2)
    have l1 := cells_len c1
    have l2 := cells_len c2
    refine ⟨p1, p2, v1, w2, e1, e2, h1', h2, sl_le (by omega), fun z => ?_, fun z1 z2 => ?_, fun z1 z2 p hp => ?_⟩
    · subst z
      obtain rfl : cs = [] := List.eq_nil_of_length_eq_zero (by simpa using l1.symm)
      exact q _ _ (s1.trans s2) ⟨p2, w2, rfl, h2, c2⟩
    · subst z2
      obtain rfl : ds = [] := List.eq_nil_of_length_eq_zero (by simpa using l2.symm)
      rw [List.append_nil] at q
      exact q _ _ (s1.trans s2) ⟨p1, v1, rfl, h1', c1'⟩
    · exact q _ _ ((s1.trans s2).trans (same_new hp)) ⟨p, _, rfl, SqT.of upd_same, (cells_append c1' c2).to (TEx.of_same (same_new hp))⟩
/-! ### what is asked and what is due -/
structure Ask where
  mo : Str
  na : Str
  cells : List Cell
  word : Str
structure Due where
  na : Str
  cells : List Cell
  cell : Cell
def AskAt (K : PySem.W.Frag) (k : Ask) (H : Hp) (v : V) : Prop := ∃ p c cv, v = .ref p ∧ SqT K H p [.str k.mo, .str k.na, .ref c, .str k.word] ∧ SqT K H c cv ∧ CellsAt K H cv k.cells
def DueAt (K : PySem.W.Frag) (k : Due) (H : Hp) (v : V) : Prop := ∃ p c cv u, v = .ref p ∧ SqT K H p [.str k.na, .ref c, u] ∧ SqT K H c cv ∧ CellsAt K H cv k.cells ∧ CellAt K H u k.cell
theorem mo_ask {k : Ask} : Mo (AskAt K k) := fun H H' v s ⟨p, c, cv, e, h1, h2, h3⟩ => ⟨p, c, cv, e, (TEx.of_same s).sq h1, (TEx.of_same s).sq h2, h3.to (TEx.of_same s)⟩
theorem mo_due {k : Due} : Mo (DueAt K k) := fun H H' v s ⟨p, c, cv, u, e, h1, h2, h3, h4⟩ => ⟨p, c, cv, u, e, (TEx.of_same s).sq h1, (TEx.of_same s).sq h2, h3.to (TEx.of_same s), h4.to (TEx.of_same s)⟩
theorem ask_b {mo na w : Str} {cs : List Cell} {t : TE} (h : VB H0 σ (TV K cs) t) : VB H0 σ (AskAt K ⟨mo, na, cs, w⟩) (tTup (tCons (tC (.str mo)) (tCons (tC (.str na)) (tCons t (tCons (tC (.str w)) tNil))))) :=
  vb_weak (vb_tup (K := K) (vbs_cons vb_c (vbs_cons vb_c (vbs_cons h (vbs_cons vb_c vbs_nil mo_eq) mo_tv) mo_eq) mo_eq) (mo_cons mo_eq (mo_cons mo_eq (mo_cons mo_tv (mo_cons mo_eq mo_eq)))) (by
    rintro H vs ⟨_, _, rfl, _, _, _, rfl, _, _, _, rfl, _, _, _, rfl, _, rfl⟩
    simp)) fun H v => by
    rintro ⟨p, vs, rfl, e, _, _, rfl, rfl, _, _, rfl, rfl, _, _, rfl, ⟨b, ws, rfl, hb, hc⟩, _, _, rfl, rfl, rfl⟩
    exact ⟨p, b, ws, rfl, e, hb, hc⟩
theorem due_b {na : Str} {cs : List Cell} {c : Cell} {t0 t1 t2 : TE} (h0 : ∀ H Q, Q (V.str na) H → t0 σ H Q) (h1 : VB H0 σ (TV K cs) t1) (h2 : VB H0 σ (CV K c) t2) : VB H0 σ (DueAt K ⟨na, cs, c⟩) (tTup (tCons t0 (tCons t1 (tCons t2 tNil)))) :=
  vb_weak (vb_tup (K := K) (vbs_cons (vb_int h0) (vbs_cons h1 (vbs_cons h2 vbs_nil mo_cell) mo_tv) mo_eq) (mo_cons mo_eq (mo_cons mo_tv (mo_cons mo_cell mo_eq))) (by
    rintro H vs ⟨_, _, rfl, _, _, _, rfl, _, _, _, rfl, _, rfl⟩
    simp)) fun H v => by
    rintro ⟨p, vs, rfl, e, _, _, rfl, rfl, _, _, rfl, ⟨b, ws, rfl, hb, hc⟩, u, _, rfl, hu, rfl⟩
    exact ⟨p, b, ws, u, rfl, e, hb, hc, hu⟩
/-- a list of things, each as its plan says -/
def AllAt {α : Type} (R : α → Hp → V → Prop) (ks : List α) (H : Hp) (vs : List V) : Prop := Paired (fun k v => R k H v) ks vs
theorem paired_mono {α : Type} {F G : α → V → Prop} (h : ∀ a v, F a v → G a v) : ∀ {as : List α} {vs : List V}, Paired F as vs → Paired G as vs
  | _, _, .nil => .nil
  | _, _, .cons f t => .cons (h _ _ f) (paired_mono h t)
theorem mo_all {α : Type} {R : α → Hp → V → Prop} (m : ∀ k, Mo (R k)) {ks : List α} : Mo (AllAt R ks) := fun H H' v s h => paired_mono (fun a v r => m a _ _ _ s r) h
theorem all_nil {α : Type} {R : α → Hp → V → Prop} : VBs H0 σ (AllAt R ([] : List α)) tNil := fun H s Q q => q _ _ (Same.refl H) .nil
theorem all_cons {α : Type} {R : α → Hp → V → Prop} {a : α} {ks : List α} (m : Mo (R a)) (h : VB H0 σ (R a) te) (g : VBs H0 σ (AllAt R ks) ta) : VBs H0 σ (AllAt R (a :: ks)) (tCons te ta) :=
  vbs_weak (vbs_cons h g m) fun H v => by
    rintro ⟨x, q, rfl, h1, h2⟩
    exact .cons h1 h2
theorem all_get {α : Type} {R : α → Hp → V → Prop} {H : Hp} : ∀ {ks : List α} {vs : List V} (i : Nat) {k : α}, AllAt R ks H vs → ks[i]? = some k → ∃ v, vs[i]? = some v ∧ R k H v
  | _, _, 0, k, .cons f _, e => by
    have e' := Option.some.inj (show some _ = some k from e)
    subst e'
    exact ⟨_, rfl, f⟩
  | _, _, i + 1, k, .cons _ t, e => all_get i t e
  | [], _, i, k, .nil, e => nomatch (show (none : Option α) = some k by simpa using e)
theorem all_len {α : Type} {R : α → Hp → V → Prop} {H : Hp} {ks : List α} {vs : List V} (h : AllAt R ks H vs) : ks.length = vs.length := by
  unfold AllAt at h
  induction h with
  | nil => rfl
  | cons _ _ ih => simp [ih]
theorem all_snoc {α : Type} {R : α → Hp → V → Prop} {H : Hp} {ks : List α} {vs : List V} {k : α} {v : V} (h : AllAt R ks H vs) (g : R k H v) : AllAt R (ks ++ [k]) H (vs ++ [v]) := Paired.snoc h g
theorem all_append {α : Type} {R : α → Hp → V → Prop} {H : Hp} {ks js : List α} {vs ws : List V} (h : AllAt R ks H vs) (g : AllAt R js H ws) : AllAt R (ks ++ js) H (vs ++ ws) := by
  unfold AllAt at *
  induction h with
  | nil => exact g
  | cons f _ ih => exact .cons f ih
theorem all_lst {α : Type} {R : α → Hp → V → Prop} {ks : List α} (m : ∀ k, Mo (R k)) (g : VBs H0 σ (AllAt R ks) ta) (hl : ks.length ≤ 10000000) : VB H0 σ (LstOf (AllAt R ks)) (tLst ta) := vb_lst g (mo_all m) fun H vs h => by rw [← all_len h]; exact hl
end
end K90

set_option Elab.async false
set_option linter.all false
set_option maxRecDepth 100000
set_option maxHeartbeats 4000000
/-! law's two lists, as plain lists. -/
namespace K90
open PySem Mch Rp
def oddC (n a : Int) : List Cell := [.mk n [], .mk ((10 : Int) ^ 30) [], .mk 7 [.mk 9 [], .mk 9 [], .mk 9 []], .mk 0 [.mk 0 [.mk 0 []]], .mk 99 [.mk 1 [], .mk 2 []], .mk a [.mk 0 []]]
def oneC (n a : Int) (b k : Nat) : Cell := (oddC n a).getD ((b + k) % 6) (.mk 0 [])
def handC (n a : Int) (b : Nat) : List Cell := (List.range (1 + b % 3)).map (oneC n a b)
def grownC (a : Int) (b : Nat) : Cell := wideC a (255 - b % 2)
def otherC (a n : Int) : Cell := .mk (a + 1 + n) []
def asks (a n : Int) (b : Nat) : List Ask :=
  [⟨"Ma", "maybe", [.mk a []], "BadName"⟩, ⟨"Ma", "short", [.mk a []], "BadValue"⟩, ⟨"Mx", "c0", [], "BadName"⟩, ⟨"Ma", "cx", List.replicate (b % 3) (.mk 0 []), "BadName"⟩,
   ⟨"Ma", "hands", (handC n a b).drop 1, "BadValue"⟩, ⟨"Ma", "hands", handC n a b ++ [.mk 0 []], "BadValue"⟩, ⟨"Ma", "c0", [.mk 0 []], "BadValue"⟩, ⟨"Ma", "two", [], "BadValue"⟩,
   ⟨"Other", "lack", [], "BadName"⟩, ⟨"Ma", "grow", [wideC a (256 - b % 2)], "TooLong"⟩, ⟨"Ma", "waste", [wideC a 256], "TooLong"⟩, ⟨"Ma", "past", [wideC a (256 - b % 2)], "TooLong"⟩]
def dues (a n : Int) (b high : Nat) : List Due :=
  [⟨"c0", [], .mk n []⟩, ⟨nm "t" high, [], .mk n []⟩, ⟨"hands", handC n a b, oneC n a b (b % (1 + b % 3))⟩, ⟨"maybe", [otherC a n], otherC a n⟩, ⟨"short", [otherC a n], otherC a n⟩, ⟨"c0", [], .mk n []⟩,
   ⟨"grow", [grownC a b], growC b n (grownC a b)⟩, ⟨"hands", List.replicate (1 + b % 3) (wideC a 256), wideC a 256⟩, ⟨"waste", [wideC a 255], .mk a []⟩, ⟨"past", [grownC a b], .mk a []⟩]
section
variable {many high b : Nat} {a n : Int}
theorem hand_len : (handC n a b).length = 1 + b % 3 := by simp [handC]
theorem hand_at {k : Nat} (h : k < 1 + b % 3) : (handC n a b)[k]? = some (oneC n a b k) := by simp [handC, h]
theorem c0_at (hm : 0 < many) : lawB many high a b n ("Ma", "c0") = some (0, linkRows 0) := by
  have h := law_link (high := high) (a := a) (b := b) (n := n) hm
  exact h
theorem grown_size : (grownC a b).size = 255 - b % 2 := wide_size a (by omega)
theorem grow_size : (wideC a (256 - b % 2)).size = 256 - b % 2 := wide_size a (by omega)
theorem asks_run (hm : 0 < many) {i : Nat} (hi : i < 12) : ∃ (k : Ask) (oo : Out), (asks a n b)[i]? = some k ∧ RunsTo (lawB many high a b n) (k.mo, k.na) k.cells oo ∧ wordOf oo = k.word ∧ k.cells.length ≤ 1000 := by
  have b3 : b % 3 < 3 := Nat.mod_lt _ (by decide)
  have b2 : b % 2 < 2 := Nat.mod_lt _ (by decide)
  have z1 := grow_size (a := a) (b := b)
  have z2 : (wideC a 256).size = 256 := wide_size a (by decide)
  rcases (show i = 0 ∨ i = 1 ∨ i = 2 ∨ i = 3 ∨ i = 4 ∨ i = 5 ∨ i = 6 ∨ i = 7 ∨ i = 8 ∨ i = 9 ∨ i = 10 ∨ i = 11 by omega) with rfl | rfl | rfl | rfl | rfl | rfl | rfl | rfl | rfl | rfl | rfl | rfl
  · exact ⟨_, .bad .name, rfl, maybe_bad users_maybe law_lack, rfl, by simp⟩
  · exact ⟨_, .bad .value, rfl, short_bad users_short users_two, rfl, by simp⟩
  · exact ⟨_, .bad .name, rfl, .lack law_mx, rfl, by simp⟩
  · exact ⟨_, .bad .name, rfl, .lack law_cx, rfl, by simp; omega⟩
  · exact ⟨_, .bad .value, rfl, wrong_many users_hands (by simp [hand_len]), rfl, by simp [hand_len]; omega⟩
  · exact ⟨_, .bad .value, rfl, wrong_many users_hands (by simp [hand_len]), rfl, by simp [hand_len]; omega⟩
  · exact ⟨_, .bad .value, rfl, wrong_many (c0_at hm) (by simp), rfl, by simp⟩
  · exact ⟨_, .bad .value, rfl, wrong_many users_two (by simp), rfl, by simp⟩
  · exact ⟨_, .bad .name, rfl, .lack law_lack, rfl, by simp⟩
  · exact ⟨_, .bad .long, rfl, grow_bad users_grow (by omega) (by omega), rfl, by simp⟩
  · exact ⟨_, .bad .long, rfl, waste_bad users_waste (by omega) (by omega), rfl, by simp⟩
  · exact ⟨_, .bad .long, rfl, past_bad users_past users_grow (by omega) (by omega), rfl, by simp⟩
theorem dues_run (hm : many ≤ 2400) (hh : high ≤ 13) (hn : 0 ≤ n) {i : Nat} (hi : i < 10) : ∃ k : Due, (dues a n b high)[i]? = some k ∧ RunsTo (lawB many high a b n) ("Ma", k.na) k.cells (.val k.cell) ∧ k.cells.length ≤ 1000 := by
  have b3 : b % 3 < 3 := Nat.mod_lt _ (by decide)
  have b2 : b % 2 < 2 := Nat.mod_lt _ (by decide)
  have z1 := grown_size (a := a) (b := b)
  have z2 : (wideC a 255).size = 255 := wide_size a (by decide)
  have m3 : b % (1 + b % 3) < 1 + b % 3 := Nat.mod_lt _ (by omega)
  rcases (show i = 0 ∨ i = 1 ∨ i = 2 ∨ i = 3 ∨ i = 4 ∨ i = 5 ∨ i = 6 ∨ i = 7 ∨ i = 8 ∨ i = 9 by omega) with rfl | rfl | rfl | rfl | rfl | rfl | rfl | rfl | rfl | rfl
  · exact ⟨_, rfl, law_c0 hm, by simp⟩
  · exact ⟨_, rfl, law_top hh, by simp⟩
  · exact ⟨_, rfl, hands_ok users_hands hand_len (hand_at m3), by simp [hand_len]; omega⟩
  · exact ⟨_, rfl, maybe_ok users_maybe (by omega), by simp⟩
  · exact ⟨_, rfl, short_ok users_short (by omega), by simp⟩
  · exact ⟨_, rfl, law_c0 hm, by simp⟩
  · exact ⟨_, rfl, grow_ok users_grow (by omega), by simp⟩
  · exact ⟨_, rfl, hands_ok users_hands (by simp) (by simp [m3]), by simp; omega⟩
  · exact ⟨_, rfl, waste_ok users_waste (by omega), by simp⟩
  · exact ⟨_, rfl, past_ok users_past users_grow (by omega), by simp⟩
end
end K90

set_option Elab.async false
set_option linter.all false
set_option maxRecDepth 100000
set_option maxHeartbeats 4000000
/-! Builders of law's displays: wide cells, a piece of a tuple, an item of a tuple. -/
namespace K90
open PySem PySem.Spec PyProof.Rows L2 Ru Rp Mch
section
variable {K : PySem.W.Frag} {H0 : Hp} {σ : L2.St} {R : Hp → V → Prop} {S : Hp → List V → Prop} {te : TE} {ta : TA}
theorem vb_use {Q : VK} (h : VB H0 σ R te) (k : ∀ v H', Same H0 H' → R H' v → Q v H') : te σ H0 Q := h H0 (Same.refl _) Q k
theorem tb_nil : VB H0 σ (TV K []) (tTup tNil) := tb_tup cbs_nil (by simp)
theorem cb_leaf {n : Int} {t1 : TE} (h1 : ∀ H Q, Q (V.int n) H → t1 σ H Q) : VB H0 σ (CV K (.mk n [])) (tTup (tCons t1 (tCons (tTup tNil) tNil))) := cb_tup h1 tb_nil
theorem tb_one {c : Cell} (h : VB H0 σ (CV K c) te) : VB H0 σ (TV K [c]) (tTup (tCons te tNil)) := tb_tup (cbs_cons h cbs_nil) (by simp)
theorem cb_wide {a : Int} {size : Nat} {t1 t2 : TE} (h1 : ∀ H Q, Q (V.int a) H → t1 σ H Q) (h2 : ∀ H Q, Q (V.int (size : Int)) H → t2 σ H Q) (z1 : 106 ≤ size) (z2 : size ≤ 300) :
    VB H0 σ (CV K (wideC a size)) (tCall (spWide K) [] E0 (tCons t1 (tCons t2 tNil))) := fun H s Q q =>
  h1 _ _ (h2 _ _ ⟨a, size, rfl, z1, z2, fun v H' s' hv => q v H' s' hv⟩)
theorem tb_cut1 {cs : List Cell} {i : Nat} {p : Addr} {vs : List V} (hi : σ[i]? = some (some (.ref p))) (hp : SqT K H0 p vs) (hc : CellsAt K H0 vs cs) (hl : 1 ≤ cs.length) :
    VB H0 σ (TV K (cs.drop 1)) (tSl (rSlA K) (tVar i) (tPart (tC (.int 1))) tNoPart) := fun H s Q q => by
  have t := TEx.of_same s
  have l := cells_len hc
  refine ⟨_, hi, _, rfl, cut_any (t.sq hp) fun r H' s' hr => q _ _ s' ⟨r, _, rfl, hr, ?_⟩⟩
  have e : cutV vs (some 1) none = vs.drop 1 := by
    unfold cutV
    have e1 : HT.sIx vs.length 0 (some 1) = 1 := by
      show min 1 vs.length = 1
      omega
    have e2 : HT.sIx vs.length vs.length none = vs.length := rfl
    rw [e1, e2]
    exact List.take_of_length_le (by simp)
  rw [e]
  exact cells_drop 1 (hc.to (t.trans (TEx.of_same s')))
theorem odd_at {n a : Int} {j : Nat} (h : j < 6) : (oddC n a)[j]? = some ((oddC n a).getD j (.mk 0 [])) := by
  have h2 : j < (oddC n a).length := h
  rw [List.getD_eq_getElem?_getD, List.getElem?_eq_getElem h2]
  rfl
theorem cb_grow {b : Nat} {n : Int} {x : Cell} {te tt tf : TE} {tc : TT} (h : ∀ H Q, Q (V.int n) H → te σ H Q) (hc : ∀ H Q, Q (decide (V.int ((b : Int) % 2) = V.int 1)) H → tc σ H Q) (h1 : VB H0 σ (TV K [x, .mk 1 []]) tt) (h2 : VB H0 σ (TV K [x]) tf) :
    VB H0 σ (CV K (growC b n x)) (tTup (tCons te (tCons (tIf tc tt tf) tNil))) := by
  have e : growC b n x = .mk n (if b % 2 = 1 then [x, .mk 1 []] else [x]) := by unfold growC; split <;> rfl
  rw [e]
  refine cb_tup h fun H s Q q => hc H _ ?_
  by_cases z : b % 2 = 1
  · rw [if_pos z] at q
    rw [if_pos (decide_eq_true (by rw [show (b : Int) % 2 = 1 by omega]))]
    exact h1 H s Q q
  · rw [if_neg z] at q
    rw [if_neg (by rw [decide_eq_true_eq]; intro w; injection w with w; omega)]
    exact h2 H s Q q
theorem lst_use {α : Type} {R : α → Hp → V → Prop} {ks : List α} {Q : VK} (m : ∀ k, Mo (R k)) (g : VBs H0 σ (AllAt R ks) ta) (hl : ks.length ≤ 10000000) (k : ∀ p vs H', H0 p = none → Same H0 H' → H' p = some (.lst vs) → AllAt R ks H' vs → Q (.ref p) H') : tLst ta σ H0 Q :=
  g H0 (Same.refl _) _ fun vs H1 s1 r1 => ⟨sl_le (by rw [← all_len r1]; exact hl), fun p hp => k p vs _ (s1.free hp) (s1.trans (same_new hp)) upd_same (mo_all m _ _ _ (same_new hp) r1)⟩
theorem tex_lst {H H' : Hp} {l : Addr} {xs : List V} (hl : H l = some (.lst xs)) (k : But1 H H' l) : TEx H H' := fun a zs r => by
  have n1 : a ≠ l := by
    rintro rfl
    rcases r with r | ⟨o, r⟩ <;> (rw [hl] at r; cases r)
  rcases r with r | ⟨o, r⟩
  · exact Or.inl (k _ _ r n1)
  · exact Or.inr ⟨o, k _ _ r n1⟩
theorem ask_to {H H' : Hp} {k : Ask} {v : V} (t : TEx H H') (h : AskAt K k H v) : AskAt K k H' v := by
  obtain ⟨p, c, cv, e, h1, h2, h3⟩ := h
  exact ⟨p, c, cv, e, t.sq h1, t.sq h2, h3.to t⟩
theorem due_to {H H' : Hp} {k : Due} {v : V} (t : TEx H H') (h : DueAt K k H v) : DueAt K k H' v := by
  obtain ⟨p, c, cv, u, e, h1, h2, h3, h4⟩ := h
  exact ⟨p, c, cv, u, e, t.sq h1, t.sq h2, h3.to t, h4.to t⟩
theorem dues_to {H H' : Hp} {ks : List Due} {vs : List V} (t : TEx H H') (h : AllAt (DueAt K) ks H vs) : AllAt (DueAt K) ks H' vs := paired_mono (fun _ _ r => due_to t r) h
theorem app_due {D : L2.Ends} {H : Hp} {i : Nat} {l : Addr} {vs : List V} {ks : List Due} {k : Due} (hσ : σ[i]? = some (some (.ref l))) (e : H l = some (.lst vs)) (hR : AllAt (DueAt K) ks H vs) (h : VB H σ (DueAt K k) te) (hl : ks.length ≤ 1000)
    (q : ∀ H' vs', But1 H H' l → H' l = some (.lst vs') → AllAt (DueAt K) (ks ++ [k]) H' vs' → D.nx σ H') : tDrop (tBM K "list" rAppend (tVar i) (tCons te tNil)) D σ H := by
  have ll := all_len hR
  refine ⟨_, hσ, .inl ⟨rfl, _, SqL.of e⟩, h H (Same.refl _) _ fun v H9 s9 hr => ?_⟩
  refine ⟨l, vs, v, rfl, rfl, s9 _ _ e, sl_lt (by omega), ?_⟩
  have t10 : TEx H9 (upd H9 l (.lst (vs ++ [v]))) := TEx.upd_lst (s9 _ _ e)
  exact q _ _ (fun b o g nb => by rw [upd_ne nb]; exact s9 _ _ g) upd_same (all_snoc (dues_to ((TEx.of_same s9).trans t10) hR) (due_to t10 hr))
theorem ext_due {D : L2.Ends} {H : Hp} {i : Nat} {l : Addr} {vs : List V} {ks js : List Due} (hσ : σ[i]? = some (some (.ref l))) (e : H l = some (.lst vs)) (hR : AllAt (DueAt K) ks H vs) (h : VB H σ (LstOf (AllAt (DueAt K) js)) (tLst ta)) (hl : ks.length ≤ 1000) (hl2 : js.length ≤ 1000)
    (q : ∀ H' vs', But1 H H' l → H' l = some (.lst vs') → AllAt (DueAt K) (ks ++ js) H' vs' → D.nx σ H') : tDrop (tBM K "list" rExtend (tVar i) (tCons (tLst ta) tNil)) D σ H := by
  have ll := all_len hR
  refine ⟨_, hσ, .inl ⟨rfl, _, SqL.of e⟩, h H (Same.refl _) _ fun v H9 s9 hr => ?_⟩
  obtain ⟨l2, v2, rfl, el, hjs⟩ := hr
  have l3 := all_len hjs
  refine ⟨l, l2, _, _, rfl, rfl, s9 _ _ e, el, sl_le (by omega), ?_⟩
  have t10 : TEx H9 (upd H9 l (.lst (vs ++ v2))) := TEx.upd_lst (s9 _ _ e)
  exact q _ _ (fun b o g nb => by rw [upd_ne nb]; exact s9 _ _ g) upd_same (all_append (dues_to ((TEx.of_same s9).trans t10) hR) (dues_to t10 hjs))
end
section
variable {K : PySem.W.Frag} {H0 : Hp} {σ : L2.St}
theorem db_read {g : Nat} {rs : List (Row Nm)} {ti te : TE} (hi : ∀ H Q, Q (V.int (g : Int)) H → ti σ H Q) (h : RsB K H0 σ te rs) : DB K H0 σ (tTup (tCons ti (tCons te tNil))) g rs := fun H s Q q =>
  hi _ _ (h H s _ fun v H1 s1 hrs => ⟨sl_le (by show 2 ≤ 10000000; decide), fun p hp => q _ _ (s1.trans (same_new hp)) ⟨p, v, rfl, SqT.of upd_same, hrs.to (TEx.upd_new hp)⟩⟩)
/-- a text that is read -/
def TxB (H0 : Hp) (σ : L2.St) (z : Str) (t : TE) : Prop := ∀ H, Same H0 H → ∀ Q : VK, Q (.str z) H → t σ H Q
theorem tx_c {z : Str} : TxB H0 σ z (tC (.str z)) := fun H s Q q => q
theorem cb_run {i : Nat} {d : Addr} {n : Nat} {kvs : List (List Key × V)} {B : Built Nm} {mo na : Str} {tmo tna tc : TE} {cells : List Cell} {v : Cell} (hσ : σ[i]? = some (some (.ref d))) (hB : DictAt K H0 d n kvs B) (h1 : TxB H0 σ mo tmo) (h2 : TxB H0 σ na tna) (h3 : VB H0 σ (TV K cells) tc)
    (hr : RunsTo B (mo, na) cells (.val v)) (hl : cells.length ≤ 1000) : VB H0 σ (CV K v) (tCall (spRunV K) [] E0 (tCons (tVar i) (tCons tmo (tCons tna (tCons tc tNil))))) := fun H s Q q =>
  ⟨_, hσ, h1 H s _ (h2 H s _ (h3 H s _ fun x H1 s1 ⟨p, cv, e, hp, hc⟩ => by
    subst e
    have hB1 := hB.same (s.trans s1)
    exact ⟨d, p, kvs, B, mo, na, cv, cells, v, rfl, hB1.at_, hB1.built, hp, hc, hr, hl, fun u H' s' hu => q u H' (s1.trans s') hu⟩))⟩
theorem tx_word {i : Nat} {d : Addr} {n : Nat} {kvs : List (List Key × V)} {B : Built Nm} {mo na : Str} {tmo tna tc : TE} {cells : List Cell} {oo : Out} (hσ : σ[i]? = some (some (.ref d))) (hB : DictAt K H0 d n kvs B) (h1 : TxB H0 σ mo tmo) (h2 : TxB H0 σ na tna) (h3 : VB H0 σ (TV K cells) tc)
    (hr : RunsTo B (mo, na) cells oo) (hl : cells.length ≤ 1000) : VB H0 σ (fun _ x => x = .str (wordOf oo)) (tCall (spWord K) [] E0 (tCons (tVar i) (tCons tmo (tCons tna (tCons tc tNil))))) := fun H s Q q =>
  ⟨_, hσ, h1 H s _ (h2 H s _ (h3 H s _ fun x H1 s1 ⟨p, cv, e, hp, hc⟩ => by
    subst e
    have hB1 := hB.same (s.trans s1)
    exact ⟨d, p, kvs, B, mo, na, cv, cells, oo, rfl, hB1.at_, hB1.built, hp, hc, hr, hl, fun H' s' => q _ H' (s1.trans s') rfl⟩))⟩
theorem alike_b {t1 t2 : TE} {c : Cell} (h1 : VB H0 σ (CV K c) t1) (h2 : VB H0 σ (CV K c) t2) (hd : c.depth ≤ 14) (hz : c.size ≤ 1000000) {Q : Bool → Hp → Prop} (q : ∀ H', Same H0 H' → Q true H') : tB (tCall (spAlike K 28) [] E0 (tCons t1 (tCons t2 tNil))) σ H0 Q :=
  h1 H0 (Same.refl _) _ fun x H1 s1 hx => h2 H1 s1 _ fun y H2 s2 hy => ⟨x, y, rfl, tw_cell 14 hd hz (hx.to (TEx.of_same s2)) hy, fun H' s' => ⟨true, rfl, q H' ((s1.trans s2).trans s')⟩⟩
/-- an item of a tuple in a list -/
theorem tb_item {p c : Addr} {xs cv : List V} {cs : List Cell} {tp : TE} {z : Int} (hp : ∀ H, Same H0 H → ∀ Q : VK, Q (.ref p) H → tp σ H Q) (hx : SqT K H0 p xs) (hz : atI xs z = some (.ref c)) (hc : SqT K H0 c cv) (hcc : CellsAt K H0 cv cs) : VB H0 σ (TV K cs) (tOp (rIxT K) tp (tC (.int z))) := fun H s Q q =>
  hp H s _ ⟨p, xs, z, _, rfl, rfl, (TEx.of_same s).sq hx, hz, q _ _ (Same.refl _) ⟨c, cv, rfl, (TEx.of_same s).sq hc, hcc.to (TEx.of_same s)⟩⟩
theorem cb_item {p : Addr} {xs : List V} {u : V} {c : Cell} {tp : TE} {z : Int} (hp : ∀ H, Same H0 H → ∀ Q : VK, Q (.ref p) H → tp σ H Q) (hx : SqT K H0 p xs) (hz : atI xs z = some u) (hc : CellAt K H0 u c) : VB H0 σ (CV K c) (tOp (rIxT K) tp (tC (.int z))) := fun H s Q q =>
  hp H s _ ⟨p, xs, z, _, rfl, rfl, (TEx.of_same s).sq hx, hz, q _ _ (Same.refl _) (hc.to (TEx.of_same s))⟩
theorem tx_item {p : Addr} {xs : List V} {w : Str} {tp : TE} {z : Int} (hp : ∀ H, Same H0 H → ∀ Q : VK, Q (.ref p) H → tp σ H Q) (hx : SqT K H0 p xs) (hz : atI xs z = some (.str w)) : TxB H0 σ w (tOp (rIxT K) tp (tC (.int z))) := fun H s Q q =>
  hp H s _ ⟨p, xs, z, _, rfl, rfl, (TEx.of_same s).sq hx, hz, q⟩
end
theorem odd_small {n a : Int} {j : Nat} : ((oddC n a).getD j (.mk 0 [])).depth ≤ 5 ∧ ((oddC n a).getD j (.mk 0 [])).size ≤ 10 := by
  by_cases h : j < 6
  · rcases (show j = 0 ∨ j = 1 ∨ j = 2 ∨ j = 3 ∨ j = 4 ∨ j = 5 by omega) with rfl | rfl | rfl | rfl | rfl | rfl <;> simp [oddC, Cell.depth, depths, Cell.size, sizes]
  · rw [List.getD_eq_getElem?_getD, List.getElem?_eq_none (by show 6 ≤ j; omega)]
    simp [Cell.depth, depths, Cell.size, sizes]
theorem due_small {many high b : Nat} {a n : Int} {i : Nat} {k : Due} (hi : i < 10) (h : (dues a n b high)[i]? = some k) : k.cell.depth ≤ 14 ∧ k.cell.size ≤ 1000000 := by
  have b2 : b % 2 < 2 := Nat.mod_lt _ (by decide)
  have z1 := grown_size (a := a) (b := b)
  have z2 : (wideC a 256).size = 256 := wide_size a (by decide)
  have y1 : (grownC a b).depth ≤ 5 := wide_depth _ _
  have y2 : (wideC a 256).depth ≤ 5 := wide_depth _ _
  rcases (show i = 0 ∨ i = 1 ∨ i = 2 ∨ i = 3 ∨ i = 4 ∨ i = 5 ∨ i = 6 ∨ i = 7 ∨ i = 8 ∨ i = 9 by omega) with rfl | rfl | rfl | rfl | rfl | rfl | rfl | rfl | rfl | rfl <;> (obtain rfl := Option.some.inj h; dsimp only)
  · simp [Cell.depth, depths, Cell.size, sizes]
  · simp [Cell.depth, depths, Cell.size, sizes]
  · have := odd_small (n := n) (a := a) (j := (b + b % (1 + b % 3)) % 6)
    unfold oneC
    omega
  · simp [otherC, Cell.depth, depths, Cell.size, sizes]
  · simp [otherC, Cell.depth, depths, Cell.size, sizes]
  · simp [Cell.depth, depths, Cell.size, sizes]
  · unfold growC
    split <;> simp only [Cell.depth, depths, Cell.size, sizes] <;> omega
  · omega
  · simp [Cell.depth, depths, Cell.size, sizes]
  · simp [Cell.depth, depths, Cell.size, sizes]
end K90

set_option Elab.async false
set_option linter.all false
set_option maxRecDepth 100000
set_option maxHeartbeats 16000000
namespace K90
open PySem PySem.Spec PyProof.Rows L2 Ru Rp Mch
section
variable {P : Program} {w : World} {K : PySem.W.Frag} {mg : Str → Option Value} {base : Heap}
abbrev N_law : List Str := ["script", "deck", "cell", "way", "number", "a", "b", "many", "built", "k", "high", "copy", "odd", "handed", "other", "refused", "due", "grown", "one"]
theorem sc_law : FnScope N_law ["script"] (defScope s_law) := ⟨rfl, rfl, rfl, by decide +kernel, rfl, by decide +kernel, by decide +kernel⟩
theorem bl_true {Q : VK} {H : Hp} {p : Prop} {i : Decidable p} (h : p) (k : Q (.bl true) H) : Q (.bl (@decide p i)) H := by
  rw [decide_eq_true h]
  exact k
theorem put_any {D : L2.Ends} {σ : L2.St} {H : Hp} {i : Nat} {mo na : Str} {tk tv : TE} {d : Addr} {n : Nat} {kvs : List (List Key × V)} {B : Built Nm} {g : Nat} {rs : List (Row Nm)} (hσ : σ[i]? = some (some (.ref d))) (h : DictAt K H d n kvs B) (hn : n ≤ 100000) (hv : DB K H σ tv g rs)
    (hk : ∀ (H1 : Hp) (Q : VK), (∀ p, H1 p = none → Q (.ref p) (upd H1 p (.tup [.str mo, .str na]))) → tk σ H1 Q)
    (k : ∀ H' kvs', But1 H H' d → DictAt K H' d (n + 1) kvs' (Bset B (mo, na) (g, rs)) → D.nx σ H') : sDPut (tVar i) tk tv D σ H :=
  hv H (Same.refl H) _ fun v H1 s1 hdf => put_key hσ (h.same s1) hn hdf hk fun H' kvs' b hB => k H' kvs' (fun x o e nx => b _ _ (s1 _ _ e) nx) hB
def spLaw (K : PySem.W.Frag) : Sp := fun vs H Q _ => ∃ (sc : Addr) (ns : List Int), vs = [.ref sc] ∧ SqL K H sc (ns.map V.int) ∧ ns.length ≤ 63 ∧ ∀ H', Q (.bl true) H'
theorem ok_law (T : Txt K mg) : FnOk P w K mg base CX0 34 T.f_law T.fd_law ["script"] (spLaw K) := by
  refine T.F_law.ok sc_law (fun vs H Q E h => ?_) (fun cdv A outer sh H vs Q E hr h => ?_)
  · obtain ⟨sc, ns, rfl, _⟩ := h
    rfl
  · obtain ⟨sc, ns, rfl, hS, hlen, k⟩ := h
    have nd := sc_law.nd
    have hu := hu_of hr
    have G__law_deck : FnOk P w K mg base CX0 1 T.f__law_deck T.fd__law_deck ["script", "many"] (spDeck K) := ok_deck T
    have G__law_take : FnOk P w K mg base CX0 1 T.f__law_take T.fd__law_take ["deck", "many"] spTake := ok_take T
    have G__law_many_calls : FnOk P w K mg base CX0 33 T.f__law_many_calls T.fd__law_many_calls ["way"] spManyCalls := ok_many_calls T
    have G__law_many_rows : FnOk P w K mg base CX0 33 T.f__law_many_rows T.fd__law_many_rows ["more"] spManyRows := ok_many_rows T
    have G__law_word : FnOk P w K mg base CX0 32 T.f__law_word T.fd__law_word ["built", "module", "name", "cells"] (spWord K) := ok_word T
    have G__law_tree : FnOk P w K mg base CX0 1 T.f__law_tree T.fd__law_tree ["built", "high", "leaf"] (spTree K) := ok_tree T
    have G__law_users : FnOk P w K mg base CX0 1 T.f__law_users T.fd__law_users ["built", "a", "b", "number"] (spUsers K) := ok_users T
    have G__law_copy : FnOk P w K mg base CX0 1 T.f__law_copy T.fd__law_copy ["built"] spCopy := ok_copy T
    have G__law_wide : FnOk P w K mg base CX0 1 T.f__law_wide T.fd__law_wide ["a", "size"] (spWide K) := ok_wide T
    have G__law_alike : FnOk P w K mg base CX0 30 T.f__law_alike T.fd__law_alike ["told", "due"] (spAlike K 28) := ok_alike T 28
    have G_run : FnOk P w K mg base CX0 31 T.f_run T.fd_run ["built", "module", "name", "cells"] (spRunV K) := ok_runV T
    have hr__law_deck : Room 1 _ := hr.mono (by decide)
    have hr__law_take : Room 1 _ := hr.mono (by decide)
    have hr__law_many_calls : Room 33 _ := hr
    have hr__law_many_rows : Room 33 _ := hr
    have hr__law_word : Room 32 _ := hr.mono (by decide)
    have hr__law_tree : Room 1 _ := hr.mono (by decide)
    have hr__law_users : Room 1 _ := hr.mono (by decide)
    have hr__law_copy : Room 1 _ := hr.mono (by decide)
    have hr__law_wide : Room 1 _ := hr.mono (by decide)
    have hr__law_alike : Room 30 _ := hr.mono (by decide)
    have hr_run : Room 31 _ := hr.mono (by decide)
    refine ⟨_, (pss_cons (ps_set (i := 1) nd rfl (Or.inl rfl) (pe_call G__law_deck hr__law_deck rfl T.g__law_deck T.k__law_deck T.b__law_deck .nil pass0 (pa_cons (pv 0) (pa_cons pe_int pa_nil))))
          (pss_cons (ps_set (i := 2) nd rfl (Or.inl rfl) (pe_call G__law_take hr__law_take rfl T.g__law_take T.k__law_take T.b__law_take .nil pass0 (pa_cons (pv 1) (pa_cons pe_int pa_nil))))
          (pss_cons (ps_if (pt_cmpR op_eq (pe_op op_mod (pe_callTy call_int1 (by rfl) T.z_int (by decide +kernel) (pa_cons (pv 2) pa_nil)) pe_int) pe_int (nomark _))
            (pss_cons (ps_set (i := 3) nd rfl (Or.inl rfl) (pe_call G__law_take hr__law_take rfl T.g__law_take T.k__law_take T.b__law_take .nil pass0 (pa_cons (pv 1) (pa_cons pe_int pa_nil))))
            (pss_cons (ps_if (pt_cmpR op_lt (pv 3) pe_int (nomark _))
              (pss_one (ps_ret (pe_call G__law_many_calls hr__law_many_calls rfl T.g__law_many_calls T.k__law_many_calls T.b__law_many_calls .nil pass0 (pa_cons (pv 3) pa_nil))))
              pss_nil)
            (pss_one (ps_ret (pe_cmpR op_eq (pe_call G__law_word hr__law_word rfl T.g__law_word T.k__law_word T.b__law_word .nil pass0 (pa_cons (Dt.pe_dispT hu (pe_tup (pa_cons pe_str (pa_cons pe_str pa_nil))) (pe_tup (pa_cons pe_int (pa_cons (pe_tup (pa_cons (pe_tup (pa_cons pe_str (pa_cons pe_str (pa_cons pe_str (pa_cons pe_int pa_nil))))) (pa_cons (pe_tup (pa_cons pe_str pa_nil)) pa_nil))) pa_nil)))) (pa_cons pe_str (pa_cons pe_str (pa_cons (pe_tup pa_nil) pa_nil))))) pe_str (nomark _))))))
            pss_nil)
          (pss_cons (ps_if (pt_cmpR op_eq (pe_op op_mod (pe_callTy call_int1 (by rfl) T.z_int (by decide +kernel) (pa_cons (pv 2) pa_nil)) pe_int) pe_int (nomark _))
            (pss_one (ps_ret (pe_call G__law_many_rows hr__law_many_rows rfl T.g__law_many_rows T.k__law_many_rows T.b__law_many_rows .nil pass0 (pa_cons (pe_call G__law_take hr__law_take rfl T.g__law_take T.k__law_take T.b__law_take .nil pass0 (pa_cons (pv 1) (pa_cons pe_int pa_nil))) pa_nil))))
            pss_nil)
          (pss_cons (ps_set (i := 4) nd rfl (Or.inl rfl) (pe_call G__law_take hr__law_take rfl T.g__law_take T.k__law_take T.b__law_take .nil pass0 (pa_cons (pv 1) (pa_cons pe_int pa_nil))))
          (pss_cons (ps_set (i := 5) nd rfl (Or.inl rfl) (pe_call G__law_take hr__law_take rfl T.g__law_take T.k__law_take T.b__law_take .nil pass0 (pa_cons (pv 1) (pa_cons pe_int pa_nil))))
          (pss_cons (ps_set (i := 6) nd rfl (Or.inr rfl) (pe_call G__law_take hr__law_take rfl T.g__law_take T.k__law_take T.b__law_take .nil pass0 (pa_cons (pv 1) (pa_cons pe_int pa_nil))))
          (pss_cons (ps_set (i := 7) nd rfl (Or.inl rfl) (pe_ix (show IxR _ (rIxL K) from ix_list) (pe_lst (pa_cons pe_int (pa_cons pe_int (pa_cons pe_int (pa_cons pe_int pa_nil))))) (pe_call G__law_take hr__law_take rfl T.g__law_take T.k__law_take T.b__law_take .nil pass0 (pa_cons (pv 1) (pa_cons pe_int pa_nil))) (fun _ _ => rfl)))
          (pss_cons (ps_set (i := 8) nd rfl (Or.inl rfl) pe_dnewT)
          (pss_cons (ps_for PassesOwn.never rfl (pi_range1 rfl T.z_range (pa_cons (pv 7) pa_nil)) (pg_name (i := 9) nd rfl (Or.inl rfl))
            (pss_one (ps_dput hu (pv 8) (pe_tup (pa_cons pe_str (pa_cons (pe_op op_add_str pe_str (pe_callTy call_str_int (by rfl) T.z_str (by decide +kernel) (pa_cons (pv 9) pa_nil))) pa_nil))) (pe_tup (pa_cons pe_int (pa_cons (pe_tup (pa_cons (pe_tup (pa_cons pe_str (pa_cons pe_str (pa_cons (pe_op op_add_str pe_str (pe_callTy call_str_int (by rfl) T.z_str (by decide +kernel) (pa_cons (pe_op op_add (pv 9) pe_int) pa_nil))) (pa_cons pe_int pa_nil))))) (pa_cons (pe_tup (pa_cons pe_str pa_nil)) pa_nil))) pa_nil))) rfl)))
          (pss_cons (ps_dput hu (pv 8) (pe_tup (pa_cons pe_str (pa_cons (pe_op op_add_str pe_str (pe_callTy call_str_int (by rfl) T.z_str (by decide +kernel) (pa_cons (pv 7) pa_nil))) pa_nil))) (pe_tup (pa_cons pe_int (pa_cons (pe_tup (pa_cons (pe_tup (pa_cons pe_str (pa_cons (pv 4) (pa_cons pe_int pa_nil)))) (pa_cons (pe_tup (pa_cons pe_str pa_nil)) pa_nil))) pa_nil))) rfl)
          (pss_cons (ps_set (i := 10) nd rfl (Or.inl rfl) (pe_ix (show IxR _ (rIxL K) from ix_list) (pe_lst (pa_cons pe_int (pa_cons pe_int (pa_cons pe_int (pa_cons pe_int (pa_cons pe_int (pa_cons pe_int pa_nil))))))) (pe_call G__law_take hr__law_take rfl T.g__law_take T.k__law_take T.b__law_take .nil pass0 (pa_cons (pv 1) (pa_cons pe_int pa_nil))) (fun _ _ => rfl)))
          (pss_cons (ps_expr (pe_call G__law_tree hr__law_tree rfl T.g__law_tree T.k__law_tree T.b__law_tree .nil pass0 (pa_cons (pv 8) (pa_cons (pv 10) (pa_cons (pe_lst (pa_cons (pe_tup (pa_cons pe_str (pa_cons (pv 4) (pa_cons pe_int pa_nil)))) (pa_cons (pe_tup (pa_cons pe_str pa_nil)) pa_nil))) pa_nil)))))
          (pss_cons (ps_expr (pe_call G__law_users hr__law_users rfl T.g__law_users T.k__law_users T.b__law_users .nil pass0 (pa_cons (pv 8) (pa_cons (pv 5) (pa_cons (pv 6) (pa_cons (pv 4) pa_nil))))))
          (pss_cons (ps_set (i := 11) nd rfl (Or.inl rfl) (pe_call G__law_copy hr__law_copy rfl T.g__law_copy T.k__law_copy T.b__law_copy .nil pass0 (pa_cons (pv 8) pa_nil)))
          (pss_cons (ps_set (i := 12) nd rfl (Or.inr rfl) (pe_lst (pa_cons (pe_tup (pa_cons (pv 4) (pa_cons (pe_tup pa_nil) pa_nil))) (pa_cons (pe_tup (pa_cons (pe_op op_pow pe_int pe_int) (pa_cons (pe_tup pa_nil) pa_nil))) (pa_cons (pe_tup (pa_cons pe_int (pa_cons (pe_op Tm.op_repA (pe_tup (pa_cons (pe_tup (pa_cons pe_int (pa_cons (pe_tup pa_nil) pa_nil))) pa_nil)) pe_int) pa_nil))) (pa_cons (pe_tup (pa_cons pe_int (pa_cons (pe_tup (pa_cons (pe_tup (pa_cons pe_int (pa_cons (pe_tup (pa_cons (pe_tup (pa_cons pe_int (pa_cons (pe_tup pa_nil) pa_nil))) pa_nil)) pa_nil))) pa_nil)) pa_nil))) (pa_cons (pe_tup (pa_cons pe_int (pa_cons (pe_tup (pa_cons (pe_tup (pa_cons pe_int (pa_cons (pe_tup pa_nil) pa_nil))) (pa_cons (pe_tup (pa_cons pe_int (pa_cons (pe_tup pa_nil) pa_nil))) pa_nil))) pa_nil))) (pa_cons (pe_tup (pa_cons (pv 5) (pa_cons (pe_tup (pa_cons (pe_tup (pa_cons pe_int (pa_cons (pe_tup pa_nil) pa_nil))) pa_nil)) pa_nil))) pa_nil))))))))
          (pss_cons (ps_set (i := 13) nd rfl (Or.inl rfl) (pe_callTy call_tuple_of (by rfl) T.z_tuple (by decide +kernel) (pa_cons (pe_lc (own := [("k", 9)]) (g := gName 9) (tt := tYes) rfl nd (pi_range1 rfl T.z_range (pa_cons (pe_op op_add pe_int (pe_op op_mod (pv 6) pe_int)) pa_nil)) (blkOk_by (own := [("k", 9)]) (N := N_law) (sc := defScope s_law) (by decide +kernel)) (fun _ _ _ _ _ => pg_name (i := 9) nd rfl (Or.inl rfl)) (fun _ _ _ _ _ => pts_nil) (fun _ _ _ _ _ => (pe_ix (show IxR _ (rIxL K) from ix_list) (pv 12) (pe_op op_mod (pe_op op_add (pv 6) (pv 9)) pe_int) (fun _ _ => rfl)))) pa_nil)))
          (pss_cons (ps_set (i := 14) nd rfl (Or.inl rfl) (pe_tup (pa_cons (pe_op op_add (pe_op op_add (pv 5) pe_int) (pv 4)) (pa_cons (pe_tup pa_nil) pa_nil))))
          (pss_cons (ps_set (i := 15) nd rfl (Or.inl rfl) (pe_lst (pa_cons (pe_tup (pa_cons pe_str (pa_cons pe_str (pa_cons (pe_tup (pa_cons (pe_tup (pa_cons (pv 5) (pa_cons (pe_tup pa_nil) pa_nil))) pa_nil)) (pa_cons pe_str pa_nil))))) (pa_cons (pe_tup (pa_cons pe_str (pa_cons pe_str (pa_cons (pe_tup (pa_cons (pe_tup (pa_cons (pv 5) (pa_cons (pe_tup pa_nil) pa_nil))) pa_nil)) (pa_cons pe_str pa_nil))))) (pa_cons (pe_tup (pa_cons pe_str (pa_cons pe_str (pa_cons (pe_tup pa_nil) (pa_cons pe_str pa_nil))))) (pa_cons (pe_tup (pa_cons pe_str (pa_cons pe_str (pa_cons (pe_op Tm.op_repA (pe_tup (pa_cons (pe_tup (pa_cons pe_int (pa_cons (pe_tup pa_nil) pa_nil))) pa_nil)) (pe_op op_mod (pv 6) pe_int)) (pa_cons pe_str pa_nil))))) (pa_cons (pe_tup (pa_cons pe_str (pa_cons pe_str (pa_cons (pe_slice sl_tupA (pv 13) (po_some pe_int) po_none) (pa_cons pe_str pa_nil))))) (pa_cons (pe_tup (pa_cons pe_str (pa_cons pe_str (pa_cons (pe_op op_catA (pv 13) (pe_tup (pa_cons (pe_tup (pa_cons pe_int (pa_cons (pe_tup pa_nil) pa_nil))) pa_nil))) (pa_cons pe_str pa_nil))))) (pa_cons (pe_tup (pa_cons pe_str (pa_cons pe_str (pa_cons (pe_tup (pa_cons (pe_tup (pa_cons pe_int (pa_cons (pe_tup pa_nil) pa_nil))) pa_nil)) (pa_cons pe_str pa_nil))))) (pa_cons (pe_tup (pa_cons pe_str (pa_cons pe_str (pa_cons (pe_tup pa_nil) (pa_cons pe_str pa_nil))))) (pa_cons (pe_tup (pa_cons pe_str (pa_cons pe_str (pa_cons (pe_tup pa_nil) (pa_cons pe_str pa_nil))))) (pa_cons (pe_tup (pa_cons pe_str (pa_cons pe_str (pa_cons (pe_tup (pa_cons (pe_call G__law_wide hr__law_wide rfl T.g__law_wide T.k__law_wide T.b__law_wide .nil pass0 (pa_cons (pv 5) (pa_cons (pe_op op_sub pe_int (pe_op op_mod (pv 6) pe_int)) pa_nil))) pa_nil)) (pa_cons pe_str pa_nil))))) (pa_cons (pe_tup (pa_cons pe_str (pa_cons pe_str (pa_cons (pe_tup (pa_cons (pe_call G__law_wide hr__law_wide rfl T.g__law_wide T.k__law_wide T.b__law_wide .nil pass0 (pa_cons (pv 5) (pa_cons pe_int pa_nil))) pa_nil)) (pa_cons pe_str pa_nil))))) (pa_cons (pe_tup (pa_cons pe_str (pa_cons pe_str (pa_cons (pe_tup (pa_cons (pe_call G__law_wide hr__law_wide rfl T.g__law_wide T.k__law_wide T.b__law_wide .nil pass0 (pa_cons (pv 5) (pa_cons (pe_op op_sub pe_int (pe_op op_mod (pv 6) pe_int)) pa_nil))) pa_nil)) (pa_cons pe_str pa_nil))))) pa_nil))))))))))))))
          (pss_cons (ps_set (i := 16) nd rfl (Or.inl rfl) (pe_lst (pa_cons (pe_tup (pa_cons pe_str (pa_cons (pe_tup pa_nil) (pa_cons (pe_tup (pa_cons (pv 4) (pa_cons (pe_tup pa_nil) pa_nil))) pa_nil)))) (pa_cons (pe_tup (pa_cons (pe_op op_add_str pe_str (pe_callTy call_str_int (by rfl) T.z_str (by decide +kernel) (pa_cons (pv 10) pa_nil))) (pa_cons (pe_tup pa_nil) (pa_cons (pe_tup (pa_cons (pv 4) (pa_cons (pe_tup pa_nil) pa_nil))) pa_nil)))) (pa_cons (pe_tup (pa_cons pe_str (pa_cons (pv 13) (pa_cons (pe_ix ix_tup (pv 13) (pe_op op_modN (pv 6) (pe_op op_add pe_int (pe_op op_mod (pv 6) pe_int))) (fun _ _ => rfl)) pa_nil)))) (pa_cons (pe_tup (pa_cons pe_str (pa_cons (pe_tup (pa_cons (pv 14) pa_nil)) (pa_cons (pv 14) pa_nil)))) (pa_cons (pe_tup (pa_cons pe_str (pa_cons (pe_tup (pa_cons (pv 14) pa_nil)) (pa_cons (pv 14) pa_nil)))) (pa_cons (pe_tup (pa_cons pe_str (pa_cons (pe_tup pa_nil) (pa_cons (pe_tup (pa_cons (pv 4) (pa_cons (pe_tup pa_nil) pa_nil))) pa_nil)))) pa_nil))))))))
          (pss_cons (ps_set (i := 17) nd rfl (Or.inl rfl) (pe_call G__law_wide hr__law_wide rfl T.g__law_wide T.k__law_wide T.b__law_wide .nil pass0 (pa_cons (pv 5) (pa_cons (pe_op op_sub pe_int (pe_op op_mod (pv 6) pe_int)) pa_nil))))
          (pss_cons (ps_expr (pe_bm PySem.F.plainAttrs_list PySem.F.slot_list_append PySem.F.type_list_append mt_append (pv 16) (pa_cons (pe_tup (pa_cons pe_str (pa_cons (pe_tup (pa_cons (pv 17) pa_nil)) (pa_cons (pe_tup (pa_cons (pv 4) (pa_cons (pe_ifExp (pt_cmpR op_eq (pe_op op_mod (pv 6) pe_int) pe_int (nomark _)) (pe_tup (pa_cons (pv 17) (pa_cons (pe_tup (pa_cons pe_int (pa_cons (pe_tup pa_nil) pa_nil))) pa_nil))) (pe_tup (pa_cons (pv 17) pa_nil))) pa_nil))) pa_nil)))) pa_nil)))
          (pss_cons (ps_expr (pe_bm PySem.F.plainAttrs_list PySem.F.slot_list_append PySem.F.type_list_append mt_append (pv 16) (pa_cons (pe_tup (pa_cons pe_str (pa_cons (pe_op Tm.op_repA (pe_tup (pa_cons (pe_call G__law_wide hr__law_wide rfl T.g__law_wide T.k__law_wide T.b__law_wide .nil pass0 (pa_cons (pv 5) (pa_cons pe_int pa_nil))) pa_nil)) (pe_op op_add pe_int (pe_op op_mod (pv 6) pe_int))) (pa_cons (pe_call G__law_wide hr__law_wide rfl T.g__law_wide T.k__law_wide T.b__law_wide .nil pass0 (pa_cons (pv 5) (pa_cons pe_int pa_nil))) pa_nil)))) pa_nil)))
          (pss_cons (ps_expr (pe_bm PySem.F.plainAttrs_list PySem.F.slot_list_extend PySem.F.type_list_extend mt_extend (pv 16) (pa_cons (pe_lst (pa_cons (pe_tup (pa_cons pe_str (pa_cons (pe_tup (pa_cons (pe_call G__law_wide hr__law_wide rfl T.g__law_wide T.k__law_wide T.b__law_wide .nil pass0 (pa_cons (pv 5) (pa_cons pe_int pa_nil))) pa_nil)) (pa_cons (pe_tup (pa_cons (pv 5) (pa_cons (pe_tup pa_nil) pa_nil))) pa_nil)))) (pa_cons (pe_tup (pa_cons pe_str (pa_cons (pe_tup (pa_cons (pv 17) pa_nil)) (pa_cons (pe_tup (pa_cons (pv 5) (pa_cons (pe_tup pa_nil) pa_nil))) pa_nil)))) pa_nil))) pa_nil)))
          (pss_cons (ps_for PassesOwn.never rfl (pi_range1 rfl T.z_range (pa_cons pe_int pa_nil)) (pg_name (i := 9) nd rfl (Or.inl rfl))
            (pss_cons (ps_set (i := 18) nd rfl (Or.inl rfl) (pe_ix (show IxR _ (rIxL K) from ix_list) (pv 15) (pe_op op_mod (pe_op op_add (pv 6) (pv 9)) pe_int) (fun _ _ => rfl)))
            (Evl.pss_cut (ps_if (pt_cmpR op_ne (pe_call G__law_word hr__law_word rfl T.g__law_word T.k__law_word T.b__law_word .nil pass0 (pa_cons (pv 8) (pa_cons (pe_ix ix_tup (pv 18) pe_int (fun _ _ => rfl)) (pa_cons (pe_ix ix_tup (pv 18) pe_int (fun _ _ => rfl)) (pa_cons (pe_ix ix_tup (pv 18) pe_int (fun _ _ => rfl)) pa_nil))))) (pe_ix ix_tup (pv 18) pe_int (fun _ _ => rfl)) (nomark _))
              (pss_one (ps_ret pe_bl))
              pss_nil)
            (pss_one (ps_if (PW.pt (pw_and (pt_cmpR op_lt (pv 9) pe_int (nomark _)) (pw_and1 (pt_not (pt_val (pe_call G__law_alike hr__law_alike rfl T.g__law_alike T.k__law_alike T.b__law_alike .nil pass0 (pa_cons (pe_call G_run hr_run rfl T.g_run T.k_run T.b_run .nil pass0 (pa_cons (pv 8) (pa_cons pe_str (pa_cons (pe_ix ix_tup (pe_ix (show IxR _ (rIxL K) from ix_list) (pv 16) (pv 9) (fun _ _ => rfl)) pe_int (fun _ _ => rfl)) (pa_cons (pe_ix ix_tup (pe_ix (show IxR _ (rIxL K) from ix_list) (pv 16) (pv 9) (fun _ _ => rfl)) pe_int (fun _ _ => rfl)) pa_nil))))) (pa_cons (pe_ix ix_tup (pe_ix (show IxR _ (rIxL K) from ix_list) (pv 16) (pv 9) (fun _ _ => rfl)) pe_int (fun _ _ => rfl)) pa_nil))))))))
              (pss_one (ps_ret pe_bl))
              pss_nil)))))
          (pss_cons (ps_if (pt_cmpR (op_neT hu) (pv 8) (pv 11) (nomark _))
            (pss_one (ps_ret pe_bl))
            pss_nil)
          (pss_cons (ps_dput hu (pv 8) (pe_tup (pa_cons pe_str (pa_cons pe_str pa_nil))) (pe_tup (pa_cons pe_int (pa_cons (pe_tup (pa_cons (pe_tup (pa_cons pe_str (pa_cons (pe_op op_add (pv 4) pe_int) (pa_cons pe_int pa_nil)))) (pa_cons (pe_tup (pa_cons pe_str pa_nil)) pa_nil))) pa_nil))) rfl)
          (pss_cons (ps_dput hu (pv 8) (pe_tup (pa_cons pe_str (pa_cons pe_str pa_nil))) (pe_tup (pa_cons (pe_op op_add pe_int (pe_op op_mul pe_int (pe_op op_mod (pv 6) pe_int))) (pa_cons (pe_tup (pa_cons (pe_tup (pa_cons pe_str (pa_cons pe_int pa_nil))) (pa_cons (pe_tup (pa_cons pe_str pa_nil)) pa_nil))) pa_nil))) rfl)
          (pss_cons (ps_if (pt_not (pt_val (pe_call G__law_alike hr__law_alike rfl T.g__law_alike T.k__law_alike T.b__law_alike .nil pass0 (pa_cons (pe_call G_run hr_run rfl T.g_run T.k_run T.b_run .nil pass0 (pa_cons (pv 8) (pa_cons pe_str (pa_cons pe_str (pa_cons (pe_tup (pa_cons (pe_tup (pa_cons (pv 5) (pa_cons (pe_tup pa_nil) pa_nil))) pa_nil)) pa_nil))))) (pa_cons (pe_tup (pa_cons (pe_op op_add (pv 4) pe_int) (pa_cons (pe_tup pa_nil) pa_nil))) pa_nil)))))
            (pss_one (ps_ret pe_bl))
            pss_nil)
          (pss_cons (ps_if (pt_not (pt_val (pe_call G__law_alike hr__law_alike rfl T.g__law_alike T.k__law_alike T.b__law_alike .nil pass0 (pa_cons (pe_call G_run hr_run rfl T.g_run T.k_run T.b_run .nil pass0 (pa_cons (pv 8) (pa_cons pe_str (pa_cons pe_str (pa_cons (pe_tup (pa_cons (pe_tup (pa_cons (pv 5) (pa_cons (pe_tup pa_nil) pa_nil))) pa_nil)) pa_nil))))) (pa_cons (pe_tup (pa_cons (pv 5) (pa_cons (pe_tup pa_nil) pa_nil))) pa_nil)))))
            (pss_one (ps_ret pe_bl))
            pss_nil)
          (pss_cons (ps_dput hu (pv 8) (pe_tup (pa_cons pe_str (pa_cons pe_str pa_nil))) (pe_tup (pa_cons pe_int (pa_cons (pe_tup (pa_cons (pe_tup (pa_cons pe_str (pa_cons (pe_op op_add (pv 4) pe_int) (pa_cons pe_int pa_nil)))) (pa_cons (pe_tup (pa_cons pe_str pa_nil)) pa_nil))) pa_nil))) rfl)
          (pss_cons (ps_if (pt_not (pt_val (pe_call G__law_alike hr__law_alike rfl T.g__law_alike T.k__law_alike T.b__law_alike .nil pass0 (pa_cons (pe_call G_run hr_run rfl T.g_run T.k_run T.b_run .nil pass0 (pa_cons (pv 8) (pa_cons pe_str (pa_cons pe_str (pa_cons (pe_tup (pa_cons (pe_tup (pa_cons (pv 5) (pa_cons (pe_tup pa_nil) pa_nil))) pa_nil)) pa_nil))))) (pa_cons (pe_tup (pa_cons (pe_op op_add (pv 4) pe_int) (pa_cons (pe_tup pa_nil) pa_nil))) pa_nil)))))
            (pss_one (ps_ret pe_bl))
            pss_nil)
          (pss_one (ps_ret (pe_cmpR op_eq (pe_call G__law_word hr__law_word rfl T.g__law_word T.k__law_word T.b__law_word .nil pass0 (pa_cons (pv 8) (pa_cons pe_str (pa_cons pe_str (pa_cons (pe_tup (pa_cons (pe_tup (pa_cons pe_int (pa_cons (pe_tup pa_nil) pa_nil))) (pa_cons (pe_tup (pa_cons pe_int (pa_cons (pe_tup pa_nil) pa_nil))) pa_nil))) pa_nil))))) pe_str (nomark _)))))))))))))))))))))))))))))))))))), ?_⟩
    -- deck
    refine ⟨_, rfl, sc, ns, 12, rfl, hS, hlen, by decide, fun dk H1 hdk s1 d1 => ?_⟩
    -- cell
    refine ⟨_, rfl, dk, 1000, rfl, by decide, d1, fun cell H2 hcell b2 d2 => ?_⟩
    -- if int(cell) % 40 == 9
    refine ⟨_, rfl, .inl ⟨_, rfl, _, _, rfl, rfl, (by show (0 : Int) < 40; decide), rfl, _, rfl, ite2 (fun z => ?_) (fun z => ?_)⟩⟩
    · refine ⟨_, rfl, dk, 5, rfl, by decide, d2, fun way H3 hway b3 d3 => ?_⟩
      refine ⟨_, rfl, _, _, rfl, rfl, _, rfl, ite2 (fun z => ?_) (fun z => ?_)⟩
      · have z2 : (way : Int) < 4 := of_decide_eq_true z
        exact ⟨_, rfl, way, rfl, by omega, fun H4 => k H4⟩
      · refine fun d hd => ⟨sl_le (by show 2 ≤ 10000000; decide), fun p1 hp1 => ?_⟩
        have q1 := same_new (o := .tup [.str "Ma", .str "self"]) hp1
        have ed := upd_same (H := H3) (a := d) (o := .dT [])
        have ed1 := q1 _ _ ed
        have ep1 := upd_same (H := upd H3 d (.dT [])) (a := p1) (o := .tup [.str "Ma", .str "self"])
        generalize upd (upd H3 d (.dT [])) p1 (.tup [.str "Ma", .str "self"]) = H4 at *
        refine db_tup (K := K) (g := 0) (rs := [.call ("Ma", "self") 0, .back]) rfl (rs_tup (rls_cons (rb_tup fun _ _ q => q) (rls_cons (rb_tup fun _ _ q => q) rls_nil)) (by simp)) H4 (Same.refl _) _ fun v H6 s6 hdf => ?_
        have ed6 := s6 _ _ ed1
        refine ⟨p1, keyOf ("Ma", "self"), rfl, ed6, s6 _ _ ep1, sl_le (Nat.zero_le _), fun p2 hp2 => ?_⟩
        have b6 : But1 H6 (upd H6 d (.dT (putK [] (keyOf ("Ma", "self")) v))) d := fun b o e n => by rw [upd_ne n]; exact e
        have t6 := tex_dict ed6 b6
        have hB6 : BuiltOf K (upd H6 d (.dT (putK [] (keyOf ("Ma", "self")) v))) (putK [] (keyOf ("Ma", "self")) v) selfB := built_put ((none_dict (K := K) ed6).built.to t6) (hdf.to t6)
        have ed7 := upd_same (H := H6) (a := d) (o := .dT (putK [] (keyOf ("Ma", "self")) v))
        have q2 := same_new (o := .tup []) hp2
        refine ⟨d, p2, putK [] (keyOf ("Ma", "self")) v, selfB, "Ma", "self", [], [], .bad .long, rfl, q2 _ _ ed7, hB6.to (TEx.of_same q2), SqT.of upd_same, cells_nil.mpr rfl, runs_self, by decide, fun H8 s8 => ?_⟩
        exact ⟨rfl, bl_true (Q := Q) (p := V.str (wordOf (Out.bad Bad.long)) = V.str "TooLong") rfl (k H8)⟩
    refine ⟨_, rfl, .inl ⟨_, rfl, _, _, rfl, rfl, (by show (0 : Int) < 40; decide), rfl, _, rfl, ite2 (fun z => ?_) (fun z => ?_)⟩⟩
    · refine ⟨_, rfl, dk, 2, rfl, by decide, d2, fun more H3 hmore b3 d3 => ?_⟩
      exact ⟨more, rfl, by omega, fun H4 => k H4⟩
    -- number, a, b
    refine ⟨_, rfl, dk, 9, rfl, by decide, d2, fun number H3 hnumber b3 d3 => ?_⟩
    refine ⟨_, rfl, dk, 4, rfl, by decide, d3, fun a H4 ha b4 d4 => ?_⟩
    refine ⟨_, rfl, dk, 30, rfl, by decide, d4, fun b H5 hb b5 d5 => ?_⟩
    -- many
    refine ⟨sl_le (by show 4 ≤ 10000000; decide), fun p6 hp6 => ?_⟩
    have n6 : p6 ≠ dk := fun z => by
      obtain ⟨ns', _, hn'⟩ := d5
      rw [← z, hp6] at hn'
      cases hn'
    refine ⟨_, rfl, dk, 4, rfl, by decide, d5.same (same_new hp6), fun r H6 hr6 b6 d6 => ?_⟩
    have e6 := b6 _ _ (upd_same (H := H5) (a := p6) (o := .lst [.int 1100, .int 3, .int 40, .int 2400])) n6
    have pm : ∃ m : Nat, 0 < m ∧ m ≤ 2400 ∧ atI [V.int 1100, .int 3, .int 40, .int 2400] (r : Int) = some (.int (m : Int)) := by
      rcases (show r = 0 ∨ r = 1 ∨ r = 2 ∨ r = 3 by omega) with rfl | rfl | rfl | rfl
      · exact ⟨1100, by decide, by decide, rfl⟩
      · exact ⟨3, by decide, by decide, rfl⟩
      · exact ⟨40, by decide, by decide, rfl⟩
      · exact ⟨2400, by decide, by decide, rfl⟩
    obtain ⟨many, m0, m1, em⟩ := pm
    refine ⟨p6, _, _, _, rfl, rfl, SqL.of e6, em, ?_⟩
    refine fun d hd => ?_
    have hD0 : DictAt K (upd H6 d (.dT [])) d 0 [] (fun _ => none) := none_dict upd_same
    have d7 := d6.same (same_new (o := .dT []) hd)
    generalize upd H6 d (.dT []) = H7 at *
    try dsimp only [gName, tSeq, tAsg]
    refine ⟨_, rfl, _, rfl, by omega, by omega, for_range (lo := 0) (n := _) (fun j σ H' => ∃ (x9 : Option V) (kvs : List (List Key × V)), σ = [some (.ref sc), some (.ref dk), some (.int (cell : Int)), none, some (.int (number : Int)), some (.int (a : Int)), some (.int (b : Int)), some (.int (many : Int)), some (.ref d), x9, none, none, none, none, none, none, none, none, none] ∧ But1 H7 H' d ∧ DictAt K H' d j kvs (chainB (fun _ => none) j))
      ⟨none, [], rfl, fun _ _ e _ => e, hD0⟩ ?_ ?_⟩
    · rintro j σ H' hj ⟨x9, kvs, rfl, b2, hB⟩
      have hj2 : j < many := by simpa using hj
      try dsimp only [gName, tSeq, tAsg]
      refine put_any (i := 8) (mo := "Ma") (na := nm "c" j) (g := 0) (rs := linkRows j) (by rfl) hB (by omega) (db_tup (g := 0) rfl (rs_tup (rls_cons (rb_tup fun H Q q => ?_) (rls_cons (rb_tup fun _ _ q => q) rls_nil)) (by simp [linkRows]))) (fun H1 Q q => ?_) fun H8 kvs8 b8 hB8 => ?_
      · dsimp only [tCons, tNil, tC]
        refine nm_read (c := "c") (ti := tOp (rI0 fun i j => .int (i + j)) (tVar 9) (tC (.int 1))) (i := (0 : Int) + (j : Int) + 1) (k := j + 1) (by omega) (by omega) (by decide) (fun Q q => ⟨_, rfl, _, _, rfl, rfl, q⟩) q
      · dsimp only [tTup, tCons, tNil, tC]
        refine nm_read (c := "c") (ti := tVar 9) (i := (0 : Int) + (j : Int)) (k := j) (by omega) (by omega) (by decide) (fun Q q => ⟨_, rfl, q⟩) ?_
        exact ⟨sl_le (by show 2 ≤ 10000000; decide), fun p hp => q p hp⟩
      · exact ⟨_, kvs8, rfl, fun x o e nx => b8 _ _ (b2 _ _ e nx) nx, hB8⟩
    rintro σ H8 ⟨x9, kvs8, rfl, c8, hB8⟩
    have e8 : ((many : Int)).toNat = many := by omega
    rw [e8] at hB8
    have d8 := d7.but hD0.at_ c8
    clear hD0
    try dsimp only [gName, tSeq, tAsg]
    refine put_any (i := 8) (mo := "Ma") (na := nm "c" many) (g := 0) (rs := endRows number) (by rfl) hB8 (by omega) (db_tup (g := 0) rfl (rs_tup (rls_cons (rb_tup fun H Q q => ⟨_, rfl, q⟩) (rls_cons (rb_tup fun _ _ q => q) rls_nil)) (by simp [endRows]))) (fun H1 Q q => ?_) fun H9 kvs9 b9 hB9 => ?_
    · dsimp only [tTup, tCons, tNil, tC]
      refine nm_read (c := "c") (ti := tVar 7) (i := (many : Int)) (k := many) (by omega) (by omega) (by decide) (fun Q q => ⟨_, rfl, q⟩) ?_
      exact ⟨sl_le (by show 2 ≤ 10000000; decide), fun p hp => q p hp⟩
    have d9 := d8.but hB8.at_ b9
    -- high
    try dsimp only [gName, tSeq, tAsg]
    refine ⟨sl_le (by show 6 ≤ 10000000; decide), fun p10 hp10 => ?_⟩
    have n10 : p10 ≠ dk := fun z => by
      obtain ⟨ns', _, hn'⟩ := d9
      rw [← z, hp10] at hn'
      cases hn'
    have s10 := same_new (o := .lst [.int 8, .int 9, .int 10, .int 8, .int 9, .int 13]) hp10
    have d10 := d9.same s10
    refine ⟨_, rfl, dk, 6, rfl, by decide, d10, fun r10 H11 hr11 b11 d11 => ?_⟩
    have e11 := b11 _ _ (upd_same (H := H9) (a := p10) (o := .lst [.int 8, .int 9, .int 10, .int 8, .int 9, .int 13])) n10
    have hB11 := (hB9.same s10).deck d10 b11
    have ph : ∃ m : Nat, m ≤ 13 ∧ atI [V.int 8, .int 9, .int 10, .int 8, .int 9, .int 13] (r10 : Int) = some (.int (m : Int)) := by
      rcases (show r10 = 0 ∨ r10 = 1 ∨ r10 = 2 ∨ r10 = 3 ∨ r10 = 4 ∨ r10 = 5 by omega) with rfl | rfl | rfl | rfl | rfl | rfl
      · exact ⟨8, by decide, rfl⟩
      · exact ⟨9, by decide, rfl⟩
      · exact ⟨10, by decide, rfl⟩
      · exact ⟨8, by decide, rfl⟩
      · exact ⟨9, by decide, rfl⟩
      · exact ⟨13, by decide, rfl⟩
    obtain ⟨high, h13, eh⟩ := ph
    refine ⟨p10, _, _, _, rfl, rfl, SqL.of e11, eh, ?_⟩
    -- _law_tree
    try dsimp only [gName, tSeq, tAsg]
    refine ⟨_, rfl, _, rfl, ?_⟩
    refine lst_rows (K := K) (H0 := H11) (rs := endRows number) (rls_cons (rb_tup fun _ _ q => ⟨_, rfl, q⟩) (rls_cons (rb_tup fun _ _ q => q) rls_nil)) (Same.refl _) (fun lf lv H12 hlf s12 elf hrs => ?_) (by simp [endRows])
    refine ⟨d, lf, high, many + 1, kvs9, _, lv, endRows number, rfl, hB11.same s12, elf, hrs, by omega, by omega, by simp [endRows], fun H13 kvs13 b13 hB13 => ?_⟩
    -- _law_users
    try dsimp only [gName, tSeq, tAsg]
    refine ⟨_, rfl, _, rfl, _, rfl, _, rfl, d, a, b, number, _, kvs13, _, rfl, hB13, by omega, fun H14 kvs14 b14 hB14 => ?_⟩
    -- _law_copy
    have hB14' : DictAt K H14 d (many + 1 + high + 1 + 7) kvs14 (lawB many high a b number) := hB14
    clear hB14 hB13 hB11 hB9 hB8
    try dsimp only [gName, tSeq, tAsg]
    refine ⟨_, rfl, d, kvs14, rfl, hB14'.at_, hB14'.ref.2, by have := hB14'.len; omega, fun cp H15 s15 ecp ncp => ?_⟩
    have hB15 := hB14'.same s15
    clear hB14'
    try dsimp only [gName, tSeq, tAsg]
    -- odd
    refine vb_use (all_lst (R := CV K) (ks := oddC number a) (fun _ => mo_cell)
      (all_cons mo_cell (cb_leaf fun H Q q => ⟨_, rfl, q⟩)
      (all_cons mo_cell (cb_leaf (n := (10 : Int) ^ 30) fun H Q q => ⟨_, _, rfl, rfl, ⟨by decide, by decide, by decide⟩, q⟩)
      (all_cons mo_cell (cb_tup (fun H Q q => q) (tb_rep (k := 3) (tb_one (cb_leaf fun H Q q => q)) (fun H Q q => q) (by decide)))
      (all_cons mo_cell (cb_tup (fun H Q q => q) (tb_one (cb_tup (fun H Q q => q) (tb_one (cb_leaf fun H Q q => q)))))
      (all_cons mo_cell (cb_tup (fun H Q q => q) (tb_tup (cbs_cons (cb_leaf fun H Q q => q) (cbs_cons (cb_leaf fun H Q q => q) cbs_nil)) (by simp)))
      (all_cons mo_cell (cb_tup (fun H Q q => ⟨_, rfl, q⟩) (tb_one (cb_leaf fun H Q q => q))) all_nil)))))) (by simp [oddC])) ?_
    rintro _ H16 s16 ⟨od, ov, rfl, eod, hod⟩
    have hB16 := hB15.same s16
    have ecp16 := s16 _ _ ecp
    clear hB15
    -- handed
    try dsimp only [gName, tSeq, tAsg]
    refine ⟨_, rfl, _, _, rfl, rfl, (by show (0 : Int) < 3; decide), _, _, rfl, rfl, _, rfl, (by show -(2 ^ 62) ≤ (1 : Int) + (b : Int) % 3; omega), (by show (1 : Int) + (b : Int) % 3 < 2 ^ 62; omega), fun D hD => ?_⟩
    refine lc_range (lo := 0) (n := _) (fun i H' => ∃ vs : List V, Same H16 H' ∧ H' D = some (.lst vs) ∧ CellsAt K H' vs ((List.range i).map (oneC number a b))) ⟨[], same_new hD, upd_same, by simp [cells_nil]⟩ ?_ ?_
    · rintro i H' hi ⟨vs, sm, eD, hc⟩
      have hi3 : i < 3 := by omega
      have lvs := cells_len hc
      rw [List.length_map, List.length_range] at lvs
      obtain ⟨v, ev, hv⟩ := all_get ((b + i) % 6) hod (odd_at (Nat.mod_lt _ (by decide)))
      have eix : ((b : Int) + (0 + (i : Int))) % 6 = (((b + i) % 6 : Nat) : Int) := by omega
      refine ⟨rfl, ?_⟩
      refine ⟨_, rfl, _, rfl, _, rfl, _, _, rfl, rfl, _, _, rfl, rfl, (by show (0 : Int) < 6; decide), od, ov, _, v, rfl, rfl, SqL.of (sm _ _ eod), ?_, ?_⟩
      · show atI ov (((b : Int) + (0 + (i : Int))) % 6) = some v
        rw [eix]
        exact atI_nat ev
      · refine ⟨vs, eD, sl_lt (by omega), vs ++ [v], fun x o q => ?_, upd_same, ?_⟩
        · rw [upd_ne (ne_of_none q hD)]; exact sm _ _ q
        · have t := TEx.upd_lst (ys := vs ++ [v]) eD
          rw [List.range_succ, List.map_append]
          exact cells_snoc (hc.to t) ((hv.to (TEx.of_same sm)).to t)
    rintro H17 ⟨cv, s17, eD, hcv⟩
    have en3 : ((1 : Int) + (b : Int) % 3).toNat = 1 + b % 3 := by omega
    rw [en3] at hcv
    have hcv' : CellsAt K H17 cv (handC number a b) := hcv
    clear hcv
    refine ⟨D, cv, rfl, .inl ⟨SqL.of eD, fun hp hhp => ?_⟩⟩
    have s18 := s17.trans (same_new (o := .tup cv) hhp)
    have ehp := upd_same (H := H17) (a := hp) (o := .tup cv)
    have hhand := hcv'.to (TEx.of_same (same_new (o := .tup cv) hhp))
    have hB18 := hB16.same s18
    have ecp18 := s18 _ _ ecp16
    clear hB16 hcv'
    generalize upd H17 hp (.tup cv) = H18 at *
    -- other
    try dsimp only [gName, tSeq, tAsg]
    refine vb_use (cb_leaf (K := K) (n := (a : Int) + 1 + (number : Int)) fun H Q q => ⟨_, rfl, _, _, rfl, rfl, _, rfl, _, _, rfl, rfl, q⟩) ?_
    rintro ov2 H19 s19 hother
    have hother' : CellAt K H19 ov2 (otherC a number) := hother
    have ehp19 := s19 _ _ ehp
    have hhand19 := hhand.to (TEx.of_same s19)
    have hB19 := hB18.same s19
    have ecp19 := s19 _ _ ecp18
    clear hB18 hother
    have b3 : b % 3 < 3 := Nat.mod_lt _ (by decide)
    have b2' : b % 2 < 2 := Nat.mod_lt _ (by decide)
    -- refused
    try dsimp only [gName, tSeq, tAsg]
    refine vb_use (all_lst (R := AskAt K) (ks := asks a number b) (fun _ => mo_ask)
      (all_cons mo_ask (ask_b (tb_one (cb_leaf fun H Q q => ⟨_, rfl, q⟩)))
      (all_cons mo_ask (ask_b (tb_one (cb_leaf fun H Q q => ⟨_, rfl, q⟩)))
      (all_cons mo_ask (ask_b tb_nil)
      (all_cons mo_ask (ask_b (tb_rep (k := b % 3) (tb_one (cb_leaf fun H Q q => q)) (fun H Q q => ⟨_, rfl, _, _, rfl, rfl, (by show (0 : Int) < 3; decide), q⟩) (by omega)))
      (all_cons mo_ask (ask_b (tb_cut1 rfl (SqT.of ehp19) hhand19 (by rw [hand_len]; omega)))
      (all_cons mo_ask (ask_b (tb_cat (vb_var (R := TV K (handC number a b)) rfl ⟨hp, cv, rfl, SqT.of ehp19, hhand19⟩ mo_tv) (tb_one (cb_leaf fun H Q q => q)) (by rw [hand_len]; simp only [List.length_cons, List.length_nil]; omega)))
      (all_cons mo_ask (ask_b (tb_one (cb_leaf fun H Q q => q)))
      (all_cons mo_ask (ask_b tb_nil)
      (all_cons mo_ask (ask_b tb_nil)
      (all_cons mo_ask (ask_b (tb_one (cb_wide (size := 256 - b % 2) (fun H Q q => ⟨_, rfl, q⟩) (fun H Q q => ⟨_, rfl, _, _, rfl, rfl, (by show (0 : Int) < 2; decide), _, _, rfl, rfl, (by show Q (.int ((256 : Int) - (b : Int) % 2)) H; rw [show (256 : Int) - (b : Int) % 2 = ((256 - b % 2 : Nat) : Int) by omega]; exact q)⟩) (by omega) (by omega))))
      (all_cons mo_ask (ask_b (tb_one (cb_wide (size := 256) (fun H Q q => ⟨_, rfl, q⟩) (fun H Q q => q) (by omega) (by omega))))
      (all_cons mo_ask (ask_b (tb_one (cb_wide (size := 256 - b % 2) (fun H Q q => ⟨_, rfl, q⟩) (fun H Q q => ⟨_, rfl, _, _, rfl, rfl, (by show (0 : Int) < 2; decide), _, _, rfl, rfl, (by show Q (.int ((256 : Int) - (b : Int) % 2)) H; rw [show (256 : Int) - (b : Int) % 2 = ((256 - b % 2 : Nat) : Int) by omega]; exact q)⟩) (by omega) (by omega))))
        all_nil)))))))))))) (by simp [asks])) ?_
    rintro _ H20 s20 ⟨rf, rv, rfl, erf, hrf⟩
    have ehp20 := s20 _ _ ehp19
    have hhand20 := hhand19.to (TEx.of_same s20)
    have hother20 := hother'.to (TEx.of_same s20)
    have hB20 := hB19.same s20
    have ecp20 := s20 _ _ ecp19
    clear hB19 hother' hhand19 hhand
    try dsimp only [gName, tSeq, tAsg]
    -- due
    refine lst_use (R := DueAt K) (ks := (dues a number b high).take 6) (fun _ => mo_due)
      (all_cons mo_due (due_b (fun H Q q => q) tb_nil (cb_leaf fun H Q q => ⟨_, rfl, q⟩))
      (all_cons mo_due (due_b (fun H Q q => nm_read (c := "t") (i := (high : Int)) (k := high) rfl (by omega) (by decide) (fun Q q => ⟨_, rfl, q⟩) q) tb_nil (cb_leaf fun H Q q => ⟨_, rfl, q⟩))
      (all_cons mo_due (due_b (fun H Q q => q) (vb_var (R := TV K (handC number a b)) rfl ⟨hp, cv, rfl, SqT.of ehp20, hhand20⟩ mo_tv) (fun H s Q q => ?_))
      (all_cons mo_due (due_b (fun H Q q => q) (tb_one (vb_var (R := CV K (otherC a number)) rfl hother20 mo_cell)) (vb_var (R := CV K (otherC a number)) rfl hother20 mo_cell))
      (all_cons mo_due (due_b (fun H Q q => q) (tb_one (vb_var (R := CV K (otherC a number)) rfl hother20 mo_cell)) (vb_var (R := CV K (otherC a number)) rfl hother20 mo_cell))
      (all_cons mo_due (due_b (fun H Q q => q) tb_nil (cb_leaf fun H Q q => ⟨_, rfl, q⟩))
        all_nil)))))) (by simp [dues]) fun du dv H21 ndu s21 edu hdu => ?_
    · have eg : (1 : Int) + (b : Int) % 3 = ((1 + b % 3 : Nat) : Int) := by omega
      have em : Int.fmod (b : Int) ((1 : Int) + (b : Int) % 3) = ((b % (1 + b % 3) : Nat) : Int) := by rw [eg, fmod_nat]
      have m3 : b % (1 + b % 3) < 1 + b % 3 := Nat.mod_lt _ (by omega)
      have hh' := hhand20.to (TEx.of_same s)
      obtain ⟨v, ev, hv⟩ := cells_get hh' (hand_at m3)
      refine ⟨_, rfl, _, rfl, _, rfl, _, _, rfl, rfl, (by show (0 : Int) < 3; decide), _, _, rfl, rfl, _, _, rfl, rfl, (by show ((1 : Int) + (b : Int) % 3) ≠ 0; omega), hp, cv, _, v, rfl, rfl, (TEx.of_same s).sq (SqT.of ehp20), ?_, q _ _ (Same.refl _) hv⟩
      show atI cv (Int.fmod (b : Int) ((1 : Int) + (b : Int) % 3)) = some v
      rw [em]
      exact atI_nat ev
    -- grown
    try dsimp only [gName, tSeq, tAsg]
    refine vb_use (cb_wide (K := K) (a := (a : Int)) (size := 255 - b % 2) (fun H Q q => ⟨_, rfl, q⟩) (fun H Q q => ⟨_, rfl, _, _, rfl, rfl, (by show (0 : Int) < 2; decide), _, _, rfl, rfl, (by show Q (.int ((255 : Int) - (b : Int) % 2)) H; rw [show (255 : Int) - (b : Int) % 2 = ((255 - b % 2 : Nat) : Int) by omega]; exact q)⟩) (by omega) (by omega)) ?_
    rintro gv H22 s22 hgv
    have hgv' : CellAt K H22 gv (grownC a b) := hgv
    have edu22 := s22 _ _ edu
    have hdu22 := dues_to (TEx.of_same s22) hdu
    clear hdu
    try dsimp only [gName, tSeq, tAsg]
    refine app_due (K := K) (i := 16) (k := ⟨"grow", [grownC a b], growC b number (grownC a b)⟩) (by rfl) edu22 hdu22 (due_b (fun H Q q => q) (tb_one (vb_var (R := CV K (grownC a b)) rfl hgv' mo_cell))
      (cb_grow (fun H Q q => ⟨_, rfl, q⟩) (fun H Q q => ⟨_, rfl, _, _, rfl, rfl, (by show (0 : Int) < 2; decide), rfl, _, rfl, q⟩) (tb_tup (cbs_cons (vb_var (R := CV K (grownC a b)) rfl hgv' mo_cell) (cbs_cons (cb_leaf fun H Q q => q) cbs_nil)) (by simp)) (tb_one (vb_var (R := CV K (grownC a b)) rfl hgv' mo_cell)))) (by simp [dues]) fun H23 dv23 b23 edu23 hdu23 => ?_
    have s23 := same_but1 (s21.trans s22) ndu b23
    have hgv23 := hgv'.to (tex_lst edu22 b23)
    clear hdu22
    try dsimp only [gName, tSeq, tAsg]
    refine app_due (K := K) (i := 16) (k := ⟨"hands", List.replicate (1 + b % 3) (wideC a 256), wideC a 256⟩) (by rfl) edu23 hdu23 (due_b (fun H Q q => q)
      (tb_rep (k := 1 + b % 3) (tb_one (cb_wide (a := (a : Int)) (size := 256) (fun H Q q => ⟨_, rfl, q⟩) (fun H Q q => q) (by omega) (by omega))) (fun H Q q => ⟨_, rfl, _, _, rfl, rfl, (by show (0 : Int) < 3; decide), _, _, rfl, rfl, (by show Q (.int ((1 : Int) + (b : Int) % 3)) H; rw [show (1 : Int) + (b : Int) % 3 = ((1 + b % 3 : Nat) : Int) by omega]; exact q)⟩) (by omega))
      (cb_wide (a := (a : Int)) (size := 256) (fun H Q q => ⟨_, rfl, q⟩) (fun H Q q => q) (by omega) (by omega))) (by simp [dues]) fun H24 dv24 b24 edu24 hdu24 => ?_
    have s24 := same_but1 s23 ndu b24
    have hgv24 := hgv23.to (tex_lst edu23 b24)
    clear hdu23
    try dsimp only [gName, tSeq, tAsg]
    refine ext_due (K := K) (i := 16) (js := [⟨"waste", [wideC a 255], .mk a []⟩, ⟨"past", [grownC a b], .mk a []⟩]) (by rfl) edu24 hdu24 (all_lst (R := DueAt K) (fun _ => mo_due)
      (all_cons mo_due (due_b (fun H Q q => q) (tb_one (cb_wide (a := (a : Int)) (size := 255) (fun H Q q => ⟨_, rfl, q⟩) (fun H Q q => q) (by omega) (by omega))) (cb_leaf fun H Q q => ⟨_, rfl, q⟩))
      (all_cons mo_due (due_b (fun H Q q => q) (tb_one (vb_var (R := CV K (grownC a b)) rfl hgv24 mo_cell)) (cb_leaf fun H Q q => ⟨_, rfl, q⟩)) all_nil)) (by simp)) (by simp [dues]) (by simp) fun H25 dv25 b25 edu25 hdu25 => ?_
    have s25 := same_but1 s24 ndu b25
    have hdues : AllAt (DueAt K) (dues a number b high) H25 dv25 := hdu25
    clear hdu24 hdu25
    have erf25 := s25 _ _ erf
    have hrf25 : AllAt (AskAt K) (asks a number b) H25 rv := mo_all (fun _ => mo_ask) _ _ _ s25 hrf
    have hB25 := hB20.same s25
    have ecp25 := s25 _ _ ecp20
    clear hB20 hrf
    try dsimp only [gName, tSeq, tAsg]
    have hRef := hB25.ref
    have nh : (0 : Int) ≤ (number : Int) := by omega
    refine ⟨_, rfl, by decide, by decide, for_range (lo := 0) (n := 12) (fun j σ H' => ∃ (x9 x18 : Option V), σ = [some (.ref sc), some (.ref dk), some (.int (cell : Int)), none, some (.int (number : Int)), some (.int (a : Int)), some (.int (b : Int)), some (.int (many : Int)), some (.ref d), x9, some (.int (high : Int)), some (.ref cp), some (.ref od), some (.ref hp), some ov2, some (.ref rf), some (.ref du), some gv, x18] ∧ Same H25 H')
      ⟨_, _, rfl, Same.refl _⟩ ?_ ?_⟩
    · rintro j σ H' hj ⟨x9, x18, rfl, sm⟩
      have eix : ((b : Int) + (0 + (j : Int))) % 12 = (((b + j) % 12 : Nat) : Int) := by omega
      obtain ⟨ak, oo, hak, hruns, hword, hal⟩ := asks_run (many := many) (high := high) (b := b) (a := (a : Int)) (n := (number : Int)) m0 (i := (b + j) % 12) (Nat.mod_lt _ (by decide))
      obtain ⟨v, ev, ⟨p, c, ccv, rfl, hp1, hc1, hcc⟩⟩ := all_get ((b + j) % 12) hrf25 hak
      have t' := TEx.of_same sm
      have hB' := hB25.same sm
      try dsimp only [gName, tSeq, tAsg]
      refine ⟨_, rfl, _, rfl, _, rfl, _, _, rfl, rfl, _, _, rfl, rfl, (by show (0 : Int) < 12; decide), rf, rv, _, .ref p, rfl, rfl, SqL.of (sm _ _ erf25), ?_, ?_⟩
      · show atI rv (((b : Int) + (0 + (j : Int))) % 12) = some (.ref p)
        rw [eix]
        exact atI_nat ev
      try dsimp only [gName, tSeq, tAsg]
      refine ⟨fun σ' H'' => σ' = [some (.ref sc), some (.ref dk), some (.int (cell : Int)), none, some (.int (number : Int)), some (.int (a : Int)), some (.int (b : Int)), some (.int (many : Int)), some (.ref d), some (.int (0 + (j : Int))), some (.int (high : Int)), some (.ref cp), some (.ref od), some (.ref hp), some ov2, some (.ref rf), some (.ref du), some gv, some (.ref p)] ∧ Same H25 H'', ?_, ?_⟩
      · refine tx_word (K := K) (i := 8) (rfl) hB' (tx_item (fun H s Q q => ⟨_, rfl, q⟩) (t'.sq hp1) rfl) (tx_item (fun H s Q q => ⟨_, rfl, q⟩) (t'.sq hp1) rfl) (tb_item (fun H s Q q => ⟨_, rfl, q⟩) (t'.sq hp1) rfl (t'.sq hc1) (hcc.to t')) hruns hal _ (Same.refl _) _ fun x H2 s2 ex => ?_
        subst ex
        refine ⟨_, rfl, p, _, _, _, rfl, rfl, (TEx.of_same (sm.trans s2)).sq hp1, rfl, rfl, _, rfl, iteNS (by rw [hword]) ?_⟩
        exact ⟨rfl, sm.trans s2⟩
      rintro σ' H2 ⟨rfl, s2⟩
      have hB2 := hB25.same s2
      by_cases hj10 : j < 10
      · obtain ⟨dkk, hdk1, hdruns, hdl⟩ := dues_run (many := many) (high := high) (b := b) (a := (a : Int)) (n := (number : Int)) m1 h13 nh hj10
        obtain ⟨v2, ev2, ⟨p2, c2, cv2, u2, rfl, hp2, hc2, hcc2, hu2⟩⟩ := all_get j hdues hdk1
        have hsm := due_small (many := 0) hj10 hdk1
        have t2 := TEx.of_same s2
        have rd : ∀ H, Same H2 H → ∀ Q : VK, Q (.ref p2) H → tOp (rIxL K) (tVar 16) (tVar 9) [some (.ref sc), some (.ref dk), some (.int (cell : Int)), none, some (.int (number : Int)), some (.int (a : Int)), some (.int (b : Int)), some (.int (many : Int)), some (.ref d), some (.int (0 + (j : Int))), some (.int (high : Int)), some (.ref cp), some (.ref od), some (.ref hp), some ov2, some (.ref rf), some (.ref du), some gv, some (.ref p)] H Q := fun H s Q q =>
          ⟨_, rfl, _, rfl, du, dv25, _, _, rfl, rfl, SqL.of (s _ _ (s2 _ _ edu25)), (by rw [show (0 : Int) + (j : Int) = (j : Int) by omega]; exact atI_nat ev2), q⟩
        try dsimp only [gName, tSeq, tAsg]
        refine ⟨_, rfl, _, _, rfl, rfl, _, rfl, ?_⟩
        rw [show decide ((0 : Int) + (j : Int) < 10) = true from decide_eq_true (by omega)]
        refine iteT (alike_b (K := K) (c := dkk.cell) (cb_run (i := 8) rfl hB2 tx_c (tx_item rd (t2.sq hp2) rfl) (tb_item rd (t2.sq hp2) rfl (t2.sq hc2) (hcc2.to t2)) hdruns hdl) (cb_item rd (t2.sq hp2) rfl (hu2.to t2)) hsm.1 hsm.2 fun H3 s3 => ?_)
        exact iteF ⟨_, _, rfl, s2.trans s3⟩
      · try dsimp only [gName, tSeq, tAsg]
        refine ⟨_, rfl, _, _, rfl, rfl, _, rfl, ?_⟩
        rw [show decide ((0 : Int) + (j : Int) < 10) = false from decide_eq_false (by omega)]
        exact iteF (iteF ⟨_, _, rfl, s2⟩)
    rintro σ H26 ⟨x9, x18, rfl, s26⟩
    have hB26 := hB25.same s26
    have ecp26 := s26 _ _ ecp25
    clear hB25
    try dsimp only [gName, tSeq, tAsg]
    refine ⟨_, rfl, _, rfl, d, cp, kvs14, rfl, rfl, hB26.at_, ecp26, hRef.1, _, rfl, iteF ?_⟩
    try dsimp only [gName, tSeq, tAsg, tNext]
    refine put_dict (K := K) (i := 8) (mo := "Other") (na := "lack") (rs := endRows ((number : Int) + 1)) (by rfl) hB26 (by omega) (db_tup (g := 0) rfl (rs_tup (rls_cons (rb_tup fun _ _ q => ⟨_, rfl, _, _, rfl, rfl, q⟩) (rls_cons (rb_tup fun _ _ q => q) rls_nil)) (by simp [endRows]))) fun H27 kvs27 b27 hB27 => ?_
    clear hB26
    try dsimp only [gName, tSeq, tAsg, tNext]
    refine put_dict (K := K) (i := 8) (mo := "Ma") (na := "two") (g := 1 + 2 * (b % 2)) (rs := [.loc 0, .back]) (by rfl) hB27 (by omega) (db_read (fun H Q q => ⟨_, rfl, _, _, rfl, rfl, (by show (0 : Int) < 2; decide), _, _, rfl, rfl, .inl ⟨by decide, by decide⟩, _, _, rfl, rfl, (by show Q (.int ((1 : Int) + 2 * ((b : Int) % 2))) H; rw [show (1 : Int) + 2 * ((b : Int) % 2) = ((1 + 2 * (b % 2) : Nat) : Int) by omega]; exact q)⟩) (rs_tup (rls_cons (rb_tup fun _ _ q => q) (rls_cons (rb_tup fun _ _ q => q) rls_nil)) (by simp))) fun H28 kvs28 b28 hB28 => ?_
    clear hB27
    have f_maybe : Bset (Bset (lawB many high (a : Int) b number) ("Other", "lack") (0, endRows ((number : Int) + 1))) ("Ma", "two") (1 + 2 * (b % 2), [.loc 0, .back]) ("Ma", "maybe") = some (1, maybeRows a) := by
      rw [bset_ne (by decide +kernel), bset_ne (by decide +kernel)]
      exact users_maybe
    have f_short : Bset (Bset (lawB many high (a : Int) b number) ("Other", "lack") (0, endRows ((number : Int) + 1))) ("Ma", "two") (1 + 2 * (b % 2), [.loc 0, .back]) ("Ma", "short") = some (1, shortRows a b) := by
      rw [bset_ne (by decide +kernel), bset_ne (by decide +kernel)]
      exact users_short
    have f_lack : Bset (Bset (lawB many high (a : Int) b number) ("Other", "lack") (0, endRows ((number : Int) + 1))) ("Ma", "two") (1 + 2 * (b % 2), [.loc 0, .back]) ("Other", "lack") = some (0, endRows ((number : Int) + 1)) := by
      rw [bset_ne (by decide +kernel), bset_same]
    have f_two : Bset (Bset (lawB many high (a : Int) b number) ("Other", "lack") (0, endRows ((number : Int) + 1))) ("Ma", "two") (1 + 2 * (b % 2), [.loc 0, .back]) ("Ma", "two") = some (1 + 2 * (b % 2), [.loc 0, .back]) := bset_same
    try dsimp only [gName, tSeq, tAsg, tNext]
    refine alike_b (K := K) (c := .mk ((number : Int) + 1) []) (cb_run (i := 8) rfl hB28 tx_c tx_c (tb_one (cb_leaf fun H Q q => ⟨_, rfl, q⟩)) (maybe_new f_maybe f_lack) (by simp)) (cb_leaf fun H Q q => ⟨_, rfl, _, _, rfl, rfl, q⟩) (by simp [Cell.depth, depths]) (by simp [Cell.size, sizes]) fun H29 s29 => iteF ?_
    have hB29 := hB28.same s29
    clear hB28
    try dsimp only [gName, tSeq, tAsg, tNext]
    refine alike_b (K := K) (c := .mk (a : Int) []) (cb_run (i := 8) rfl hB29 tx_c tx_c (tb_one (cb_leaf fun H Q q => ⟨_, rfl, q⟩)) (short_new f_short f_two) (by simp)) (cb_leaf fun H Q q => ⟨_, rfl, q⟩) (by simp [Cell.depth, depths]) (by simp [Cell.size, sizes]) fun H30 s30 => iteF ?_
    have hB30 := hB29.same s30
    clear hB29
    try dsimp only [gName, tSeq, tAsg, tNext]
    refine put_dict (K := K) (i := 8) (mo := "Other") (na := "lack") (rs := endRows ((number : Int) + 2)) (by rfl) hB30 (by omega) (db_tup (g := 0) rfl (rs_tup (rls_cons (rb_tup fun _ _ q => ⟨_, rfl, _, _, rfl, rfl, q⟩) (rls_cons (rb_tup fun _ _ q => q) rls_nil)) (by simp [endRows]))) fun H31 kvs31 b31 hB31 => ?_
    clear hB30
    try dsimp only [gName, tSeq, tAsg, tNext]
    refine alike_b (K := K) (c := .mk ((number : Int) + 2) []) (cb_run (i := 8) rfl hB31 tx_c tx_c (tb_one (cb_leaf fun H Q q => ⟨_, rfl, q⟩)) (maybe_new (by rw [bset_ne (by decide +kernel)]; exact f_maybe) bset_same) (by simp)) (cb_leaf fun H Q q => ⟨_, rfl, _, _, rfl, rfl, q⟩) (by simp [Cell.depth, depths]) (by simp [Cell.size, sizes]) fun H32 s32 => iteF ?_
    have hB32 := hB31.same s32
    clear hB31
    try dsimp only [gName, tSeq, tAsg, tNext]
    refine tx_word (K := K) (i := 8) rfl hB32 tx_c tx_c (tb_tup (cbs_cons (cb_leaf fun H Q q => q) (cbs_cons (cb_leaf fun H Q q => q) cbs_nil)) (by simp)) (wrong_many (by rw [bset_ne (by decide +kernel)]; exact f_two) (by simp; omega)) (by simp) _ (Same.refl _) _ fun x H33 s33 ex => ?_
    subst ex
    exact ⟨rfl, bl_true (Q := Q) (p := V.str (wordOf (Out.bad Bad.value)) = V.str "BadValue") rfl (k H33)⟩
end
end K90

set_option Elab.async false
set_option linter.all false
set_option maxRecDepth 100000
set_option maxHeartbeats 4000000
namespace K90
open PySem PySem.Spec PyProof.Rows L2 Ru Rp Mch
theorem all_mk {l : PySem.W.OpenLaw} {w : World} {K : PySem.W.Frag} {h : Heap} {mg : Str → Option Value} {fa : Addr} (X : K.In h) (G : h.Ns mainGlobals mg) (hfa : mg "law" = some (.ref fa))
    {f_popped f_rows_for f_is_great f_do_row f_run f__law_deck f__law_take f__law_alike f__law_word f__law_copy f__law_tree f__law_powers f__law_many_calls f__law_many_rows f__law_wide f__law_users f_law p_NO e_NO p_YES e_YES C_AsiffreshError C_BadAsk C_BadDeed C_NotYet C_BadName C_BadValue C_TooLong C_TooMany : Addr}
    {od_popped an_popped od_rows_for an_rows_for od_is_great an_is_great od_do_row an_do_row od_run an_run od__law_deck an__law_deck od__law_take an__law_take od__law_alike an__law_alike od__law_word an__law_word od__law_copy an__law_copy od__law_tree an__law_tree od__law_powers an__law_powers od__law_many_calls an__law_many_calls od__law_many_rows an__law_many_rows od__law_wide an__law_wide od__law_users an__law_users od_law an_law od_NO oe_NO od_YES oe_YES : Option Addr}
    {sl_popped sl_rows_for sl_is_great sl_do_row sl_run sl__law_deck sl__law_take sl__law_alike sl__law_word sl__law_copy sl__law_tree sl__law_powers sl__law_many_calls sl__law_many_rows sl__law_wide sl__law_users sl_law sl_NO se_NO sl_YES se_YES : Array (Option Value)}
    {oc_popped kV_popped dc_popped pm_popped cd_popped ct_popped oc_rows_for kV_rows_for dc_rows_for pm_rows_for cd_rows_for ct_rows_for oc_is_great kV_is_great dc_is_great pm_is_great cd_is_great ct_is_great oc_do_row kV_do_row dc_do_row pm_do_row cd_do_row ct_do_row oc_run kV_run dc_run pm_run cd_run ct_run oc__law_deck kV__law_deck dc__law_deck pm__law_deck cd__law_deck ct__law_deck oc__law_take kV__law_take dc__law_take pm__law_take cd__law_take ct__law_take oc__law_alike kV__law_alike dc__law_alike pm__law_alike cd__law_alike ct__law_alike oc__law_word kV__law_word dc__law_word pm__law_word cd__law_word ct__law_word oc__law_copy kV__law_copy dc__law_copy pm__law_copy cd__law_copy ct__law_copy oc__law_tree kV__law_tree dc__law_tree pm__law_tree cd__law_tree ct__law_tree oc__law_powers kV__law_powers dc__law_powers pm__law_powers cd__law_powers ct__law_powers oc__law_many_calls kV__law_many_calls dc__law_many_calls pm__law_many_calls cd__law_many_calls ct__law_many_calls oc__law_many_rows kV__law_many_rows dc__law_many_rows pm__law_many_rows cd__law_many_rows ct__law_many_rows oc__law_wide kV__law_wide dc__law_wide pm__law_wide cd__law_wide ct__law_wide oc__law_users kV__law_users dc__law_users pm__law_users cd__law_users ct__law_users oc_law kV_law dc_law pm_law cd_law ct_law : Value}
    {t_MOST_CALLS t_MOST_ROWS t_MOST_CELLS t_NO t_YES : Tok}
    {n_NO m_NO n_YES m_YES : Nat}
    (a_popped : PySem.W.nsIn K mainGlobals "popped" = some (some (.ref f_popped)))
    (l_popped : K.lookup f_popped = some ⟨oc_popped, od_popped, .func (PySem.W.fnOf "popped" "popped" (defArgs s_popped) (defBody s_popped) (defScope s_popped) .none kV_popped dc_popped pm_popped an_popped cd_popped ct_popped), sl_popped⟩)
    (c_popped : PySem.W.codeIn K cd_popped "popped" = true)
    (k_popped : PySem.W.keepIn K (.ref f_popped) = true)
    (a_rows_for : PySem.W.nsIn K mainGlobals "rows_for" = some (some (.ref f_rows_for)))
    (l_rows_for : K.lookup f_rows_for = some ⟨oc_rows_for, od_rows_for, .func (PySem.W.fnOf "rows_for" "rows_for" (defArgs s_rows_for) (defBody s_rows_for) (defScope s_rows_for) .none kV_rows_for dc_rows_for pm_rows_for an_rows_for cd_rows_for ct_rows_for), sl_rows_for⟩)
    (c_rows_for : PySem.W.codeIn K cd_rows_for "rows_for" = true)
    (k_rows_for : PySem.W.keepIn K (.ref f_rows_for) = true)
    (a_is_great : PySem.W.nsIn K mainGlobals "is_great" = some (some (.ref f_is_great)))
    (l_is_great : K.lookup f_is_great = some ⟨oc_is_great, od_is_great, .func (PySem.W.fnOf "is_great" "is_great" (defArgs s_is_great) (defBody s_is_great) (defScope s_is_great) .none kV_is_great dc_is_great pm_is_great an_is_great cd_is_great ct_is_great), sl_is_great⟩)
    (c_is_great : PySem.W.codeIn K cd_is_great "is_great" = true)
    (k_is_great : PySem.W.keepIn K (.ref f_is_great) = true)
    (a_do_row : PySem.W.nsIn K mainGlobals "do_row" = some (some (.ref f_do_row)))
    (l_do_row : K.lookup f_do_row = some ⟨oc_do_row, od_do_row, .func (PySem.W.fnOf "do_row" "do_row" (defArgs s_do_row) (defBody s_do_row) (defScope s_do_row) .none kV_do_row dc_do_row pm_do_row an_do_row cd_do_row ct_do_row), sl_do_row⟩)
    (c_do_row : PySem.W.codeIn K cd_do_row "do_row" = true)
    (k_do_row : PySem.W.keepIn K (.ref f_do_row) = true)
    (a_run : PySem.W.nsIn K mainGlobals "run" = some (some (.ref f_run)))
    (l_run : K.lookup f_run = some ⟨oc_run, od_run, .func (PySem.W.fnOf "run" "run" (defArgs s_run) (defBody s_run) (defScope s_run) .none kV_run dc_run pm_run an_run cd_run ct_run), sl_run⟩)
    (c_run : PySem.W.codeIn K cd_run "run" = true)
    (k_run : PySem.W.keepIn K (.ref f_run) = true)
    (a__law_deck : PySem.W.nsIn K mainGlobals "_law_deck" = some (some (.ref f__law_deck)))
    (l__law_deck : K.lookup f__law_deck = some ⟨oc__law_deck, od__law_deck, .func (PySem.W.fnOf "_law_deck" "_law_deck" (defArgs s__law_deck) (defBody s__law_deck) (defScope s__law_deck) .none kV__law_deck dc__law_deck pm__law_deck an__law_deck cd__law_deck ct__law_deck), sl__law_deck⟩)
    (c__law_deck : PySem.W.codeIn K cd__law_deck "_law_deck" = true)
    (k__law_deck : PySem.W.keepIn K (.ref f__law_deck) = true)
    (a__law_take : PySem.W.nsIn K mainGlobals "_law_take" = some (some (.ref f__law_take)))
    (l__law_take : K.lookup f__law_take = some ⟨oc__law_take, od__law_take, .func (PySem.W.fnOf "_law_take" "_law_take" (defArgs s__law_take) (defBody s__law_take) (defScope s__law_take) .none kV__law_take dc__law_take pm__law_take an__law_take cd__law_take ct__law_take), sl__law_take⟩)
    (c__law_take : PySem.W.codeIn K cd__law_take "_law_take" = true)
    (k__law_take : PySem.W.keepIn K (.ref f__law_take) = true)
    (a__law_alike : PySem.W.nsIn K mainGlobals "_law_alike" = some (some (.ref f__law_alike)))
    (l__law_alike : K.lookup f__law_alike = some ⟨oc__law_alike, od__law_alike, .func (PySem.W.fnOf "_law_alike" "_law_alike" (defArgs s__law_alike) (defBody s__law_alike) (defScope s__law_alike) .none kV__law_alike dc__law_alike pm__law_alike an__law_alike cd__law_alike ct__law_alike), sl__law_alike⟩)
    (c__law_alike : PySem.W.codeIn K cd__law_alike "_law_alike" = true)
    (k__law_alike : PySem.W.keepIn K (.ref f__law_alike) = true)
    (a__law_word : PySem.W.nsIn K mainGlobals "_law_word" = some (some (.ref f__law_word)))
    (l__law_word : K.lookup f__law_word = some ⟨oc__law_word, od__law_word, .func (PySem.W.fnOf "_law_word" "_law_word" (defArgs s__law_word) (defBody s__law_word) (defScope s__law_word) .none kV__law_word dc__law_word pm__law_word an__law_word cd__law_word ct__law_word), sl__law_word⟩)
    (c__law_word : PySem.W.codeIn K cd__law_word "_law_word" = true)
    (k__law_word : PySem.W.keepIn K (.ref f__law_word) = true)
    (a__law_copy : PySem.W.nsIn K mainGlobals "_law_copy" = some (some (.ref f__law_copy)))
    (l__law_copy : K.lookup f__law_copy = some ⟨oc__law_copy, od__law_copy, .func (PySem.W.fnOf "_law_copy" "_law_copy" (defArgs s__law_copy) (defBody s__law_copy) (defScope s__law_copy) .none kV__law_copy dc__law_copy pm__law_copy an__law_copy cd__law_copy ct__law_copy), sl__law_copy⟩)
    (c__law_copy : PySem.W.codeIn K cd__law_copy "_law_copy" = true)
    (k__law_copy : PySem.W.keepIn K (.ref f__law_copy) = true)
    (a__law_tree : PySem.W.nsIn K mainGlobals "_law_tree" = some (some (.ref f__law_tree)))
    (l__law_tree : K.lookup f__law_tree = some ⟨oc__law_tree, od__law_tree, .func (PySem.W.fnOf "_law_tree" "_law_tree" (defArgs s__law_tree) (defBody s__law_tree) (defScope s__law_tree) .none kV__law_tree dc__law_tree pm__law_tree an__law_tree cd__law_tree ct__law_tree), sl__law_tree⟩)
    (c__law_tree : PySem.W.codeIn K cd__law_tree "_law_tree" = true)
    (k__law_tree : PySem.W.keepIn K (.ref f__law_tree) = true)
    (a__law_powers : PySem.W.nsIn K mainGlobals "_law_powers" = some (some (.ref f__law_powers)))
    (l__law_powers : K.lookup f__law_powers = some ⟨oc__law_powers, od__law_powers, .func (PySem.W.fnOf "_law_powers" "_law_powers" (defArgs s__law_powers) (defBody s__law_powers) (defScope s__law_powers) .none kV__law_powers dc__law_powers pm__law_powers an__law_powers cd__law_powers ct__law_powers), sl__law_powers⟩)
    (c__law_powers : PySem.W.codeIn K cd__law_powers "_law_powers" = true)
    (k__law_powers : PySem.W.keepIn K (.ref f__law_powers) = true)
    (a__law_many_calls : PySem.W.nsIn K mainGlobals "_law_many_calls" = some (some (.ref f__law_many_calls)))
    (l__law_many_calls : K.lookup f__law_many_calls = some ⟨oc__law_many_calls, od__law_many_calls, .func (PySem.W.fnOf "_law_many_calls" "_law_many_calls" (defArgs s__law_many_calls) (defBody s__law_many_calls) (defScope s__law_many_calls) .none kV__law_many_calls dc__law_many_calls pm__law_many_calls an__law_many_calls cd__law_many_calls ct__law_many_calls), sl__law_many_calls⟩)
    (c__law_many_calls : PySem.W.codeIn K cd__law_many_calls "_law_many_calls" = true)
    (k__law_many_calls : PySem.W.keepIn K (.ref f__law_many_calls) = true)
    (a__law_many_rows : PySem.W.nsIn K mainGlobals "_law_many_rows" = some (some (.ref f__law_many_rows)))
    (l__law_many_rows : K.lookup f__law_many_rows = some ⟨oc__law_many_rows, od__law_many_rows, .func (PySem.W.fnOf "_law_many_rows" "_law_many_rows" (defArgs s__law_many_rows) (defBody s__law_many_rows) (defScope s__law_many_rows) .none kV__law_many_rows dc__law_many_rows pm__law_many_rows an__law_many_rows cd__law_many_rows ct__law_many_rows), sl__law_many_rows⟩)
    (c__law_many_rows : PySem.W.codeIn K cd__law_many_rows "_law_many_rows" = true)
    (k__law_many_rows : PySem.W.keepIn K (.ref f__law_many_rows) = true)
    (a__law_wide : PySem.W.nsIn K mainGlobals "_law_wide" = some (some (.ref f__law_wide)))
    (l__law_wide : K.lookup f__law_wide = some ⟨oc__law_wide, od__law_wide, .func (PySem.W.fnOf "_law_wide" "_law_wide" (defArgs s__law_wide) (defBody s__law_wide) (defScope s__law_wide) .none kV__law_wide dc__law_wide pm__law_wide an__law_wide cd__law_wide ct__law_wide), sl__law_wide⟩)
    (c__law_wide : PySem.W.codeIn K cd__law_wide "_law_wide" = true)
    (k__law_wide : PySem.W.keepIn K (.ref f__law_wide) = true)
    (a__law_users : PySem.W.nsIn K mainGlobals "_law_users" = some (some (.ref f__law_users)))
    (l__law_users : K.lookup f__law_users = some ⟨oc__law_users, od__law_users, .func (PySem.W.fnOf "_law_users" "_law_users" (defArgs s__law_users) (defBody s__law_users) (defScope s__law_users) .none kV__law_users dc__law_users pm__law_users an__law_users cd__law_users ct__law_users), sl__law_users⟩)
    (c__law_users : PySem.W.codeIn K cd__law_users "_law_users" = true)
    (k__law_users : PySem.W.keepIn K (.ref f__law_users) = true)
    (a_law : PySem.W.nsIn K mainGlobals "law" = some (some (.ref f_law)))
    (l_law : K.lookup f_law = some ⟨oc_law, od_law, .func (PySem.W.fnOf "law" "law" (defArgs s_law) (defBody s_law) (defScope s_law) .none kV_law dc_law pm_law an_law cd_law ct_law), sl_law⟩)
    (c_law : PySem.W.codeIn K cd_law "law" = true)
    (k_law : PySem.W.keepIn K (.ref f_law) = true)
    (a_MOST_CALLS : PySem.W.nsIn K mainGlobals "MOST_CALLS" = some (some (.int 100000 t_MOST_CALLS)))
    (a_MOST_ROWS : PySem.W.nsIn K mainGlobals "MOST_ROWS" = some (some (.int 1000000 t_MOST_ROWS)))
    (a_MOST_CELLS : PySem.W.nsIn K mainGlobals "MOST_CELLS" = some (some (.int 256 t_MOST_CELLS)))
    (a_NO : PySem.W.nsIn K mainGlobals "NO" = some (some (.ref p_NO)))
    (l_NO : K.lookup p_NO = some ⟨.type "tuple", od_NO, .seq #[.int 0 t_NO, .ref e_NO] n_NO, sl_NO⟩)
    (q_NO : K.lookup e_NO = some ⟨.type "tuple", oe_NO, .seq #[] m_NO, se_NO⟩)
    (a_YES : PySem.W.nsIn K mainGlobals "YES" = some (some (.ref p_YES)))
    (l_YES : K.lookup p_YES = some ⟨.type "tuple", od_YES, .seq #[.int 1 t_YES, .ref e_YES] n_YES, sl_YES⟩)
    (q_YES : K.lookup e_YES = some ⟨.type "tuple", oe_YES, .seq #[] m_YES, se_YES⟩)
    (a_AsiffreshError : PySem.W.nsIn K mainGlobals "AsiffreshError" = some (some (.ref C_AsiffreshError)))
    (k_AsiffreshError : PySem.W.keepIn K (.ref C_AsiffreshError) = true)
    (a_BadAsk : PySem.W.nsIn K mainGlobals "BadAsk" = some (some (.ref C_BadAsk)))
    (k_BadAsk : PySem.W.keepIn K (.ref C_BadAsk) = true)
    (a_BadDeed : PySem.W.nsIn K mainGlobals "BadDeed" = some (some (.ref C_BadDeed)))
    (k_BadDeed : PySem.W.keepIn K (.ref C_BadDeed) = true)
    (a_NotYet : PySem.W.nsIn K mainGlobals "NotYet" = some (some (.ref C_NotYet)))
    (k_NotYet : PySem.W.keepIn K (.ref C_NotYet) = true)
    (a_BadName : PySem.W.nsIn K mainGlobals "BadName" = some (some (.ref C_BadName)))
    (k_BadName : PySem.W.keepIn K (.ref C_BadName) = true)
    (a_BadValue : PySem.W.nsIn K mainGlobals "BadValue" = some (some (.ref C_BadValue)))
    (k_BadValue : PySem.W.keepIn K (.ref C_BadValue) = true)
    (a_TooLong : PySem.W.nsIn K mainGlobals "TooLong" = some (some (.ref C_TooLong)))
    (k_TooLong : PySem.W.keepIn K (.ref C_TooLong) = true)
    (a_TooMany : PySem.W.nsIn K mainGlobals "TooMany" = some (some (.ref C_TooMany)))
    (k_TooMany : PySem.W.keepIn K (.ref C_TooMany) = true)
    (as_s : PySem.W.subIn K (.ref C_AsiffreshError) (.type "BaseException") = some true)
    (as_d : PySem.W.hasDictIn K C_AsiffreshError = true)
    (as_t : PySem.W.typeIn K (.ref C_AsiffreshError) = some (.type "type"))
    (ob_n : PySem.W.specialIn K (.builtin "object.__class__") "__get__" = some (some (.builtin "getset_descriptor.__get__")))
    (ob_t : PySem.W.takesIn K (.builtin "object.__class__") = some true)
    (x_BadName : PySem.W.excIn K C_BadName [.type "ValueError", .type "Exception", .type "BaseException", .type "object"] "ValueError.__new__" = true)
    (s_BadName : PySem.W.subIn K (.ref C_BadName) (.type "BaseException") = some true)
    (t_BadName : PySem.W.typeIn K (.ref C_BadName) = some (.type "type"))
    (sa_BadName : PySem.W.subIn K (.ref C_BadName) (.ref C_AsiffreshError) = some true)
    (hg_BadName : PySem.W.findIn K (.ref C_BadName) "__getattribute__" = some (some (.builtin "BaseException.__getattribute__")))
    (hk_BadName : PySem.W.findIn K (.ref C_BadName) "__getattr__" = some none)
    (hd_BadName : PySem.W.hasDictIn K C_BadName = true)
    (ha_BadName : PySem.W.findIn K (.ref C_BadName) "__class__" = some (some (.builtin "object.__class__")))
    (hm_BadName : PySem.W.mroIn K C_BadName (.type "object") = some true)
    (x_BadValue : PySem.W.excIn K C_BadValue [.type "ValueError", .type "Exception", .type "BaseException", .type "object"] "ValueError.__new__" = true)
    (s_BadValue : PySem.W.subIn K (.ref C_BadValue) (.type "BaseException") = some true)
    (t_BadValue : PySem.W.typeIn K (.ref C_BadValue) = some (.type "type"))
    (sa_BadValue : PySem.W.subIn K (.ref C_BadValue) (.ref C_AsiffreshError) = some true)
    (hg_BadValue : PySem.W.findIn K (.ref C_BadValue) "__getattribute__" = some (some (.builtin "BaseException.__getattribute__")))
    (hk_BadValue : PySem.W.findIn K (.ref C_BadValue) "__getattr__" = some none)
    (hd_BadValue : PySem.W.hasDictIn K C_BadValue = true)
    (ha_BadValue : PySem.W.findIn K (.ref C_BadValue) "__class__" = some (some (.builtin "object.__class__")))
    (hm_BadValue : PySem.W.mroIn K C_BadValue (.type "object") = some true)
    (x_TooLong : PySem.W.excIn K C_TooLong [.type "ValueError", .type "Exception", .type "BaseException", .type "object"] "ValueError.__new__" = true)
    (s_TooLong : PySem.W.subIn K (.ref C_TooLong) (.type "BaseException") = some true)
    (t_TooLong : PySem.W.typeIn K (.ref C_TooLong) = some (.type "type"))
    (sa_TooLong : PySem.W.subIn K (.ref C_TooLong) (.ref C_AsiffreshError) = some true)
    (hg_TooLong : PySem.W.findIn K (.ref C_TooLong) "__getattribute__" = some (some (.builtin "BaseException.__getattribute__")))
    (hk_TooLong : PySem.W.findIn K (.ref C_TooLong) "__getattr__" = some none)
    (hd_TooLong : PySem.W.hasDictIn K C_TooLong = true)
    (ha_TooLong : PySem.W.findIn K (.ref C_TooLong) "__class__" = some (some (.builtin "object.__class__")))
    (hm_TooLong : PySem.W.mroIn K C_TooLong (.type "object") = some true)
    (i_BadName_ValueError : PySem.W.kitOne K (.ref C_BadName) (.type "ValueError") = some true)
    (i_BadName_BadAsk : PySem.W.kitOne K (.ref C_BadName) (.ref C_BadAsk) = some false)
    (i_BadName_BadDeed : PySem.W.kitOne K (.ref C_BadName) (.ref C_BadDeed) = some false)
    (i_BadName_NotYet : PySem.W.kitOne K (.ref C_BadName) (.ref C_NotYet) = some false)
    (i_BadName_BadName : PySem.W.kitOne K (.ref C_BadName) (.ref C_BadName) = some true)
    (i_BadName_BadValue : PySem.W.kitOne K (.ref C_BadName) (.ref C_BadValue) = some false)
    (i_BadName_TooLong : PySem.W.kitOne K (.ref C_BadName) (.ref C_TooLong) = some false)
    (i_BadName_TooMany : PySem.W.kitOne K (.ref C_BadName) (.ref C_TooMany) = some false)
    (i_BadValue_ValueError : PySem.W.kitOne K (.ref C_BadValue) (.type "ValueError") = some true)
    (i_BadValue_BadAsk : PySem.W.kitOne K (.ref C_BadValue) (.ref C_BadAsk) = some false)
    (i_BadValue_BadDeed : PySem.W.kitOne K (.ref C_BadValue) (.ref C_BadDeed) = some false)
    (i_BadValue_NotYet : PySem.W.kitOne K (.ref C_BadValue) (.ref C_NotYet) = some false)
    (i_BadValue_BadName : PySem.W.kitOne K (.ref C_BadValue) (.ref C_BadName) = some false)
    (i_BadValue_BadValue : PySem.W.kitOne K (.ref C_BadValue) (.ref C_BadValue) = some true)
    (i_BadValue_TooLong : PySem.W.kitOne K (.ref C_BadValue) (.ref C_TooLong) = some false)
    (i_BadValue_TooMany : PySem.W.kitOne K (.ref C_BadValue) (.ref C_TooMany) = some false)
    (i_TooLong_ValueError : PySem.W.kitOne K (.ref C_TooLong) (.type "ValueError") = some true)
    (i_TooLong_BadAsk : PySem.W.kitOne K (.ref C_TooLong) (.ref C_BadAsk) = some false)
    (i_TooLong_BadDeed : PySem.W.kitOne K (.ref C_TooLong) (.ref C_BadDeed) = some false)
    (i_TooLong_NotYet : PySem.W.kitOne K (.ref C_TooLong) (.ref C_NotYet) = some false)
    (i_TooLong_BadName : PySem.W.kitOne K (.ref C_TooLong) (.ref C_BadName) = some false)
    (i_TooLong_BadValue : PySem.W.kitOne K (.ref C_TooLong) (.ref C_BadValue) = some false)
    (i_TooLong_TooLong : PySem.W.kitOne K (.ref C_TooLong) (.ref C_TooLong) = some true)
    (i_TooLong_TooMany : PySem.W.kitOne K (.ref C_TooLong) (.ref C_TooMany) = some false)
    (z_len : PySem.W.nsIn K mainGlobals "len" = some none)
    (z_int : PySem.W.nsIn K mainGlobals "int" = some none)
    (z_tuple : PySem.W.nsIn K mainGlobals "tuple" = some none)
    (z_list : PySem.W.nsIn K mainGlobals "list" = some none)
    (z_range : PySem.W.nsIn K mainGlobals "range" = some none)
    (z_isinstance : PySem.W.nsIn K mainGlobals "isinstance" = some none)
    (z_bool : PySem.W.nsIn K mainGlobals "bool" = some none)
    (z_str : PySem.W.nsIn K mainGlobals "str" = some none)
    (z_ValueError : PySem.W.nsIn K mainGlobals "ValueError" = some none)
    : ∃ fd : FuncData, (∀ (s : Shared) (v : Value), BindsTo s fd ⟨[v], []⟩ [("script", v)]) ∧ ∀ base : Heap, K.In base → base.Ns mainGlobals mg → FnOk l.prog w K mg base CX0 34 fa fd ["script"] (spLaw K) := by
  have e := hfa.symm.trans (PySem.W.mg_of X G a_law)
  cases e
  have F_popped := fun_mk (st := s_popped) l_popped c_popped k_popped
  have b_popped := F_popped.binds (ps := ["stack", "many"]) fun _ _ _ _ _ _ us hl => match us, hl with | [_, _], _ => rfl
  have F_rows_for := fun_mk (st := s_rows_for) l_rows_for c_rows_for k_rows_for
  have b_rows_for := F_rows_for.binds (ps := ["built", "pair", "many"]) fun _ _ _ _ _ _ us hl => match us, hl with | [_, _, _], _ => rfl
  have F_is_great := fun_mk (st := s_is_great) l_is_great c_is_great k_is_great
  have b_is_great := F_is_great.binds (ps := ["cell"]) fun _ _ _ _ _ _ us hl => match us, hl with | [_], _ => rfl
  have F_do_row := fun_mk (st := s_do_row) l_do_row c_do_row k_do_row
  have b_do_row := F_do_row.binds (ps := ["row", "held", "stack"]) fun _ _ _ _ _ _ us hl => match us, hl with | [_, _, _], _ => rfl
  have F_run := fun_mk (st := s_run) l_run c_run k_run
  have b_run := F_run.binds (ps := ["built", "module", "name", "cells"]) fun _ _ _ _ _ _ us hl => match us, hl with | [_, _, _, _], _ => rfl
  have F__law_deck := fun_mk (st := s__law_deck) l__law_deck c__law_deck k__law_deck
  have b__law_deck := F__law_deck.binds (ps := ["script", "many"]) fun _ _ _ _ _ _ us hl => match us, hl with | [_, _], _ => rfl
  have F__law_take := fun_mk (st := s__law_take) l__law_take c__law_take k__law_take
  have b__law_take := F__law_take.binds (ps := ["deck", "many"]) fun _ _ _ _ _ _ us hl => match us, hl with | [_, _], _ => rfl
  have F__law_alike := fun_mk (st := s__law_alike) l__law_alike c__law_alike k__law_alike
  have b__law_alike := F__law_alike.binds (ps := ["told", "due"]) fun _ _ _ _ _ _ us hl => match us, hl with | [_, _], _ => rfl
  have F__law_word := fun_mk (st := s__law_word) l__law_word c__law_word k__law_word
  have b__law_word := F__law_word.binds (ps := ["built", "module", "name", "cells"]) fun _ _ _ _ _ _ us hl => match us, hl with | [_, _, _, _], _ => rfl
  have F__law_copy := fun_mk (st := s__law_copy) l__law_copy c__law_copy k__law_copy
  have b__law_copy := F__law_copy.binds (ps := ["built"]) fun _ _ _ _ _ _ us hl => match us, hl with | [_], _ => rfl
  have F__law_tree := fun_mk (st := s__law_tree) l__law_tree c__law_tree k__law_tree
  have b__law_tree := F__law_tree.binds (ps := ["built", "high", "leaf"]) fun _ _ _ _ _ _ us hl => match us, hl with | [_, _, _], _ => rfl
  have F__law_powers := fun_mk (st := s__law_powers) l__law_powers c__law_powers k__law_powers
  have b__law_powers := F__law_powers.binds (ps := ["many"]) fun _ _ _ _ _ _ us hl => match us, hl with | [_], _ => rfl
  have F__law_many_calls := fun_mk (st := s__law_many_calls) l__law_many_calls c__law_many_calls k__law_many_calls
  have b__law_many_calls := F__law_many_calls.binds (ps := ["way"]) fun _ _ _ _ _ _ us hl => match us, hl with | [_], _ => rfl
  have F__law_many_rows := fun_mk (st := s__law_many_rows) l__law_many_rows c__law_many_rows k__law_many_rows
  have b__law_many_rows := F__law_many_rows.binds (ps := ["more"]) fun _ _ _ _ _ _ us hl => match us, hl with | [_], _ => rfl
  have F__law_wide := fun_mk (st := s__law_wide) l__law_wide c__law_wide k__law_wide
  have b__law_wide := F__law_wide.binds (ps := ["a", "size"]) fun _ _ _ _ _ _ us hl => match us, hl with | [_, _], _ => rfl
  have F__law_users := fun_mk (st := s__law_users) l__law_users c__law_users k__law_users
  have b__law_users := F__law_users.binds (ps := ["built", "a", "b", "number"]) fun _ _ _ _ _ _ us hl => match us, hl with | [_, _, _, _], _ => rfl
  have F_law := fun_mk (st := s_law) l_law c_law k_law
  have b_law := F_law.binds (ps := ["script"]) fun _ _ _ _ _ _ us hl => match us, hl with | [_], _ => rfl
  let T : Txt K mg := {
    f_popped := f_popped
    fd_popped := _
    F_popped := F_popped
    g_popped := PySem.W.mg_of X G a_popped
    k_popped := k_popped
    b_popped := b_popped
    f_rows_for := f_rows_for
    fd_rows_for := _
    F_rows_for := F_rows_for
    g_rows_for := PySem.W.mg_of X G a_rows_for
    k_rows_for := k_rows_for
    b_rows_for := b_rows_for
    f_is_great := f_is_great
    fd_is_great := _
    F_is_great := F_is_great
    g_is_great := PySem.W.mg_of X G a_is_great
    k_is_great := k_is_great
    b_is_great := b_is_great
    f_do_row := f_do_row
    fd_do_row := _
    F_do_row := F_do_row
    g_do_row := PySem.W.mg_of X G a_do_row
    k_do_row := k_do_row
    b_do_row := b_do_row
    f_run := f_run
    fd_run := _
    F_run := F_run
    g_run := PySem.W.mg_of X G a_run
    k_run := k_run
    b_run := b_run
    f__law_deck := f__law_deck
    fd__law_deck := _
    F__law_deck := F__law_deck
    g__law_deck := PySem.W.mg_of X G a__law_deck
    k__law_deck := k__law_deck
    b__law_deck := b__law_deck
    f__law_take := f__law_take
    fd__law_take := _
    F__law_take := F__law_take
    g__law_take := PySem.W.mg_of X G a__law_take
    k__law_take := k__law_take
    b__law_take := b__law_take
    f__law_alike := f__law_alike
    fd__law_alike := _
    F__law_alike := F__law_alike
    g__law_alike := PySem.W.mg_of X G a__law_alike
    k__law_alike := k__law_alike
    b__law_alike := b__law_alike
    f__law_word := f__law_word
    fd__law_word := _
    F__law_word := F__law_word
    g__law_word := PySem.W.mg_of X G a__law_word
    k__law_word := k__law_word
    b__law_word := b__law_word
    f__law_copy := f__law_copy
    fd__law_copy := _
    F__law_copy := F__law_copy
    g__law_copy := PySem.W.mg_of X G a__law_copy
    k__law_copy := k__law_copy
    b__law_copy := b__law_copy
    f__law_tree := f__law_tree
    fd__law_tree := _
    F__law_tree := F__law_tree
    g__law_tree := PySem.W.mg_of X G a__law_tree
    k__law_tree := k__law_tree
    b__law_tree := b__law_tree
    f__law_powers := f__law_powers
    fd__law_powers := _
    F__law_powers := F__law_powers
    g__law_powers := PySem.W.mg_of X G a__law_powers
    k__law_powers := k__law_powers
    b__law_powers := b__law_powers
    f__law_many_calls := f__law_many_calls
    fd__law_many_calls := _
    F__law_many_calls := F__law_many_calls
    g__law_many_calls := PySem.W.mg_of X G a__law_many_calls
    k__law_many_calls := k__law_many_calls
    b__law_many_calls := b__law_many_calls
    f__law_many_rows := f__law_many_rows
    fd__law_many_rows := _
    F__law_many_rows := F__law_many_rows
    g__law_many_rows := PySem.W.mg_of X G a__law_many_rows
    k__law_many_rows := k__law_many_rows
    b__law_many_rows := b__law_many_rows
    f__law_wide := f__law_wide
    fd__law_wide := _
    F__law_wide := F__law_wide
    g__law_wide := PySem.W.mg_of X G a__law_wide
    k__law_wide := k__law_wide
    b__law_wide := b__law_wide
    f__law_users := f__law_users
    fd__law_users := _
    F__law_users := F__law_users
    g__law_users := PySem.W.mg_of X G a__law_users
    k__law_users := k__law_users
    b__law_users := b__law_users
    f_law := fa
    fd_law := _
    F_law := F_law
    g_law := PySem.W.mg_of X G a_law
    k_law := k_law
    b_law := b_law
    u_MOST_CALLS := _
    g_MOST_CALLS := PySem.W.mg_of X G a_MOST_CALLS
    r_MOST_CALLS := ⟨_, rfl⟩
    u_MOST_ROWS := _
    g_MOST_ROWS := PySem.W.mg_of X G a_MOST_ROWS
    r_MOST_ROWS := ⟨_, rfl⟩
    u_MOST_CELLS := _
    g_MOST_CELLS := PySem.W.mg_of X G a_MOST_CELLS
    r_MOST_CELLS := ⟨_, rfl⟩
    a_NO := p_NO
    c_NO := e_NO
    g_NO := PySem.W.mg_of X G a_NO
    t_NO := ⟨_, _, _, l_NO, rfl, rfl⟩
    e_NO := ⟨_, _, q_NO, rfl, rfl⟩
    a_YES := p_YES
    c_YES := e_YES
    g_YES := PySem.W.mg_of X G a_YES
    t_YES := ⟨_, _, _, l_YES, rfl, rfl⟩
    e_YES := ⟨_, _, q_YES, rfl, rfl⟩
    C_AsiffreshError := C_AsiffreshError
    g_AsiffreshError := PySem.W.mg_of X G a_AsiffreshError
    k_AsiffreshError := k_AsiffreshError
    C_BadAsk := C_BadAsk
    g_BadAsk := PySem.W.mg_of X G a_BadAsk
    k_BadAsk := k_BadAsk
    C_BadDeed := C_BadDeed
    g_BadDeed := PySem.W.mg_of X G a_BadDeed
    k_BadDeed := k_BadDeed
    C_NotYet := C_NotYet
    g_NotYet := PySem.W.mg_of X G a_NotYet
    k_NotYet := k_NotYet
    C_BadName := C_BadName
    g_BadName := PySem.W.mg_of X G a_BadName
    k_BadName := k_BadName
    C_BadValue := C_BadValue
    g_BadValue := PySem.W.mg_of X G a_BadValue
    k_BadValue := k_BadValue
    C_TooLong := C_TooLong
    g_TooLong := PySem.W.mg_of X G a_TooLong
    k_TooLong := k_TooLong
    C_TooMany := C_TooMany
    g_TooMany := PySem.W.mg_of X G a_TooMany
    k_TooMany := k_TooMany
    x_BadName := x_BadName
    s_BadName := s_BadName
    t_BadName := t_BadName
    e_BadName := ⟨hg_BadName, hk_BadName, s_BadName, hd_BadName, ha_BadName, ob_n, ob_t, hm_BadName⟩
    m_BadName := PySem.W.exm_ref as_s as_d as_t sa_BadName
    x_BadValue := x_BadValue
    s_BadValue := s_BadValue
    t_BadValue := t_BadValue
    e_BadValue := ⟨hg_BadValue, hk_BadValue, s_BadValue, hd_BadValue, ha_BadValue, ob_n, ob_t, hm_BadValue⟩
    m_BadValue := PySem.W.exm_ref as_s as_d as_t sa_BadValue
    x_TooLong := x_TooLong
    s_TooLong := s_TooLong
    t_TooLong := t_TooLong
    e_TooLong := ⟨hg_TooLong, hk_TooLong, s_TooLong, hd_TooLong, ha_TooLong, ob_n, ob_t, hm_TooLong⟩
    m_TooLong := PySem.W.exm_ref as_s as_d as_t sa_TooLong
    i_BadName_ValueError := i_BadName_ValueError
    i_BadName_BadAsk := i_BadName_BadAsk
    i_BadName_BadDeed := i_BadName_BadDeed
    i_BadName_NotYet := i_BadName_NotYet
    i_BadName_BadName := i_BadName_BadName
    i_BadName_BadValue := i_BadName_BadValue
    i_BadName_TooLong := i_BadName_TooLong
    i_BadName_TooMany := i_BadName_TooMany
    i_BadValue_ValueError := i_BadValue_ValueError
    i_BadValue_BadAsk := i_BadValue_BadAsk
    i_BadValue_BadDeed := i_BadValue_BadDeed
    i_BadValue_NotYet := i_BadValue_NotYet
    i_BadValue_BadName := i_BadValue_BadName
    i_BadValue_BadValue := i_BadValue_BadValue
    i_BadValue_TooLong := i_BadValue_TooLong
    i_BadValue_TooMany := i_BadValue_TooMany
    i_TooLong_ValueError := i_TooLong_ValueError
    i_TooLong_BadAsk := i_TooLong_BadAsk
    i_TooLong_BadDeed := i_TooLong_BadDeed
    i_TooLong_NotYet := i_TooLong_NotYet
    i_TooLong_BadName := i_TooLong_BadName
    i_TooLong_BadValue := i_TooLong_BadValue
    i_TooLong_TooLong := i_TooLong_TooLong
    i_TooLong_TooMany := i_TooLong_TooMany
    z_len := PySem.W.mg_none_of X G z_len
    z_int := PySem.W.mg_none_of X G z_int
    z_tuple := PySem.W.mg_none_of X G z_tuple
    z_list := PySem.W.mg_none_of X G z_list
    z_range := PySem.W.mg_none_of X G z_range
    z_isinstance := PySem.W.mg_none_of X G z_isinstance
    z_bool := PySem.W.mg_none_of X G z_bool
    z_str := PySem.W.mg_none_of X G z_str
    z_ValueError := PySem.W.mg_none_of X G z_ValueError }
  exact ⟨_, fun s v => .of_eq rfl, fun base _ _ => ok_law T⟩
theorem walk {l : PySem.W.OpenLaw} {q : Program} {loose : List Str} {XP : (Str → Option Value) → Heap → Prop} {YP : World → Heap → Prop} {d : DefRec} {K : Params → PySem.W.Frag} (hn : l.most = some 63) (hdf : d.params.defaults = [])
    (hY : ∀ (w : World) (h : Heap), YP w h → (K w.params).In h)
    (F : ∀ (w : World) (mg : Str → Option Value) (fa : Addr) (h : Heap), (K w.params).In h → h.Ns mainGlobals mg → mg d.name = some (.ref fa) →
      ∃ fd : FuncData, (∀ (s : Shared) (u : Value), BindsTo s fd ⟨[u], []⟩ [("script", u)]) ∧ ∀ base : Heap, (K w.params).In base → base.Ns mainGlobals mg → FnOk l.prog w (K w.params) mg base CX0 34 fa fd ["script"] (spLaw (K w.params))) :
    PySem.W.WalkO q loose XP YP l.row.toRowW d [] (fun f vs => PySem.call f vs) :=
  L2.walk_of (n := 63) (k := 34) (x := "script") (CX := fun _ => CX0) (sp := fun w => spLaw (K w.params)) hn (by decide) hdf ⟨rfl, by decide, by decide⟩ hY F (fun _ _ a ns hl _ hS => ⟨a, ns, rfl, hS, hl, fun _ => rfl⟩) fun _ _ _ _ _ z => z
end K90
open PySem PySem.W PyProof.Rows
set_option maxRecDepth 100000 in
set_option maxHeartbeats 0 in
theorem PySem.Challenge.cw_asiffresh_k90_calls_and_refusals_holds : PySem.Challenge.rw_asiffresh_k90_calls_and_refusals.Holds := by
  w_on; o_law; k_head; (case hw => w_witness2)
  k_fill
  refine K90.walk (l := PySem.Challenge.rw_asiffresh_k90_calls_and_refusals) rfl rfl (fun w h Y => PySem.W.kIn_of Y) ?F
  case F =>
    intro w mg fa h KX G hmg
    refine' K90.all_mk KX G hmg ?a_popped ?l_popped ?c_popped ?k_popped ?a_rows_for ?l_rows_for ?c_rows_for ?k_rows_for ?a_is_great ?l_is_great ?c_is_great ?k_is_great ?a_do_row ?l_do_row ?c_do_row ?k_do_row ?a_run ?l_run ?c_run ?k_run ?a__law_deck ?l__law_deck ?c__law_deck ?k__law_deck ?a__law_take ?l__law_take ?c__law_take ?k__law_take ?a__law_alike ?l__law_alike ?c__law_alike ?k__law_alike ?a__law_word ?l__law_word ?c__law_word ?k__law_word ?a__law_copy ?l__law_copy ?c__law_copy ?k__law_copy ?a__law_tree ?l__law_tree ?c__law_tree ?k__law_tree ?a__law_powers ?l__law_powers ?c__law_powers ?k__law_powers ?a__law_many_calls ?l__law_many_calls ?c__law_many_calls ?k__law_many_calls ?a__law_many_rows ?l__law_many_rows ?c__law_many_rows ?k__law_many_rows ?a__law_wide ?l__law_wide ?c__law_wide ?k__law_wide ?a__law_users ?l__law_users ?c__law_users ?k__law_users ?a_law ?l_law ?c_law ?k_law ?a_MOST_CALLS ?a_MOST_ROWS ?a_MOST_CELLS ?a_NO ?l_NO ?q_NO ?a_YES ?l_YES ?q_YES ?a_AsiffreshError ?k_AsiffreshError ?a_BadAsk ?k_BadAsk ?a_BadDeed ?k_BadDeed ?a_NotYet ?k_NotYet ?a_BadName ?k_BadName ?a_BadValue ?k_BadValue ?a_TooLong ?k_TooLong ?a_TooMany ?k_TooMany ?as_s ?as_d ?as_t ?ob_n ?ob_t ?x_BadName ?s_BadName ?t_BadName ?sa_BadName ?hg_BadName ?hk_BadName ?hd_BadName ?ha_BadName ?hm_BadName ?x_BadValue ?s_BadValue ?t_BadValue ?sa_BadValue ?hg_BadValue ?hk_BadValue ?hd_BadValue ?ha_BadValue ?hm_BadValue ?x_TooLong ?s_TooLong ?t_TooLong ?sa_TooLong ?hg_TooLong ?hk_TooLong ?hd_TooLong ?ha_TooLong ?hm_TooLong ?i_BadName_ValueError ?i_BadName_BadAsk ?i_BadName_BadDeed ?i_BadName_NotYet ?i_BadName_BadName ?i_BadName_BadValue ?i_BadName_TooLong ?i_BadName_TooMany ?i_BadValue_ValueError ?i_BadValue_BadAsk ?i_BadValue_BadDeed ?i_BadValue_NotYet ?i_BadValue_BadName ?i_BadValue_BadValue ?i_BadValue_TooLong ?i_BadValue_TooMany ?i_TooLong_ValueError ?i_TooLong_BadAsk ?i_TooLong_BadDeed ?i_TooLong_NotYet ?i_TooLong_BadName ?i_TooLong_BadValue ?i_TooLong_TooLong ?i_TooLong_TooMany ?z_len ?z_int ?z_tuple ?z_list ?z_range ?z_isinstance ?z_bool ?z_str ?z_ValueError
    (case a_popped => k_is); (case l_popped => k_is); (case c_popped => k_is); (case k_popped => k_is); (case a_rows_for => k_is); (case l_rows_for => k_is)
    (case c_rows_for => k_is); (case k_rows_for => k_is); (case a_is_great => k_is); (case l_is_great => k_is); (case c_is_great => k_is); (case k_is_great => k_is)
    (case a_do_row => k_is); (case l_do_row => k_is); (case c_do_row => k_is); (case k_do_row => k_is); (case a_run => k_is); (case l_run => k_is)
    (case c_run => k_is); (case k_run => k_is); (case a__law_deck => k_is); (case l__law_deck => k_is); (case c__law_deck => k_is); (case k__law_deck => k_is)
    (case a__law_take => k_is); (case l__law_take => k_is); (case c__law_take => k_is); (case k__law_take => k_is); (case a__law_alike => k_is); (case l__law_alike => k_is)
    (case c__law_alike => k_is); (case k__law_alike => k_is); (case a__law_word => k_is); (case l__law_word => k_is); (case c__law_word => k_is); (case k__law_word => k_is)
    (case a__law_copy => k_is); (case l__law_copy => k_is); (case c__law_copy => k_is); (case k__law_copy => k_is); (case a__law_tree => k_is); (case l__law_tree => k_is)
    (case c__law_tree => k_is); (case k__law_tree => k_is); (case a__law_powers => k_is); (case l__law_powers => k_is); (case c__law_powers => k_is); (case k__law_powers => k_is)
    (case a__law_many_calls => k_is); (case l__law_many_calls => k_is); (case c__law_many_calls => k_is); (case k__law_many_calls => k_is); (case a__law_many_rows => k_is); (case l__law_many_rows => k_is)
    (case c__law_many_rows => k_is); (case k__law_many_rows => k_is); (case a__law_wide => k_is); (case l__law_wide => k_is); (case c__law_wide => k_is); (case k__law_wide => k_is)
    (case a__law_users => k_is); (case l__law_users => k_is); (case c__law_users => k_is); (case k__law_users => k_is); (case a_law => k_is); (case l_law => k_is)
    (case c_law => k_is); (case k_law => k_is); (case a_MOST_CALLS => k_is); (case a_MOST_ROWS => k_is); (case a_MOST_CELLS => k_is); (case a_NO => k_is)
    (case l_NO => k_is); (case q_NO => k_is); (case a_YES => k_is); (case l_YES => k_is); (case q_YES => k_is); (case a_AsiffreshError => k_is)
    (case k_AsiffreshError => k_is); (case a_BadAsk => k_is); (case k_BadAsk => k_is); (case a_BadDeed => k_is); (case k_BadDeed => k_is); (case a_NotYet => k_is)
    (case k_NotYet => k_is); (case a_BadName => k_is); (case k_BadName => k_is); (case a_BadValue => k_is); (case k_BadValue => k_is); (case a_TooLong => k_is)
    (case k_TooLong => k_is); (case a_TooMany => k_is); (case k_TooMany => k_is); (case as_s => k_is); (case as_d => k_is); (case as_t => k_is)
    (case ob_n => k_is); (case ob_t => k_is); (case x_BadName => k_exc); (case s_BadName => k_is); (case t_BadName => k_is); (case sa_BadName => k_is)
    (case hg_BadName => k_is); (case hk_BadName => k_is); (case hd_BadName => k_is); (case ha_BadName => k_is); (case hm_BadName => k_is); (case x_BadValue => k_exc)
    (case s_BadValue => k_is); (case t_BadValue => k_is); (case sa_BadValue => k_is); (case hg_BadValue => k_is); (case hk_BadValue => k_is); (case hd_BadValue => k_is)
    (case ha_BadValue => k_is); (case hm_BadValue => k_is); (case x_TooLong => k_exc); (case s_TooLong => k_is); (case t_TooLong => k_is); (case sa_TooLong => k_is)
    (case hg_TooLong => k_is); (case hk_TooLong => k_is); (case hd_TooLong => k_is); (case ha_TooLong => k_is); (case hm_TooLong => k_is); (case i_BadName_ValueError => kit_is)
    (case i_BadName_BadAsk => kit_is); (case i_BadName_BadDeed => kit_is); (case i_BadName_NotYet => kit_is); (case i_BadName_BadName => kit_is); (case i_BadName_BadValue => kit_is); (case i_BadName_TooLong => kit_is)
    (case i_BadName_TooMany => kit_is); (case i_BadValue_ValueError => kit_is); (case i_BadValue_BadAsk => kit_is); (case i_BadValue_BadDeed => kit_is); (case i_BadValue_NotYet => kit_is); (case i_BadValue_BadName => kit_is)
    (case i_BadValue_BadValue => kit_is); (case i_BadValue_TooLong => kit_is); (case i_BadValue_TooMany => kit_is); (case i_TooLong_ValueError => kit_is); (case i_TooLong_BadAsk => kit_is); (case i_TooLong_BadDeed => kit_is)
    (case i_TooLong_NotYet => kit_is); (case i_TooLong_BadName => kit_is); (case i_TooLong_BadValue => kit_is); (case i_TooLong_TooLong => kit_is); (case i_TooLong_TooMany => kit_is); (case z_len => k_is)
    (case z_int => k_is); (case z_tuple => k_is); (case z_list => k_is); (case z_range => k_is); (case z_isinstance => k_is); (case z_bool => k_is)
    (case z_str => k_is); (case z_ValueError => k_is)
#print axioms PySem.Challenge.cw_asiffresh_k90_calls_and_refusals_holds

