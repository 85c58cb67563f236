import PyProof.Rows.All
import Wide.All
import OpenK.AllK
import Wide.FinOn
import KE.KStateDown
import Lean
import HandS.ForMost
import HandS.Exc
import HandS.More
import HandS.Words
import HandS.WordsExc
import HandS.Defaults
import HandS.Head0
import HandS.Head1
import HandS.Head2
import HandS.HeadEnd
import HandS.HeadHook1
import HandS.HeadHook2
import HandS.Zip0
import HandS.Zip
import HandS.TupSets
import HandS.SetFor
import HandS.Strs
import KE.SortData
import HandS.Text
import HandS.IsInst
import HandS.SortInts
import HandS.CallSlots
import HandS.TupAny
import HandS.TupMul
import HandS.Deep
import HandS.Conv
import HandS.Flow
import PySem.Challenge.RW_norowstray_k41_starts
set_option Elab.async false
set_option linter.all false
set_option maxRecDepth 100000
set_option maxHeartbeats 4000000
/-! S6: enumerate over a tuple. -/
namespace EnT
open PySem
section
variable {P : Program} {w : World} {A : Around} {E : Value → Shared → Prop} {s : Shared}
/-- fields set one behind the other keep all others -/
theorem but_trans {a : Addr} {h1 h2 h3 : Heap} (p : Heap.SameBut a h1 h2) (q : Heap.SameBut a h2 h3) : Heap.SameBut a h1 h3 := ⟨q.1.trans p.1, fun b hb => (q.2 b hb).trans (p.2 b hb)⟩
/-- the count, the new pair and the hand-out, once the item is at hand -/
theorem step_item {z c src : Addr} {n : Nat} {xs : Array Value} {x was : Value} {Q : Value → Shared → Prop} (ez : IsEnum s.heap z c n was) (ec : s.heap.IsTupleIter c src n) (es : s.heap.IsTuple src xs) (ex : xs[n]? = some x) (apart : z ≠ c)
    (fin : ∀ g, IsEnumOut g z c ((n : Int) + 1) x s.heap.objs.size → g.IsTupleIter c src (n + 1) → g.get? s.heap.objs.size = some { cls := .type "tuple", data := .seq #[.int n s.toks, x] } → g.objs.size = s.heap.objs.size + 1 →
      (∀ b o, b ≠ z → b ≠ c → s.heap.get? b = some o → g.get? b = some o) → Q (.ref s.heap.objs.size) { s with heap := g, toks := s.toks + 1 }) :
    wpAny (model P w) A (Builtin.«enumerate.__next__» ⟨[.ref z], []⟩) (fun f s' => ∃ v, f = .done (.ret v) ∧ Q v s') E s := by
  obtain ⟨hp, gl, d, tk, os⟩ := s
  show wpAny _ _ (field (.ref z) 2 >>= _) _ _ _
  refine wpAny_bind (wpAny_field ez rfl (x := .ref c) rfl (wpAny_bind (RZ.nextOf_tuple_item ec es ex fun g1 i1 b1 => ?_)))
  have z1 : IsEnum g1 z c n was := (b1.2 z apart).trans ez
  show wpAny _ _ (field (.ref z) 3 >>= _) _ _ ⟨g1, gl, d, tk, os⟩
  refine wpAny_bind (wpAny_field z1 rfl (x := rawInt n) rfl ?_)
  show wpAny _ _ (field (.ref z) 4 >>= _) _ _ ⟨g1, gl, d, tk, os⟩
  refine wpAny_bind (wpAny_field z1 rfl (x := .none) rfl ?_)
  show wpAny _ _ (mkInt n >>= _) _ _ ⟨g1, gl, d, tk, os⟩
  refine wpAny_bind (wpAny_mkInt ?_)
  show wpAny _ _ (setField (.ref z) 3 (rawInt ((n : Int) + 1)) >>= _) _ _ ⟨g1, gl, d, tk + 1, os⟩
  refine wpAny_bind (wpAny_setField_rec z1 (by simp) fun g2 z2 b2 => ?_)
  replace z2 : IsEnum g2 z c ((n : Int) + 1) was := z2
  show wpAny _ _ (setField (.ref z) 4 .none >>= _) _ _ ⟨g2, gl, d, tk + 1, os⟩
  refine wpAny_bind (wpAny_setField_rec z2 (by simp) fun g3 z3 b3 => ?_)
  replace z3 : IsEnum g3 z c ((n : Int) + 1) was := z3
  have b13 : Heap.SameBut z g1 g3 := but_trans b2 b3
  have sz3 : g3.objs.size = hp.objs.size := b13.1.trans b1.1
  show wpAny _ _ (newTuple [.int n tk, x] >>= _) _ _ ⟨g3, gl, d, tk + 1, os⟩
  refine wpAny_bind (wpAny_newTuple ?_)
  obtain ⟨g4, e4⟩ : ∃ g4, g4 = g3.push { cls := .type "tuple", data := .seq #[.int n tk, x] } := ⟨_, rfl⟩
  have z4 : IsEnum g4 z c ((n : Int) + 1) was := by rw [e4]; exact Heap.get?_push_of_some _ z3
  have i4 : g4.IsTupleIter c src (n + 1) := (i1.extBut b13.extBut (Ne.symm apart)).at fun o q => by rw [e4]; exact Heap.get?_push_of_some _ q
  have t4 : g4.get? hp.objs.size = some { cls := .type "tuple", data := .seq #[.int n tk, x] } := by rw [e4, ← sz3]; exact Heap.get?_push_size _ rfl
  have sz4 : g4.objs.size = hp.objs.size + 1 := by rw [e4, Heap.size_push, sz3]
  have k4 : ∀ b o, b ≠ z → b ≠ c → hp.get? b = some o → g4.get? b = some o := fun b o p q r => by
    rw [e4]
    exact Heap.get?_push_of_some _ (b13.extBut b o p (b1.extBut b o q r))
  have lz : z < hp.objs.size := Heap.lt_size ez
  rw [← e4]
  show wpAny _ _ (Builtin.SmallTypes.ownedTupleIsFree (.ref z) >>= _) _ _ ⟨g4, gl, d, tk + 1, os⟩
  rw [sz3]
  refine wpAny_bind ?_
  unfold Builtin.SmallTypes.ownedTupleIsFree
  refine wpAny_bind (wpAny_field z4 rfl (x := .none) rfl (wpAny_pure ?_))
  simp only [if_true]
  refine wpAny_bind (wpAny_rule (wpAny_bind (wpAny_field z4 rfl (x := was) rfl (wpAny_bind (wpAny_setField_rec z4 (by simp) fun g5 z5 b5 => ?_)))))
  replace z5 : IsEnum g5 z c ((n : Int) + 1) x := z5
  show wpAny _ _ (Builtin.SmallTypes.ownedTupleHandOut (.ref z) (.ref hp.objs.size) >>= _) _ _ ⟨g5, gl, d, tk + 1, os⟩
  refine wpAny_bind ?_
  unfold Builtin.SmallTypes.ownedTupleHandOut
  refine wpAny_bind (wpAny_setField_rec z5 (by simp) fun g6 z6 b6 => ?_)
  replace z6 : IsEnumOut g6 z c ((n : Int) + 1) x hp.objs.size := z6
  refine wpAny_setField_rec z6 (by simp) fun g7 z7 b7 => ?_
  have b47 : Heap.SameBut z g4 g7 := but_trans b5 (but_trans b6 b7)
  refine wpAny_bind (wpAny_letGo (wpAny_pure ⟨_, rfl, fin g7 z7 (i4.extBut b47.extBut (Ne.symm apart)) ?_ (b47.1.trans sz4) fun b o p q r => ?_⟩))
  · exact b47.extBut _ _ (Nat.ne_of_gt lz) t4
  · exact b47.extBut b o p (k4 b o p q r)
theorem typ {z c : Addr} {i : Int} {was : Value} (ez : IsEnum s.heap z c i was) : s.TypeIs (.ref z) "enumerate" := ⟨_, ez, rfl⟩
theorem next_item {z c src : Addr} {n : Nat} {xs : Array Value} {x was : Value} {Q : Option Value → Shared → Prop} (ez : IsEnum s.heap z c n was) (ec : s.heap.IsTupleIter c src n) (es : s.heap.IsTuple src xs) (ex : xs[n]? = some x) (apart : z ≠ c)
    (fin : ∀ g, IsEnumOut g z c ((n : Int) + 1) x s.heap.objs.size → g.IsTupleIter c src (n + 1) → g.get? s.heap.objs.size = some { cls := .type "tuple", data := .seq #[.int n s.toks, x] } → g.objs.size = s.heap.objs.size + 1 →
      (∀ b o, b ≠ z → b ≠ c → s.heap.get? b = some o → g.get? b = some o) → Q (some (.ref s.heap.objs.size)) { s with heap := g, toks := s.toks + 1 }) :
    wpAny (model P w) A (pyNext (.ref z)) Q E s := by
  unfold pyNext
  refine wpAny_bind (wpAny_attempt (wpAny_callSpecial?_slot (name := Str.ofString "__next__") (typ ez) F.slot_enumerate_next (wpAny_call_entry F.slot_enumerate_next (typ ez) F.entry_enumerate_next ?_ (F.args_enumerate_next_1 _))))
  exact step_item ez ec es ex apart fun g q1 q2 q3 q4 q5 => wpAny_pure (fin g q1 q2 q3 q4 q5)
theorem next_end {z c src : Addr} {n : Nat} {xs : Array Value} {was : Value} {Q : Option Value → Shared → Prop} (hh : A.handled = none) (ez : IsEnum s.heap z c n was) (ec : s.heap.IsTupleIter c src n) (es : s.heap.IsTuple src xs) (ex : xs[n]? = none)
    (fin : ∀ g, Heap.ExtBut c s.heap g → Q none { s with heap := g }) : wpAny (model P w) A (pyNext (.ref z)) Q E s := by
  unfold pyNext
  refine wpAny_bind (wpAny_attempt (wpAny_callSpecial?_slot (name := Str.ofString "__next__") (typ ez) F.slot_enumerate_next (wpAny_call_entry F.slot_enumerate_next (typ ez) F.entry_enumerate_next ?_ (F.args_enumerate_next_1 _))))
  show wpAny _ _ (field (.ref z) 2 >>= _) _ _ _
  refine wpAny_bind (wpAny_field ez rfl (x := .ref c) rfl (wpAny_bind (RZ.nextOf_tuple_end hh ec es ex fun g x q1 q2 => ?_)))
  obtain ⟨ob, q3, q4⟩ := q2
  exact wpAny_bind (wpAny_isInstance (T := "StopIteration") (b := true) ⟨ob, q3, q4⟩ isSubtype_stop (wpAny_pure (fin _ q1)))
/-- the two new objects -/
abbrev mk1 (src : Addr) : Obj := { cls := .type "tuple_iterator", data := .fields #[.ref src, .int 0 0] }
abbrev mk2 (c : Addr) : Obj := { cls := .type "enumerate", data := .fields #[.none, .bool false, .ref c, rawInt 0, .none, .none] }
theorem meets_new (src : Addr) (xs : Array Value) : Meets (Builtin.«enumerate.__new__» ⟨[.type "enumerate", .ref src], []⟩) (fun _ R s => s.heap.IsTuple src xs ∧
      R (.ok (.ret (.ref (s.heap.push (mk1 src)).objs.size))) { s with heap := (s.heap.push (mk1 src)).push (mk2 s.heap.objs.size) }) :=
  .of_wp fun P w A R s h => by
    obtain ⟨hp, gl, d, tk, os⟩ := s
    obtain ⟨hl, h⟩ := h
    have hsub := sub_enumerate
    have hT : Heap.IsTuple (Shared.heap ⟨hp, gl, d, tk, os⟩) src xs := hl
    wp_walk using wpAny_pyIter_tuple hT
    refine wpAny_stack_any fun st => wpAny_pure ?_
    split
    · rename_i cc _ _ _ _ _
      cases (cc == Value.type "enumerate") <;> (wp_walk using wpAny_pyIter_tuple hT) <;> exact ⟨_, rfl, h⟩
    · wp_walk using wpAny_pyIter_tuple hT
      exact ⟨_, rfl, h⟩
theorem call_new {src : Addr} {xs : Array Value} {Q : Value → Shared → Prop} (es : s.heap.IsTuple src xs)
    (fin : ∀ g, IsEnum g (s.heap.objs.size + 1) s.heap.objs.size 0 .none → g.IsTupleIter s.heap.objs.size src 0 → (∀ b o, s.heap.get? b = some o → g.get? b = some o) → Q (.ref (s.heap.objs.size + 1)) { s with heap := g }) :
    wpAny (model P w) A (call (.type "enumerate") [.ref src]) Q E s := by
  refine callType_new F.called_enumerate (by decide) (F.typeCall_enumerate_1 _) (F.newCall_enumerate_1 _) (fun obj => F.args_object_init_2 obj _) F.entry_enumerate_new (meets_new src xs) ⟨es, ?_⟩
  have sz : (s.heap.push (mk1 src)).objs.size = s.heap.objs.size + 1 := Heap.size_push ..
  have e2 := Heap.get?_push_size (s.heap.push (mk1 src)) (o := mk2 s.heap.objs.size) rfl
  rw [sz] at e2
  show _ ∧ _
  rw [sz]
  exact ⟨⟨_, e2, rfl⟩, fin _ e2 ⟨_, Heap.get?_push_of_some _ (Heap.get?_push_size _ rfl), rfl, rfl⟩ fun b o q => Heap.get?_push_of_some _ (Heap.get?_push_of_some _ q)⟩
end
section
open L2 PySem.Spec PyProof.Rows
/-- the tuple at a, each item in a new pair with its place -/
def IteT (K : PySem.W.Frag) (a : Addr) : It where
  go := fun i H => ∃ (xs : List V) (x : V), SqT K H a xs ∧ xs[i]? = some x
  yld := fun i H v H' => ∃ p x, v = .ref p ∧ H p = none ∧ H' = upd H p (.tup [.int (i : Nat), x]) ∧ ∀ xs, SqT K H a xs → xs[i]? = some x
  stop := fun i H => ∃ xs : List V, SqT K H a xs ∧ xs.length ≤ i
theorem turnT {P : Program} {w : World} {K : PySem.W.Frag} {elts : List Expr} {kk : Nat} {tpos : Pos} (a z c : Addr) :
    Turn P w K (.Tuple elts kk tpos) (IteT K a) [z, c] z (fun i h => (∃ was, IsEnum h z c ((i : Nat) : Int) was) ∧ h.IsTupleIter c a i ∧ z ≠ c) where
  mem := List.mem_cons_self ..
  obj := fun i h ⟨⟨was, q1⟩, ⟨o, q2, q3, q4⟩, _⟩ b hb => by
    simp only [List.mem_cons, List.not_mem_nil, or_false] at hb
    rcases hb with rfl | rfl
    · exact ⟨_, q1, fun v q => nomatch q⟩
    · exact ⟨o, q2, fun v q => by rw [q4] at q; cases q⟩
  keep := fun i h h' ⟨⟨was, q1⟩, q2, q3⟩ k => ⟨⟨was, k z (List.mem_cons_self ..) _ q1⟩, q2.at fun o q => k c (by simp) o q, q3⟩
  item := by
    intro X hP hw hK hc i pins s σ H E I hf ⟨⟨was, q1⟩, q2, q3⟩ ⟨xs, x, hq, hx⟩
    subst hP hw hK
    obtain ⟨its, rv, p, _⟩ := I.tuple hq
    obtain ⟨u, hu, ru⟩ := rv.get hx
    have lz : z < s.heap.objs.size := Heap.lt_size q1
    have lc : c < s.heap.objs.size := by obtain ⟨_, q, _⟩ := q2; exact Heap.lt_size q
    refine next_item q1 q2 (show s.heap.IsTuple a its.toArray from p) (x := u) (by simpa using hu) q3 fun g ho hit hT hsz hk => ?_
    refine ⟨_, rfl, wpAny_letOwnedTupleGo_enum (s := { s with heap := g, toks := s.toks + 1 }) ho fun g2 z2 sb => ?_⟩
    have same : ∀ b, b ≠ z → g2.get? b = g.get? b := fun b hb => sb.2 b hb
    have pr : ObjOk X.prog X.w (upd H s.heap.objs.size (.tup [.int (i : Nat), x])) g2 s.heap.objs.size (.tup [.int (i : Nat), x]) :=
      ⟨by show 2 ≤ sizeLine; decide, [.int i s.toks, u], .cons ⟨_, rfl⟩ (.cons ru .nil), ⟨_, (same _ (Nat.ne_of_gt lz)).trans hT, rfl, _, rfl⟩⟩
    have I2 : Inv X pins σ (upd H s.heap.objs.size (.tup [.int (i : Nat), x])) { s with heap := g2, toks := s.toks + 1 } :=
      I.turnedNew (ch := [z, c]) (fun b ob hb q => (same b fun y => hb (by simp [y])).trans (hk b ob (fun y => hb (by simp [y])) (fun y => hb (by simp [y])) q)) hf (Nat.le_refl _) pr
    refine ⟨.ref s.heap.objs.size, _, I2, rfl, ⟨_, x, rfl, I.hok.fresh (Nat.le_refl _), rfl, fun ys hy => ?_⟩, ⟨⟨u, ?_⟩, hit.at fun o q => (same c (Ne.symm q3)).trans q, q3⟩, fun b hb => ?_⟩
    · have e : ys = xs := I.tuple_inj hy hq
      rw [e]
      exact hx
    · rw [show ((i + 1 : Nat) : Int) = (i : Int) + 1 by omega]
      exact z2
    · have lb : b < s.heap.objs.size := by
        simp only [List.mem_cons, List.not_mem_nil, or_false] at hb
        rcases hb with rfl | rfl <;> assumption
      rw [upd_ne (Nat.ne_of_lt lb)]
      exact (hf b hb).1
  done := by
    intro X hP hw hK hc i pins s σ H E I hf ⟨⟨was, q1⟩, q2, q3⟩ ⟨xs, hq, hx⟩
    subst hP hw hK
    obtain ⟨its, rv, p, _⟩ := I.tuple hq
    obtain ⟨f0, f1, f2, f3, f4, f5⟩ := hf c (by simp)
    have ln := rv.length
    exact next_end (I.ok.hd hc) q1 q2 (show s.heap.IsTuple a its.toArray from p) (by simp; omega) fun g eb => ⟨rfl, I.turned (t' := s.toks) (fun b o hb q => eb b o hb q) f0 f1 f3 f4 f5⟩
  self := fun A i s Q E ⟨⟨_, q1⟩, _⟩ h => wpAny_pyIter_enum q1 h
/-- enumerate of a list or of a tuple -/
def iEn (K : PySem.W.Frag) (ta : TA) : TI := fun σ H R => ta σ H fun vs H1 => ∃ a, vs = [.ref a] ∧ (((∃ xs, SqL K H1 a xs) ∧ R (Ite K a) H1) ∨ ((∃ xs, SqT K H1 a xs) ∧ R (IteT K a) H1))
theorem pi_en {X : Cx} {e : Expr} {ta : TA} {p pos tpos : Pos} {elts : List Expr} {kk : Nat} (hg : Gl X "enumerate") (hm : X.mg "enumerate" = none) (ha : PA X [e] ta) (hs : starEach [e] X.env = [(false, eval e X.env)]) :
    PI X (.Tuple elts kk tpos) (.Call (.Name "enumerate" p) [e] [] pos) (iEn X.K ta) := by
  refine ⟨fun pins s σ H R I h => ?_⟩
  refine Call_ (ld_blt I hg hm boot_enumerate (PyProof.Rows.callWith_type1 (thn (ha.run pos pins s σ H _ I h) fun us s1 ⟨vs, H1, I1, r1, a, ex, q1⟩ => ?_) hs rfl))
  subst ex
  obtain ⟨u, rfl⟩ : ∃ u, us = [u] := by cases r1 with | cons _ rr => cases rr; exact ⟨_, rfl⟩
  have hr : u = Value.ref a := by cases r1 with | cons r _ => cases r; rfl
  subst hr
  have fresh2 : ∀ b, b ∈ [s1.heap.objs.size + 1, s1.heap.objs.size] → FpOk X pins H1 b := fun b hb => by
    have hle : s1.heap.objs.size ≤ b := by
      simp only [List.mem_cons, List.not_mem_nil, or_false] at hb
      rcases hb with rfl | rfl
      · exact Nat.le_succ _
      · exact Nat.le_refl _
    exact I1.fpOk hle (I1.hok.fresh hle)
  rcases q1 with ⟨⟨xs, hq⟩, q⟩ | ⟨⟨xs, hq⟩, q⟩
  · obtain ⟨its, rv, p', _⟩ := I1.list hq
    refine call_enumerate_list p'.isList fun g he hit hsz hk => wpAny_pyIter_enum he ?_
    exact ⟨s1.heap.objs.size + 1, [s1.heap.objs.size + 1, s1.heap.objs.size], _, _, H1, rfl, I1.kept (t' := s1.toks) hk, turn_enum a (s1.heap.objs.size + 1) s1.heap.objs.size, ⟨⟨.none, he⟩, hit, Nat.succ_ne_self _⟩, fresh2, q⟩
  · obtain ⟨its, rv, p', _⟩ := I1.tuple hq
    refine call_new (show s1.heap.IsTuple a its.toArray from p') fun g he hit hk => wpAny_pyIter_enum he ?_
    exact ⟨s1.heap.objs.size + 1, [s1.heap.objs.size + 1, s1.heap.objs.size], _, _, H1, rfl, I1.kept (t' := s1.toks) hk, turnT a (s1.heap.objs.size + 1) s1.heap.objs.size, ⟨⟨.none, he⟩, hit, Nat.succ_ne_self _⟩, fresh2, q⟩
end
end EnT

/-! S2: each once, in order: plain lists. -/
namespace SetF
section
variable {α : Type} [DecidableEq α]
def uniq : List α → List α
  | [] => []
  | x :: xs => if x ∈ xs then uniq xs else x :: uniq xs
theorem mem_uniq {x : α} : ∀ {l : List α}, x ∈ uniq l ↔ x ∈ l
  | [] => Iff.rfl
  | y :: l => by
    unfold uniq
    split
    · rename_i h
      rw [mem_uniq (l := l), List.mem_cons]
      exact ⟨.inr, fun z => z.elim (fun e => e ▸ h) id⟩
    · rw [List.mem_cons, List.mem_cons, mem_uniq (l := l)]
theorem nodup_uniq : ∀ l : List α, (uniq l).Nodup
  | [] => List.nodup_nil
  | y :: l => by
    unfold uniq
    split
    · exact nodup_uniq l
    · rename_i h
      exact List.nodup_cons.mpr ⟨fun z => h (mem_uniq.mp z), nodup_uniq l⟩
theorem length_uniq : ∀ l : List α, (uniq l).length ≤ l.length
  | [] => Nat.le_refl _
  | y :: l => by
    unfold uniq
    have := length_uniq l
    split <;> simp only [List.length_cons] <;> omega
theorem perm_of_same {l m : List α} (hl : l.Nodup) (hm : m.Nodup) (h : ∀ x, x ∈ l ↔ x ∈ m) : l.Perm m := (List.perm_ext_iff_of_nodup hl hm).mpr h
end
/-- rows, the order of tuples of whole numbers -/
def rowLe (a b : List Int) : Bool := decide (a ≤ b)
theorem rowLe_trans (a b c : List Int) (h1 : rowLe a b = true) (h2 : rowLe b c = true) : rowLe a c = true :=
  decide_eq_true (List.le_trans (of_decide_eq_true h1) (of_decide_eq_true h2))
theorem rowLe_total (a b : List Int) : (rowLe a b || rowLe b a) = true := by
  rcases List.le_total a b with h | h
  · rw [show rowLe a b = true from decide_eq_true h]; rfl
  · rw [show rowLe b a = true from decide_eq_true h, Bool.or_true]
theorem rowLe_anti (a b : List Int) (h1 : rowLe a b = true) (h2 : rowLe b a = true) : a = b := List.le_antisymm (of_decide_eq_true h1) (of_decide_eq_true h2)
def sortRows (rs : List (List Int)) : List (List Int) := (uniq rs).mergeSort rowLe
def sortInts (ns : List Int) : List Int := (uniq ns).mergeSort fun a b => decide (a ≤ b)
theorem mem_sortRows {r : List Int} {rs : List (List Int)} : r ∈ sortRows rs ↔ r ∈ rs := by
  unfold sortRows
  rw [(List.mergeSort_perm _ _).mem_iff, mem_uniq]
theorem mem_sortInts {r : Int} {rs : List Int} : r ∈ sortInts rs ↔ r ∈ rs := by
  unfold sortInts
  rw [(List.mergeSort_perm _ _).mem_iff, mem_uniq]
theorem sortRows_len (rs : List (List Int)) : (sortRows rs).length = (uniq rs).length := List.length_mergeSort _
theorem sortInts_len (rs : List Int) : (sortInts rs).length = (uniq rs).length := List.length_mergeSort _
theorem sortRows_pair (rs : List (List Int)) : (sortRows rs).Pairwise fun a b => rowLe a b = true := List.pairwise_mergeSort rowLe_trans rowLe_total _
theorem sortRows_nodup (rs : List (List Int)) : (sortRows rs).Nodup := (List.mergeSort_perm _ _).nodup_iff.mpr (nodup_uniq rs)
theorem sortInts_nodup (rs : List Int) : (sortInts rs).Nodup := (List.mergeSort_perm _ _).nodup_iff.mpr (nodup_uniq rs)
theorem sortInts_pair (rs : List Int) : (sortInts rs).Pairwise fun a b => a ≤ b := by
  refine List.Pairwise.imp (fun {a b} h => of_decide_eq_true h) (List.pairwise_mergeSort (le := fun a b : Int => decide (a ≤ b)) (fun a b c => ?_) (fun a b => ?_) (uniq rs))
  · simp only [decide_eq_true_eq]; omega
  · simp only [Bool.or_eq_true, decide_eq_true_eq]; omega
/-- the one ascending list of these rows -/
theorem sortRows_eq {l rs : List (List Int)} (hp : l.Pairwise fun a b => rowLe a b = true) (hn : l.Nodup) (hm : ∀ r, r ∈ l ↔ r ∈ rs) : l = sortRows rs := by
  refine List.Perm.eq_of_pairwise (le := fun a b => rowLe a b = true) (fun a b _ _ h1 h2 => rowLe_anti a b h1 h2) hp (sortRows_pair rs) ?_
  exact perm_of_same hn (sortRows_nodup rs) fun r => by rw [hm, mem_sortRows]
theorem sortInts_eq {l rs : List Int} (hp : l.Pairwise fun a b => a ≤ b) (hn : l.Nodup) (hm : ∀ r, r ∈ l ↔ r ∈ rs) : l = sortInts rs := by
  refine List.Perm.eq_of_pairwise (le := fun a b => a ≤ b) (fun a b _ _ h1 h2 => Int.le_antisymm h1 h2) hp (sortInts_pair rs) ?_
  exact perm_of_same hn (sortInts_nodup rs) fun r => by rw [hm, mem_sortInts]
theorem sortRows_same {rs ss : List (List Int)} (h : ∀ r, r ∈ rs ↔ r ∈ ss) : sortRows rs = sortRows ss :=
  sortRows_eq (sortRows_pair rs) (sortRows_nodup rs) fun r => by rw [mem_sortRows, h]
theorem sortInts_same {rs ss : List Int} (h : ∀ r, r ∈ rs ↔ r ∈ ss) : sortInts rs = sortInts ss :=
  sortInts_eq (sortInts_pair rs) (sortInts_nodup rs) fun r => by rw [mem_sortInts, h]
end SetF

/-! Ow1: a small pure evaluator: values, the abstract heap of what is mutated, expressions, statements. -/
namespace Ow
open PySem

/-! ### values -/
inductive W where
  | non | bl (b : Bool) | int (i : Int) | str (s : Str)
  | tup (ws : List W) | lst (ws : List W) | slst (ws : List W) | set (ws : List W) | dic (ks vs : List W)
  | ref (n : Nat)
  | ty (n : String)
  | cls (k : Nat)
  | exc (k : Nat) (vs : List W)
  deriving Inhabited
/-- an object that may be changed -/
inductive Obj where
  | dead
  | lst (ws : List W)
  | dic (ks vs : List W)
  | ins (k : Nat) (fs : List W)
abbrev Hp := List Obj
abbrev Env := List (Option W)

mutual
/-- every ref is below n -/
def below (n : Nat) : W → Bool
  | .tup ws => belowL n ws
  | .lst ws => belowL n ws
  | .slst ws => belowL n ws
  | .set ws => belowL n ws
  | .dic ks vs => belowL n ks && belowL n vs
  | .exc _ vs => belowL n vs
  | .ref m => decide (m < n)
  | _ => true
def belowL (n : Nat) : List W → Bool
  | [] => true
  | w :: ws => below n w && belowL n ws
end
def Obj.below (n : Nat) : Obj → Bool
  | .dead => true
  | .lst ws => belowL n ws
  | .dic ks vs => belowL n ks && belowL n vs
  | .ins _ fs => belowL n fs

/-- the content of a ref to a list or a dict, as a value -/
def deref (h : Hp) : W → W
  | .ref n => match h[n]? with
    | some (.lst ws) => .lst ws
    | some (.dic ks vs) => .dic ks vs
    | _ => .ref n
  | w => w

/-- plain data (for ==, order) -/
def toD : W → PyData
  | .non => .none
  | .bl b => .bool b
  | .int i => .int i
  | .str s => .str s
  | .tup ws => .tuple (ws.map toD)
  | .lst ws => .list (ws.map toD)
  | _ => .dict []
mutual
def isD : W → Bool
  | .non => true
  | .bl _ => true
  | .int _ => true
  | .str _ => true
  | .tup ws => isDL ws
  | .lst ws => isDL ws
  | _ => false
def isDL : List W → Bool
  | [] => true
  | w :: ws => isD w && isDL ws
end

/-! ### results -/
inductive R (α : Type) where
  | ok (a : α) (h : Hp)
  | exc (e : W) (h : Hp)
  | bad
def R.bind {α β : Type} (x : R α) (f : α → Hp → R β) : R β := match x with
  | .ok a h => f a h
  | .exc e h => .exc e h
  | .bad => .bad
@[simp] theorem R.bind_ok {α β : Type} (a : α) (h : Hp) (f : α → Hp → R β) : (R.ok a h).bind f = f a h := rfl
@[simp] theorem R.bind_exc {α β : Type} (e : W) (h : Hp) (f : α → Hp → R β) : (R.exc e h : R α).bind f = .exc e h := rfl
@[simp] theorem R.bind_bad {α β : Type} (f : α → Hp → R β) : (R.bad : R α).bind f = .bad := rfl
def R.ofO {α : Type} (o : Option α) (h : Hp) : R α := match o with
  | some a => .ok a h
  | none => .bad
@[simp] theorem R.ofO_some {α : Type} (a : α) (h : Hp) : R.ofO (some a) h = .ok a h := rfl
@[simp] theorem R.ofO_none {α : Type} (h : Hp) : (R.ofO none h : R α) = .bad := rfl

/-! ### primitives -/
inductive Tk where
  | tup | lst | str | bool | int
  deriving DecidableEq
inductive Prim where
  | add | sub | mul | mod | fdiv | pow | neg
  | eq | ne | lt | le | gt | ge | isN | notN | mem | nmem
  | idx | sl (lo hi : Bool)
  | tupd | lstd
  | len | int1 | abs | min2 | max2 | str1 | list1 | tuple1 | sorted1 | set1 | all1 | any1 | sum1 | min1 | max1 | rangeL | rangeT
  | isi (T : Tk)
  | sset | lset
  deriving DecidableEq

/-- an index as Python takes it -/
def ixOf (n : Nat) (i : Int) : Option Nat := L2.ixN n i
def atW (ws : List W) (i : Int) : Option W := L2.atI ws i
def cutW (ws : List W) (lo hi : Option Int) : List W := (ws.drop (HT.sIx ws.length 0 lo)).take (HT.sIx ws.length ws.length hi - HT.sIx ws.length 0 lo)
def okLen (n : Nat) : Bool := decide (n ≤ sizeLine)

def pAdd : W → W → Option W
  | .int a, .int b => some (.int (a + b))
  | .str a, .str b => if okLen (a.length + b.length) then some (.str (a ++ b)) else none
  | .tup a, .tup b => if okLen (a.length + b.length) then some (.tup (a ++ b)) else none
  | .lst a, .lst b => if okLen (a.length + b.length) then some (.lst (a ++ b)) else none
  | _, _ => none
def pSub : W → W → Option W
  | .int a, .int b => some (.int (a - b))
  | _, _ => none
def small64 (i : Int) : Bool := decide (-(2 ^ 64) < i ∧ i < 2 ^ 64)
def pMul : W → W → Option W
  | .int a, .int b => if small64 a || small64 b then some (.int (a * b)) else none
  | .tup a, .int k => if (!a.isEmpty) && decide (-1000 ≤ k ∧ k ≤ 1000 ∧ a.length ≤ 1000) then some (.tup (List.replicate k.toNat a).flatten) else none
  | .lst a, .int k => if decide (a.length * k.toNat ≤ sizeLine ∧ -(2 ^ 63) ≤ k ∧ k < 2 ^ 63) then some (.lst (List.replicate k.toNat a).flatten) else none
  | _, _ => none
def pMod : W → W → Option W
  | .int a, .int b => if b = 0 then none else some (.int (a.fmod b))
  | _, _ => none
def pFdiv : W → W → Option W
  | .int a, .int b => if b ≠ 0 ∧ b.natAbs < 1073741824 then some (.int (a.fdiv b)) else none
  | _, _ => none
def pPow : W → W → Option W
  | .int a, .int b => if 0 ≤ b ∧ b ≤ 1000000 ∧ a.natAbs < 2 ^ 64 then some (.int (a ^ b.toNat)) else none
  | _, _ => none
/-- two data that == may compare -/
def eqOk (a b : W) : Bool := isD a && isD b && SeqAt.shaped (toD a) && SeqAt.shaped (toD b)
def pEq : W → W → Option Bool
  | .str a, .str b => some (decide (a = b))
  | .str _, .non => some false
  | .non, .str _ => some false
  | .str _, .int _ => some false
  | .int _, .str _ => some false
  | a, b => if eqOk a b then some (PyData.eqv (toD a) (toD b)) else none
def pCmp (f : Int → Int → Bool) : W → W → Option W
  | .int a, .int b => some (.bl (f a b))
  | _, _ => none
def items : W → Option (List W)
  | .lst ws => some ws
  | .slst ws => some ws
  | .tup ws => some ws
  | _ => none
def allInt : List W → Option (List Int)
  | [] => some []
  | .int i :: r => (allInt r).map (i :: ·)
  | _ => none
def allBl : List W → Option (List Bool)
  | [] => some []
  | .bl i :: r => (allBl r).map (i :: ·)
  | _ => none
def allStr : List W → Option (List Str)
  | [] => some []
  | .str i :: r => (allStr r).map (i :: ·)
  | _ => none
/-- x in xs -/
def pMemD (x : W) (ws : List W) : Option Bool := if isD x && isDL ws && SeqAt.shaped (toD x) && SeqAt.shaped (.list (ws.map toD)) then some (ws.any fun y => PyData.eqv (toD y) (toD x)) else none
def flatW : W → Bool
  | .non => true
  | .bl _ => true
  | .int _ => true
  | .str _ => true
  | _ => false
/-- == of flat values -/
def eqF : W → W → Bool
  | .non, .non => true
  | .bl a, .bl b => a == b
  | .bl a, .int b => (if a then 1 else 0) == b
  | .int a, .bl b => a == (if b then 1 else 0)
  | .int a, .int b => a == b
  | .str a, .str b => a == b
  | _, _ => false
def pMemF (x : W) (ws : List W) : Option Bool := if flatW x && ws.all flatW then some (ws.any fun y => eqF y x) else none
def pMem : W → W → Option Bool
  | .str x, .str z => some (!(Builtin.Str.occurrences z x 0 z.length 1).isEmpty)
  | x, .lst ws => match pMemF x ws with
    | some k => some k
    | none => pMemD x ws
  | x, .slst ws => pMemF x ws
  | x, .tup ws => pMemF x ws
  | _, _ => none
/-- distinct items, the first ones -/
def dedupW : List W → List W := fun ws => ws.foldl (fun acc w => if acc.any (fun y => PyData.eqv (toD y) (toD w)) then acc else acc ++ [w]) []
def seqLen : W → Option Nat
  | .lst ws => some ws.length
  | .slst ws => some ws.length
  | .tup ws => some ws.length
  | .set ws => some ws.length
  | .dic ks _ => some ks.length
  | .str z => if okLen z.length then some z.length else none
  | _ => none
def pIdx : W → W → Option W
  | .lst ws, .int i => atW ws i
  | .slst ws, .int i => atW ws i
  | .tup ws, .int i => atW ws i
  | .str z, .int i => if okLen z.length then (L2.atI z.cps.toList i).map fun c => .str ⟨#[c]⟩ else none
  | _, _ => none
def optI : Bool → List W → Option (Option Int × List W)
  | true, .int i :: r => some (some i, r)
  | false, r => some (none, r)
  | _, _ => none
def pSl (lo hi : Bool) : List W → Option W
  | x :: r => (optI lo r).bind fun (l, r1) => (optI hi r1).bind fun (u, r2) => match r2, x with
    | [], .lst ws => some (.lst (cutW ws l u))
    | [], .tup ws => some (.tup (cutW ws l u))
    | [], .str z => if okLen z.length then some (.str (L2.cutS z l u)) else none
    | _, _ => none
  | [] => none
def isiF : Tk → W → Option Bool
  | .tup, .tup _ => some true
  | .lst, .lst _ => some true
  | .lst, .slst _ => some true
  | .str, .str _ => some true
  | .bool, .bl _ => some true
  | .int, .bl _ => some true
  | .int, .int _ => some true
  | _, .non => some false
  | _, .bl _ => some false
  | _, .int _ => some false
  | _, .str _ => some false
  | _, .tup _ => some false
  | _, .lst _ => some false
  | _, .slst _ => some false
  | _, _ => none
/-- rows: tuples of whole numbers -/
def rowsW : List W → Option (List (List Int))
  | [] => some []
  | .tup us :: r => (allInt us).bind fun ns => (rowsW r).map (ns :: ·)
  | _ => none
def rowW (r : List Int) : W := .tup (r.map W.int)
/-- sorted: whole numbers, rows -/
def pSort (ws : List W) : Option (List W) := match allInt ws with
  | some ns => some ((ns.mergeSort fun a b => decide (a ≤ b)).map W.int)
  | none => (rowsW ws).bind fun rs => if (rs.all (fun r => !r.isEmpty) || decide (rs.length ≤ 1)) = true then some ((rs.mergeSort SetF.rowLe).map rowW) else none
/-- sorted(set(x)) -/
def pSset (x : W) : Option W := (items x).bind fun ws => match allInt ws with
  | some ns => if ns.length < 64 then some (.lst ((SetF.sortInts ns).map W.int)) else none
  | none => (rowsW ws).bind fun rs => if rs.length < 64 ∧ (rs.all (fun r => !r.isEmpty) || decide ((SetF.uniq rs).length ≤ 1)) = true then some (.lst ((SetF.sortRows rs).map rowW)) else none
/-- len(set(x)) -/
def pLset (x : W) : Option W := (items x).bind fun ws => match allInt ws with
  | some ns => if ns.length < 4000 then some (.int (SetF.uniq ns).length) else none
  | none => (rowsW ws).bind fun rs => if rs.length < 64 then some (.int (SetF.uniq rs).length) else none
def pJoin (z : Str) (ws : List W) : Option W := (allStr ws).bind fun ys => if (ys.map (·.length)).sum + ys.length * z.length ≤ 16777216 then some (.str (Txt.join z ys)) else none
noncomputable def pOne : Prim → W → Option W
  | .isi T, x => (isiF T x).map .bl
  | .sset, x => pSset x
  | .lset, x => pLset x
  | .neg, .int i => some (.int (-i))
  | .len, x => (seqLen x).map fun n => .int n
  | .int1, .int i => some (.int i)
  | .int1, .bl k => some (.int (if k then 1 else 0))
  | .abs, .int i => some (.int (if i < 0 then -i else i))
  | .str1, .int i => if i.natAbs.log2 < 1920 then some (.str (toString i)) else none
  | .list1, x => (items x).map .lst
  | .tuple1, x => (items x).map .tup
  | .sorted1, x => ((items x).bind pSort).map .lst
  | .set1, x => (items x).bind fun ws => if isDL ws && SeqAt.shaped (toD (.lst ws)) then some (.set (dedupW ws)) else none
  | .all1, .lst ws => (allBl ws).map fun bs => .bl (bs.all id)
  | .any1, .lst ws => (allBl ws).map fun bs => .bl (bs.any id)
  | .sum1, .lst ws => (allInt ws).map fun ns => .int ns.sum
  | .min1, .lst ws => (allInt ws).bind fun ns => ns.min?.map .int
  | .max1, .lst ws => (allInt ws).bind fun ns => ns.max?.map .int
  | .rangeL, .int n => if n ≤ 16777216 ∧ -(2 ^ 62) ≤ n then some (.lst ((List.range n.toNat).map fun i => .int (i : Nat))) else none
  | .rangeT, .int n => if n ≤ 16777216 ∧ -(2 ^ 62) ≤ n then some (.tup ((List.range n.toNat).map fun i => .int (i : Nat))) else none
  | _, _ => none
noncomputable def pTwo : Prim → W → W → Option W
  | .add, a, b => pAdd a b
  | .sub, a, b => pSub a b
  | .mul, a, b => pMul a b
  | .mod, a, b => pMod a b
  | .fdiv, a, b => pFdiv a b
  | .pow, a, b => pPow a b
  | .eq, a, b => (pEq a b).map .bl
  | .ne, a, b => (pEq a b).map fun c => .bl (!c)
  | .lt, a, b => pCmp (fun i j => decide (i < j)) a b
  | .le, a, b => pCmp (fun i j => decide (i ≤ j)) a b
  | .gt, a, b => pCmp (fun i j => decide (j < i)) a b
  | .ge, a, b => pCmp (fun i j => decide (j ≤ i)) a b
  | .mem, a, b => (pMem a b).map .bl
  | .nmem, a, b => (pMem a b).map fun c => .bl (!c)
  | .idx, a, b => pIdx a b
  | .min2, .int i, .int j => some (.int (if j < i then j else i))
  | .max2, .int i, .int j => some (.int (if j > i then j else i))
  | _, _, _ => none
def isNon : W → Bool
  | .non => true
  | _ => false
/-- a primitive, by the values of its arguments (refs to lists and dicts as their contents) -/
noncomputable def primF (p : Prim) (ws : List W) : Option W := match p with
  | .tupd => if okLen ws.length then some (.tup ws) else none
  | .lstd => if okLen ws.length then some (.lst ws) else none
  | .sl lo hi => pSl lo hi ws
  | .isN => match ws with
    | [a] => some (.bl (isNon a))
    | _ => none
  | .notN => match ws with
    | [a] => some (.bl (!isNon a))
    | _ => none
  | p => match ws with
    | [a] => pOne p a
    | [a, b] => pTwo p a b
    | _ => none
/-- a primitive whose list is new -/
def Prim.fresh : Prim → Bool
  | .add | .mul | .sl _ _ | .lstd | .list1 | .sorted1 | .rangeL | .sset => true
  | _ => false
/-- a primitive that takes its arguments as they are (refs stay refs) -/
def Prim.raw : Prim → Bool
  | .tupd | .lstd | .isN | .notN => true
  | _ => false

/-! ### expressions, statements -/
inductive Mth where
  | append | pop | popAt | insert | reverse | clear
  | join
  deriving DecidableEq
inductive ItK where
  | seq | rng1 | rng2 | zip | enum | chars
  deriving DecidableEq
inductive Tg where
  | nm (i : Nat)
  | tp (ts : List Tg)
inductive Ex where
  | var (i : Nat)
  | cst (w : W)
  | pr (m : Bool) (p : Prim) (args : List Ex)
  | lc (m : Bool) (t : Tg) (k : ItK) (srcs : List Ex) (tests : List Ex) (e : Ex)
  | and_ (a b : Ex) | or_ (a b : Ex) | not_ (a : Ex)
  | ite (c a b : Ex)
  | chn (p q : Prim) (a b c : Ex)
  | call (k : Nat) (args : List Ex)
  | mth (m : Mth) (o : Ex) (args : List Ex)
  | frz (e : Ex)
  | opq
  deriving Inhabited
inductive St where
  | asg (t : Tg) (e : Ex)
  | seti (o i e : Ex)
  | aug (i : Nat) (p : Prim) (e : Ex)
  | exp (e : Ex)
  | ret (e : Ex)
  | iff (c : Ex) (a b : List St)
  | forr (tr : Bool) (t : Tg) (k : ItK) (srcs : List Ex) (kill : List Nat) (body : List St)
  | whl (c : Ex) (kill : List Nat) (body : List St)
  | brk | cnt | pass | opq
  deriving Inhabited
inductive RS where
  | nxt (r : Env) (h : Hp)
  | brk (r : Env) (h : Hp)
  | cnt (r : Env) (h : Hp)
  | ret (w : W) (h : Hp)
  | exc (e : W) (r : Env) (h : Hp)
  | bad

mutual
def bindT : Tg → W → Env → Option Env
  | .nm i, w, r => if i < r.length then some (r.set i (some w)) else none
  | .tp ts, .tup ws, r => bindTs ts ws r
  | .tp _, _, _ => none
def bindTs : List Tg → List W → Env → Option Env
  | [], [], r => some r
  | t :: ts, w :: ws, r => (bindT t w r).bind (bindTs ts ws)
  | _, _, _ => none
end
mutual
def Tg.names : Tg → List Nat
  | .nm i => [i]
  | .tp ts => Tg.namesL ts
def Tg.namesL : List Tg → List Nat
  | [] => []
  | t :: ts => t.names ++ Tg.namesL ts
end
def wipeE (r : Env) : List Nat → Env
  | [] => r
  | i :: is => (wipeE r is).set i none

def truthW (h : Hp) (w : W) : Option Bool := match deref h w with
  | .non => some false
  | .bl b => some b
  | .int i => some (i != 0)
  | .str z => if okLen z.length then some ((z.length : Int) != 0) else none
  | .lst ws => some (!ws.isEmpty)
  | .tup ws => some (!ws.isEmpty)
  | _ => none
/-- a new object -/
def newObj (h : Hp) : W → Option (W × Hp)
  | .lst ws => some (.ref h.length, h ++ [.lst ws])
  | .dic ks vs => some (.ref h.length, h ++ [.dic ks vs])
  | _ => none
noncomputable def runPrim (m : Bool) (p : Prim) (ws : List W) (h : Hp) : R W :=
  match primF p (if p.raw then ws else ws.map (deref h)) with
  | none => .bad
  | some w => if m then (if p.fresh then (match newObj h w with | some (w', h') => .ok w' h' | none => .bad) else .bad) else .ok w h
def zipW : List W → List W → List W
  | a :: as, b :: bs => .tup [a, b] :: zipW as bs
  | _, _ => []
def enumW : Nat → List W → List W
  | _, [] => []
  | n, a :: as => .tup [.int n, a] :: enumW (n + 1) as
def inR (i : Int) : Bool := decide (-(2 ^ 62) ≤ i ∧ i < 2 ^ 62)
/-- what is walked -/
def itemsOf : ItK → List W → Option (List W)
  | .seq, [x] => items x
  | .rng1, [.int n] => if inR n then some ((List.range n.toNat).map fun i => .int (i : Nat)) else none
  | .rng2, [.int a, .int b] => if inR a && inR b then some ((List.range (b - a).toNat).map fun i => .int (a + (i : Nat))) else none
  | .zip, [.lst a, .lst b] => some (zipW a b)
  | .zip, [.tup a, .tup b] => some (zipW a b)
  | .enum, [.lst a] => some (enumW 0 a)
  | .enum, [.tup a] => some (enumW 0 a)
  | .chars, [.str z] => some (z.cps.toList.map fun c => .str ⟨#[c]⟩)
  | _, _ => none
/-- an object that is walked stays as it is -/
def sameAt (h h' : Hp) : List W → Prop
  | [] => True
  | .ref n :: r => h[n]? = h'[n]? ∧ sameAt h h' r
  | _ :: r => sameAt h h' r
def setObj (h : Hp) (n : Nat) (o : Obj) : Hp := h.set n o
/-- what may be stored into the object n, the region beginning at b -/
def mayPut (b n : Nat) (w : W) : Bool := decide (b ≤ n) || below 0 w

noncomputable def runMth (b : Nat) : Mth → W → List W → Hp → R W
  | .append, .ref n, [x], h => match h[n]? with
    | some (.lst ws) => if mayPut b n x && decide (ws.length < sizeLine) then .ok .non (h.set n (.lst (ws ++ [x]))) else .bad
    | _ => .bad
  | .pop, .ref n, [], h => match h[n]? with
    | some (.lst ws) => match ws.getLast? with
      | some x => .ok x (h.set n (.lst ws.dropLast))
      | none => .bad
    | _ => .bad
  | .popAt, .ref n, [.int i], h => match h[n]? with
    | some (.lst ws) => match ixOf ws.length i with
      | some j => match ws[j]? with
        | some x => if -(2 ^ 63) ≤ i ∧ i < 2 ^ 63 then .ok x (h.set n (.lst (ws.eraseIdx j))) else .bad
        | none => .bad
      | none => .bad
    | _ => .bad
  | .insert, .ref n, [.int i, x], h => match h[n]? with
    | some (.lst ws) => if mayPut b n x && decide (ws.length < sizeLine) && decide (0 ≤ i ∧ i ≤ ws.length) then .ok .non (h.set n (.lst (ws.take i.toNat ++ x :: ws.drop i.toNat))) else .bad
    | _ => .bad
  | .reverse, .ref n, [], h => match h[n]? with
    | some (.lst ws) => .ok .non (h.set n (.lst ws.reverse))
    | _ => .bad
  | .clear, .ref n, [], h => match h[n]? with
    | some (.lst _) => .ok .non (h.set n (.lst []))
    | _ => .bad
  | .join, .str z, [x], h => match (items (deref h x)).bind (pJoin z) with
    | some w => .ok w h
    | none => .bad
  | _, _, _, _ => .bad
/-- the receiver is of the method's type -/
def recvOk : Mth → W → Hp → Bool
  | .join, .str _, _ => true
  | .join, _, _ => false
  | _, .ref n, h => match h[n]? with
    | some (.lst _) => true
    | _ => false
  | _, _, _ => false

section
variable (call : Nat → Nat → List W → Hp → R W) (b : Nat)
open Classical in
/-- a comprehension's loop: body gives the item's value, or none where the test fails -/
noncomputable def lcLoop (body : W → Hp → R (Option W)) (keep : Hp → Prop) : List W → List W → Hp → R (List W)
  | [], acc, h => .ok acc h
  | x :: xs, acc, h => match body x h with
    | .ok o h1 => if keep h1 then (match o with
      | some y => if acc.length < sizeLine then lcLoop body keep xs (acc ++ [y]) h1 else .bad
      | none => lcLoop body keep xs acc h1) else .bad
    | _ => .bad
open Classical in
/-- the same, the list an object that may be changed, at n from the beginning -/
noncomputable def lcLoopM (body : W → Hp → R (Option W)) (keep : Hp → Prop) (n : Nat) : List W → List W → Hp → R W
  | [], _, h => .ok (.ref n) h
  | x :: xs, acc, h => match body x h with
    | .ok o h1 => if keep h1 ∧ h1[n]? = some (.lst acc) then (match o with
      | some y => if acc.length < sizeLine then lcLoopM body keep n xs (acc ++ [y]) (h1.set n (.lst (acc ++ [y]))) else .bad
      | none => lcLoopM body keep n xs acc h1) else .bad
    | _ => .bad
mutual
noncomputable def evE (r : Env) : Ex → Hp → R W
  | .var i, h => match r[i]? with
    | some (some w) => .ok w h
    | _ => .bad
  | .cst w, h => .ok w h
  | .pr m p args, h => (evEs r args h).bind fun ws h1 => runPrim m p ws h1
  | .lc m t k srcs tests e, h => (evEs r srcs h).bind fun ws h1 => match itemsOf k (ws.map (deref h1)) with
    | none => .bad
    | some its => if m then lcLoopM (fun x h2 => match bindT t x (wipeE r t.names) with
          | none => .bad
          | some r2 => match tests with
            | [] => (evE r2 e h2).bind fun y h3 => .ok (some y) h3
            | c :: _ => (evE r2 c h2).bind fun cw h3 => match truthW h3 cw with
              | some true => (evE r2 e h3).bind fun y h4 => .ok (some y) h4
              | some false => .ok none h3
              | none => .bad) (fun h2 => sameAt h1 h2 ws) h1.length its [] (h1 ++ [.lst []])
      else (lcLoop (fun x h2 => match bindT t x (wipeE r t.names) with
          | none => .bad
          | some r2 => match tests with
            | [] => (evE r2 e h2).bind fun y h3 => .ok (some y) h3
            | c :: _ => (evE r2 c h2).bind fun cw h3 => match truthW h3 cw with
              | some true => (evE r2 e h3).bind fun y h4 => .ok (some y) h4
              | some false => .ok none h3
              | none => .bad) (fun h2 => sameAt h1 h2 ws) its [] h1).bind fun ys h2 => .ok (.lst ys) h2
  | .and_ a c, h => (evE r a h).bind fun x h1 => match truthW h1 x with
    | some true => evE r c h1
    | some false => .ok x h1
    | none => .bad
  | .or_ a c, h => (evE r a h).bind fun x h1 => match truthW h1 x with
    | some true => .ok x h1
    | some false => evE r c h1
    | none => .bad
  | .not_ a, h => (evE r a h).bind fun x h1 => match truthW h1 x with
    | some k => .ok (.bl (!k)) h1
    | none => .bad
  | .ite c x y, h => (evE r c h).bind fun cw h1 => match truthW h1 cw with
    | some true => evE r x h1
    | some false => evE r y h1
    | none => .bad
  | .chn p q x y z, h => (evE r x h).bind fun xw h1 => (evE r y h1).bind fun yw h2 => (runPrim false p [xw, yw] h2).bind fun c h3 => match c with
    | .bl true => (evE r z h3).bind fun zw h4 => runPrim false q [yw, zw] h4
    | .bl false => .ok (.bl false) h3
    | _ => .bad
  | .call k args, h => (evEs r args h).bind fun ws h1 => call b k ws h1
  | .mth m o args, h => (evE r o h).bind fun ow h1 => if recvOk m ow h1 = true then (evEs r args h1).bind fun ws h2 => runMth b m ow ws h2 else .bad
  | .frz e, h => (evE r e h).bind fun w h1 => match w with
    | .ref n => match h1[n]? with
      | some (.lst ws) => .ok (.lst ws) (h1.set n .dead)
      | some (.dic ks vs) => .ok (.dic ks vs) (h1.set n .dead)
      | _ => .bad
    | _ => .bad
  | .opq, _ => .bad
noncomputable def evEs (r : Env) : List Ex → Hp → R (List W)
  | [], h => .ok [] h
  | e :: es, h => (evE r e h).bind fun w h1 => (evEs r es h1).bind fun ws h2 => .ok (w :: ws) h2
end
end

/-- x op= y, values that do not change -/
def augP : Prim → W → W → Option W
  | .add, .int a, .int c => some (.int (a + c))
  | .sub, .int a, .int c => some (.int (a - c))
  | _, _, _ => none
/-! ### statements -/
def ofR (x : R W) (r : Env) (f : W → Hp → RS) : RS := match x with
  | .ok w h => f w h
  | .exc e h => .exc e r h
  | .bad => .bad
@[simp] theorem ofR_ok (w : W) (h : Hp) (r : Env) (f : W → Hp → RS) : ofR (.ok w h) r f = f w h := rfl
@[simp] theorem ofR_bad (r : Env) (f : W → Hp → RS) : ofR .bad r f = .bad := rfl
@[simp] theorem ofR_exc (e : W) (h : Hp) (r : Env) (f : W → Hp → RS) : ofR (.exc e h) r f = .exc e r h := rfl
def ofRs (x : R (List W)) (r : Env) (f : List W → Hp → RS) : RS := match x with
  | .ok w h => f w h
  | .exc e h => .exc e r h
  | .bad => .bad
@[simp] theorem ofRs_ok (w : List W) (h : Hp) (r : Env) (f : List W → Hp → RS) : ofRs (.ok w h) r f = f w h := rfl
def RS.andThen (x : RS) (f : Env → Hp → RS) : RS := match x with
  | .nxt r h => f r h
  | y => y
@[simp] theorem RS.andThen_nxt (r : Env) (h : Hp) (f : Env → Hp → RS) : (RS.nxt r h).andThen f = f r h := rfl
@[simp] theorem RS.andThen_ret (w : W) (h : Hp) (f : Env → Hp → RS) : (RS.ret w h).andThen f = .ret w h := rfl
open Classical in
noncomputable def forLoop (body : W → Env → Hp → RS) (kill : List Nat) (keep : Hp → Prop) : List W → Env → Hp → RS
  | [], r, h => .nxt (wipeE r kill) h
  | x :: xs, r, h => match body x (wipeE r kill) h with
    | .nxt r1 h1 => if keep h1 then forLoop body kill keep xs r1 h1 else .bad
    | .cnt r1 h1 => if keep h1 then forLoop body kill keep xs r1 h1 else .bad
    | .brk r1 h1 => .nxt (wipeE r1 kill) h1
    | y => y
noncomputable def whileLoop (test : Env → Hp → R W) (body : Env → Hp → RS) (kill : List Nat) : Nat → Env → Hp → RS
  | 0, _, _ => .bad
  | n + 1, r, h => ofR (test (wipeE r kill) h) (wipeE r kill) fun c h1 => match truthW h1 c with
    | some false => .nxt (wipeE r kill) h1
    | some true => match body (wipeE r kill) h1 with
      | .nxt r2 h2 => whileLoop test body kill n r2 h2
      | .cnt r2 h2 => whileLoop test body kill n r2 h2
      | .brk r2 h2 => .nxt (wipeE r2 kill) h2
      | y => y
    | none => .bad
/-- the end of a region that began at b -/
def endEnv (b : Nat) (r : Env) : Env := r.map fun o => match o with
  | some w => if below b w then some w else none
  | none => none
section
variable (call : Nat → Nat → List W → Hp → R W) (N : Nat)
mutual
noncomputable def evS (b : Nat) : St → Env → Hp → RS
  | .asg t e, r, h => ofR (evE call b r e h) r fun w h1 => match bindT t w r with
    | some r1 => .nxt r1 h1
    | none => .bad
  | .seti o i e, r, h => ofR (evE call b r e h) r fun w h1 => ofR (evE call b r o h1) r fun ow h2 => ofR (evE call b r i h2) r fun iw h3 => match ow, iw with
    | .ref n, .int k => match h3[n]? with
      | some (.lst ws) => match ixOf ws.length k with
        | some j => if mayPut b n w then .nxt r (h3.set n (.lst (ws.set j w))) else .bad
        | none => .bad
      | _ => .bad
    | _, _ => .bad
  | .aug i p e, r, h => match r[i]? with
    | some (some x) => ofR (evE call b r e h) r fun y h1 => match augP p x y with
      | some z => .nxt (r.set i (some z)) h1
      | none => .bad
    | _ => .bad
  | .exp e, r, h => ofR (evE call b r e h) r fun _ h1 => .nxt r h1
  | .ret e, r, h => ofR (evE call b r e h) r fun w h1 => .ret w h1
  | .iff c x y, r, h => ofR (evE call b r c h) r fun cw h1 => match truthW h1 cw with
    | some true => evB b x r h1
    | some false => evB b y r h1
    | none => .bad
  | .forr tr t k srcs kill body, r, h => ofRs (evEs call b r srcs h) r fun ws h1 => match itemsOf k (ws.map (deref h1)) with
    | none => .bad
    | some its => forLoop (fun x r2 h2 => match bindT t x r2 with
        | none => .bad
        | some r3 => if tr then (match evB h2.length body r3 h2 with
            | .nxt r4 h4 => .nxt (endEnv h2.length r4) (h4.take h2.length)
            | .cnt r4 h4 => .cnt (endEnv h2.length r4) (h4.take h2.length)
            | .brk r4 h4 => .brk (endEnv h2.length r4) (h4.take h2.length)
            | _ => .bad) else evB b body r3 h2) kill (fun h2 => sameAt h1 h2 ws) its r h1
  | .whl c kill body, r, h => whileLoop (fun r2 h2 => evE call b r2 c h2) (fun r2 h2 => evB b body r2 h2) kill N r h
  | .brk, r, h => .brk r h
  | .cnt, r, h => .cnt r h
  | .pass, r, h => .nxt r h
  | .opq, _, _ => .bad
noncomputable def evB (b : Nat) : List St → Env → Hp → RS
  | [], r, h => .nxt r h
  | s :: ss, r, h => (evS b s r h).andThen fun r1 h1 => evB b ss r1 h1
end
end

/-! ### defs -/
structure Def where
  name : Str
  np : Nat
  names : List Str
  keep : Bool
  body : List St
/-- a call's end: what the def has made is gone -/
def endCall (keep : Bool) (b : Nat) (w : W) (h : Hp) : R W :=
  if keep then .ok w h
  else if below b w then .ok w (h.take b)
  else match w with
    | .ref n => match h[n]? with
      | some (.lst us) => if belowL b us then .ok (.ref b) (h.take b ++ [.lst us]) else .bad
      | _ => .bad
    | _ => .bad
/-- the defs T, N the turns of a while, d the depth of calls -/
noncomputable def evC (T : List Def) (N : Nat) : Nat → Nat → Nat → List W → Hp → R W
  | 0, _, _, _, _ => .bad
  | d + 1, b, k, ws, h => match T[k]? with
    | none => .bad
    | some df => if ws.length = df.np then
        let b' := if df.keep then b else h.length
        match evB (evC T N d) N b' df.body (ws.map some ++ List.replicate (df.names.length - df.np) none) h with
        | .ret w h' => endCall df.keep b' w h'
        | .nxt _ h' => endCall df.keep b' .non h'
        | .exc e _ h' => .exc e (if df.keep then h' else h'.take b')
        | _ => .bad
      else .bad
end Ow

/-! Ow2: how the evaluator's values and heap lie in the layer's heap. -/
namespace Ow
open PySem PySem.Spec PyProof.Rows
open L2 (V SqL SqT Rd HO upd upd_same upd_ne)

/-- the written part, and whose run it is -/
structure KX where
  K : PySem.W.Frag
  P : Program
  w : World
instance : Coe KX PySem.W.Frag := ⟨KX.K⟩
@[reducible] def kx (X : L2.Cx) : KX := ⟨X.K, X.prog, X.w⟩
/-- where the objects stand; and lists that a comprehension is just making -/
structure Gh where
  at_ : Nat → Addr
  g : List Addr
/-- no object that may be changed stands at a -/
def Fz (bt : Gh) (h : Hp) (a : Addr) : Prop := (∀ i o, h[i]? = some o → o ≠ .dead → bt.at_ i ≠ a) ∧ a ∉ bt.g
/-- a list of the module's own -/
def KLst (K : KX) (a : Addr) (xs : List V) : Prop :=
  ∃ (o : PySem.Obj) (its : Array Value) (n : Nat), K.K.lookup a = some o ∧ o.cls = .type "list" ∧ o.dict = none ∧ o.data = .seq its n ∧ its.size ≤ sizeLine ∧ L2.Vals xs its.toList
/-- a list that is not changed any more -/
def FL (K : KX) (H : L2.Hp) (bt : Gh) (h : Hp) (a : Addr) (xs : List V) : Prop :=
  (Rd H a (.lst xs) ∧ Fz bt h a) ∨ KLst K a xs
theorem FL.sq {K : KX} {H : L2.Hp} {bt : Gh} {h : Hp} {a : Addr} {xs : List V} (f : FL K H bt h a xs) : SqL K H a xs := by
  rcases f with ⟨r, _⟩ | f
  · exact .inl r
  · exact .inr f
section
variable (K : KX) (H : L2.Hp) (bt : Gh) (h : Hp)
mutual
def Rep : W → V → Prop
  | .non, v => v = .non
  | .bl b, v => v = .bl b
  | .int i, v => v = .int i
  | .str s, v => v = .str s
  | .tup ws, v => ∃ a vs, v = .ref a ∧ SqT K H a vs ∧ RepL ws vs
  | .lst ws, v => ∃ a vs, v = .ref a ∧ (H a = some (.lst vs) ∧ Fz bt h a) ∧ RepL ws vs
  | .slst ws, v => ∃ a vs, v = .ref a ∧ FL K H bt h a vs ∧ RepL ws vs
  | .ref n, v => n < h.length ∧ v = .ref (bt.at_ n)
  | .ty n, v => v = .ty n
  | _, _ => False
def RepL : List W → List V → Prop
  | [], vs => vs = []
  | w :: ws, vs => ∃ v r, vs = v :: r ∧ Rep w v ∧ RepL ws r
end
def ORep : Obj → Addr → Prop
  | .dead, _ => True
  | .lst ws, a => ∃ vs, H a = some (.lst vs) ∧ RepL K H bt h ws vs
  | _, _ => False
structure HeapOk : Prop where
  objs : ∀ i o, h[i]? = some o → ORep K H bt h o (bt.at_ i)
  inj : ∀ i j oi oj, h[i]? = some oi → h[j]? = some oj → oi ≠ .dead → oj ≠ .dead → bt.at_ i = bt.at_ j → i = j
  gl : ∀ d, d ∈ bt.g → ∃ vs, H d = some (.lst vs)
  gd : ∀ i o, h[i]? = some o → o ≠ .dead → bt.at_ i ∉ bt.g
end
/-- from one state to a later one -/
structure Ext (H : L2.Hp) (bt : Gh) (h : Hp) (H' : L2.Hp) (bt' : Gh) (h' : Hp) : Prop where
  frame : ∀ a o, H a = some o → Fz bt h a → H' a = some o
  dom : ∀ a, H a ≠ none → H' a ≠ none
  agree : ∀ i, i < h.length → bt'.at_ i = bt.at_ i
  ghost : ∀ d, d ∈ bt'.g → d ∈ bt.g ∨ H d = none
  len : h.length ≤ h'.length
  live : ∀ i o, i < h.length → h'[i]? = some o → o ≠ .dead → ∃ o', h[i]? = some o' ∧ o' ≠ .dead
  fresh : ∀ i o, h.length ≤ i → h'[i]? = some o → o ≠ .dead → H (bt'.at_ i) = none

theorem Ext.refl {H : L2.Hp} {bt : Gh} {h : Hp} : Ext H bt h H bt h :=
  ⟨fun _ _ e _ => e, fun _ e => e, fun _ _ => rfl, fun _ z => .inl z, Nat.le_refl _, fun i o _ e n => ⟨o, e, n⟩, fun i o hi e _ => by
    rw [List.getElem?_eq_none hi] at e; cases e⟩
theorem Ext.fz {H H' : L2.Hp} {bt bt' : Gh} {h h' : Hp} (x : Ext H bt h H' bt' h') {a : Addr} (ha : H a ≠ none) (f : Fz bt h a) : Fz bt' h' a := ⟨fun i o e n => by
  by_cases hi : i < h.length
  · obtain ⟨o', e', n'⟩ := x.live i o hi e n
    rw [x.agree i hi]
    exact f.1 i o' e' n'
  · intro z
    have := x.fresh i o (Nat.le_of_not_lt hi) e n
    rw [z] at this
    exact ha this, fun z => (x.ghost a z).elim f.2 ha⟩
theorem Ext.trans {H H1 H2 : L2.Hp} {b b1 b2 : Gh} {h h1 h2 : Hp} (x : Ext H b h H1 b1 h1) (y : Ext H1 b1 h1 H2 b2 h2) : Ext H b h H2 b2 h2 where
  frame := fun a o e f => y.frame a o (x.frame a o e f) (x.fz (by rw [e]; simp) f)
  dom := fun a e => y.dom a (x.dom a e)
  agree := fun i hi => (y.agree i (Nat.lt_of_lt_of_le hi x.len)).trans (x.agree i hi)
  ghost := fun d z => by
    rcases y.ghost d z with z | z
    · exact x.ghost d z
    · cases q : H d with
      | none => exact .inr rfl
      | some u => exact absurd z (x.dom d (by rw [q]; simp))
  len := Nat.le_trans x.len y.len
  live := fun i o hi e n => by
    obtain ⟨o1, e1, n1⟩ := y.live i o (Nat.lt_of_lt_of_le hi x.len) e n
    exact x.live i o1 hi e1 n1
  fresh := fun i o hi e n => by
    by_cases h1i : i < h1.length
    · obtain ⟨o1, e1, n1⟩ := y.live i o h1i e n
      rw [y.agree i h1i]
      exact x.fresh i o1 hi e1 n1
    · have := y.fresh i o (Nat.le_of_not_lt h1i) e n
      cases q : H (b2.at_ i) with
      | none => rfl
      | some u => exact absurd this (x.dom _ (by rw [q]; simp))

section
variable {K : KX} {H H' : L2.Hp} {bt bt' : Gh} {h h' : Hp}
/-- nothing that may be changed is a tuple, or locked -/
theorem HeapOk.fzT (o : HeapOk K H bt h) {a : Addr} {u : HO} (e : H a = some u) (nl : ∀ xs, u ≠ .lst xs) : Fz bt h a := ⟨fun i ob ei ni z => by
  have r := o.objs i ob ei
  cases ob with
  | dead => exact ni rfl
  | lst ws =>
    obtain ⟨vs, hv, _⟩ := r
    rw [z, e] at hv
    cases hv
    exact nl _ rfl
  | dic ks vs => exact r.elim
  | ins k fs => exact r.elim, fun z => by
  obtain ⟨vs, q⟩ := o.gl a z
  rw [e] at q
  cases q
  exact nl _ rfl⟩
theorem SqT.ext (ok : HeapOk K H bt h) (x : Ext H bt h H' bt' h') {a : Addr} {vs : List V} (q : SqT K H a vs) : SqT K H' a vs := by
  rcases q with (q | ⟨o, q⟩) | q
  · exact .inl (.inl (x.frame _ _ q (ok.fzT q fun _ z => by cases z)))
  · exact .inl (.inr ⟨o, x.frame _ _ q (ok.fzT q fun _ z => by cases z)⟩)
  · exact .inr q
theorem FL.ext (x : Ext H bt h H' bt' h') {a : Addr} {vs : List V} (q : FL K H bt h a vs) : FL K H' bt' h' a vs := by
  rcases q with ⟨q | ⟨o, q⟩, f⟩ | q
  · exact .inl ⟨.inl (x.frame _ _ q f), x.fz (by rw [q]; simp) f⟩
  · exact .inl ⟨.inr ⟨o, x.frame _ _ q f⟩, x.fz (by rw [q]; simp) f⟩
  · exact .inr q
mutual
theorem Rep.ext (ok : HeapOk K H bt h) (x : Ext H bt h H' bt' h') : ∀ (w : W) (v : V), Rep K H bt h w v → Rep K H' bt' h' w v
  | .non, _, r => r
  | .bl _, _, r => r
  | .int _, _, r => r
  | .str _, _, r => r
  | .tup ws, v, r => by
    obtain ⟨a, vs, e, q, l⟩ := r
    exact ⟨a, vs, e, SqT.ext ok x q, RepL.ext ok x ws vs l⟩
  | .lst ws, v, r => by
    obtain ⟨a, vs, e, ⟨q, f⟩, l⟩ := r
    exact ⟨a, vs, e, ⟨x.frame _ _ q f, x.fz (by rw [q]; simp) f⟩, RepL.ext ok x ws vs l⟩
  | .slst ws, v, r => by
    obtain ⟨a, vs, e, q, l⟩ := r
    exact ⟨a, vs, e, q.ext x, RepL.ext ok x ws vs l⟩
  | .ref n, v, r => by
    obtain ⟨hn, e⟩ := r
    exact ⟨Nat.lt_of_lt_of_le hn x.len, by rw [x.agree n hn]; exact e⟩
  | .ty _, _, r => r
  | .set _, _, r => r.elim
  | .dic _ _, _, r => r.elim
  | .cls _, _, r => r.elim
  | .exc _ _, _, r => r.elim
theorem RepL.ext (ok : HeapOk K H bt h) (x : Ext H bt h H' bt' h') : ∀ (ws : List W) (vs : List V), RepL K H bt h ws vs → RepL K H' bt' h' ws vs
  | [], _, r => r
  | w :: ws, vs, r => by
    obtain ⟨v, t, e, r1, r2⟩ := r
    exact ⟨v, t, e, Rep.ext ok x w v r1, RepL.ext ok x ws t r2⟩
end
theorem RepL.length : ∀ {ws : List W} {vs : List V}, RepL K H bt h ws vs → ws.length = vs.length
  | [], _, r => by cases (show _ = [] from r); rfl
  | w :: ws, vs, r => by
    obtain ⟨v, t, rfl, _, r2⟩ := r
    rw [List.length_cons, List.length_cons, RepL.length r2]
theorem RepL.get : ∀ {ws : List W} {vs : List V} {i : Nat} {w : W}, RepL K H bt h ws vs → ws[i]? = some w → ∃ v, vs[i]? = some v ∧ Rep K H bt h w v
  | [], _, i, _, r, e => by simp at e
  | w :: ws, vs, 0, w', r, e => by
    obtain ⟨v, t, rfl, r1, r2⟩ := r
    have e' : w = w' := by simpa using e
    subst e'
    exact ⟨v, rfl, r1⟩
  | w :: ws, vs, i + 1, w', r, e => by
    obtain ⟨v, t, rfl, r1, r2⟩ := r
    obtain ⟨v', e', r'⟩ := RepL.get (i := i) r2 (by simpa using e)
    exact ⟨v', by simpa using e', r'⟩
theorem RepL.of_get : ∀ {ws : List W} {vs : List V}, ws.length = vs.length → (∀ (i : Nat) w v, ws[i]? = some w → vs[i]? = some v → Rep K H bt h w v) → RepL K H bt h ws vs
  | [], [], _, _ => rfl
  | [], _ :: _, e, _ => by simp at e
  | _ :: _, [], e, _ => by simp at e
  | w :: ws, v :: vs, e, g => ⟨v, vs, rfl, g 0 w v rfl rfl, RepL.of_get (by simpa using e) fun i w' v' a b => g (i + 1) w' v' (by simpa using a) (by simpa using b)⟩
theorem RepL.append : ∀ {ws ws' : List W} {vs vs' : List V}, RepL K H bt h ws vs → RepL K H bt h ws' vs' → RepL K H bt h (ws ++ ws') (vs ++ vs')
  | [], _, _, _, r, r' => by cases (show _ = [] from r); exact r'
  | w :: ws, _, _, _, r, r' => by
    obtain ⟨v, t, rfl, r1, r2⟩ := r
    exact ⟨v, _, rfl, r1, RepL.append r2 r'⟩
theorem RepL.one {w : W} {v : V} (r : Rep K H bt h w v) : RepL K H bt h [w] [v] := ⟨v, [], rfl, r, rfl⟩
theorem RepL.take : ∀ {ws : List W} {vs : List V} (n : Nat), RepL K H bt h ws vs → RepL K H bt h (ws.take n) (vs.take n)
  | [], _, n, r => by cases (show _ = [] from r); simp; rfl
  | w :: ws, _, 0, r => rfl
  | w :: ws, _, n + 1, r => by
    obtain ⟨v, t, rfl, r1, r2⟩ := r
    exact ⟨v, _, rfl, r1, RepL.take n r2⟩
theorem RepL.drop : ∀ {ws : List W} {vs : List V} (n : Nat), RepL K H bt h ws vs → RepL K H bt h (ws.drop n) (vs.drop n)
  | [], _, n, r => by cases (show _ = [] from r); simp; rfl
  | w :: ws, _, 0, r => r
  | w :: ws, _, n + 1, r => by
    obtain ⟨v, t, rfl, r1, r2⟩ := r
    exact RepL.drop n r2
theorem RepL.reverse : ∀ {ws : List W} {vs : List V}, RepL K H bt h ws vs → RepL K H bt h ws.reverse vs.reverse
  | [], _, r => by cases (show _ = [] from r); exact rfl
  | w :: ws, _, r => by
    obtain ⟨v, t, rfl, r1, r2⟩ := r
    rw [List.reverse_cons, List.reverse_cons]
    exact RepL.append (RepL.reverse r2) (.one r1)
theorem RepL.eraseIdx : ∀ {ws : List W} {vs : List V} (n : Nat), RepL K H bt h ws vs → RepL K H bt h (ws.eraseIdx n) (vs.eraseIdx n)
  | [], _, n, r => by cases (show _ = [] from r); exact rfl
  | w :: ws, _, 0, r => by
    obtain ⟨v, t, rfl, r1, r2⟩ := r
    exact r2
  | w :: ws, _, n + 1, r => by
    obtain ⟨v, t, rfl, r1, r2⟩ := r
    exact ⟨v, _, rfl, r1, RepL.eraseIdx n r2⟩
theorem RepL.set : ∀ {ws : List W} {vs : List V} (n : Nat) {w : W} {v : V}, RepL K H bt h ws vs → Rep K H bt h w v → RepL K H bt h (ws.set n w) (vs.set n v)
  | [], _, n, _, _, r, _ => by cases (show _ = [] from r); exact rfl
  | _ :: ws, _, 0, _, _, r, q => by
    obtain ⟨v, t, rfl, r1, r2⟩ := r
    exact ⟨_, _, rfl, q, r2⟩
  | _ :: ws, _, n + 1, _, _, r, q => by
    obtain ⟨v, t, rfl, r1, r2⟩ := r
    exact ⟨v, _, rfl, r1, RepL.set n r2 q⟩
theorem ORep.ext (ok : HeapOk K H bt h) (x : Ext H bt h H' bt' h') {o : Obj} {a : Addr} (keep : ∀ vs, H a = some (.lst vs) → H' a = some (.lst vs)) (r : ORep K H bt h o a) : ORep K H' bt' h' o a := by
  cases o with
  | dead => trivial
  | lst ws =>
    obtain ⟨vs, e, l⟩ := r
    exact ⟨vs, keep vs e, RepL.ext ok x ws vs l⟩
  | dic ks vs => exact r.elim
  | ins k fs => exact r.elim

/-! ### below -/
mutual
theorem Rep.below : ∀ (w : W) (v : V), Rep K H bt h w v → below h.length w = true
  | .non, _, _ => by simp [Ow.below]
  | .bl _, _, _ => by simp [Ow.below]
  | .int _, _, _ => by simp [Ow.below]
  | .str _, _, _ => by simp [Ow.below]
  | .tup ws, v, r => by
    obtain ⟨a, vs, e, q, l⟩ := r
    simp only [Ow.below]
    exact RepL.below ws vs l
  | .lst ws, v, r => by
    obtain ⟨a, vs, e, q, l⟩ := r
    simp only [Ow.below]
    exact RepL.below ws vs l
  | .slst ws, v, r => by
    obtain ⟨a, vs, e, q, l⟩ := r
    simp only [Ow.below]
    exact RepL.below ws vs l
  | .ref n, v, r => by
    simp only [Ow.below]
    exact decide_eq_true r.1
  | .ty _, _, _ => by simp [Ow.below]
  | .set _, _, r => r.elim
  | .dic _ _, _, r => r.elim
  | .cls _, _, r => r.elim
  | .exc _ _, _, r => r.elim
theorem RepL.below : ∀ (ws : List W) (vs : List V), RepL K H bt h ws vs → belowL h.length ws = true
  | [], _, _ => by simp [belowL]
  | w :: ws, vs, r => by
    obtain ⟨v, t, e, r1, r2⟩ := r
    simp only [belowL, Rep.below w v r1, RepL.below ws t r2, Bool.and_self]
end
theorem get_take {h : Hp} {b i : Nat} {o : Obj} (e : (h.take b)[i]? = some o) : i < b ∧ h[i]? = some o := by
  by_cases hi : i < b
  · rw [List.getElem?_take_of_lt hi] at e
    exact ⟨hi, e⟩
  · rw [List.getElem?_eq_none (by rw [List.length_take]; omega)] at e
    cases e
theorem Fz.cut {b : Nat} {a : Addr} (f : Fz bt h a) : Fz bt (h.take b) a := ⟨fun i o e n => f.1 i o (get_take e).2 n, f.2⟩
mutual
theorem Rep.cut {b : Nat} (hb : b ≤ h.length) : ∀ (w : W) (v : V), Rep K H bt h w v → Ow.below b w = true → Rep K H bt (h.take b) w v
  | .non, _, r, _ => r
  | .bl _, _, r, _ => r
  | .int _, _, r, _ => r
  | .str _, _, r, _ => r
  | .tup ws, v, r, z => by
    obtain ⟨a, vs, e, q, l⟩ := r
    simp only [Ow.below] at z
    exact ⟨a, vs, e, q, RepL.cut hb ws vs l z⟩
  | .lst ws, v, r, z => by
    obtain ⟨a, vs, e, ⟨q, f⟩, l⟩ := r
    simp only [Ow.below] at z
    exact ⟨a, vs, e, ⟨q, f.cut⟩, RepL.cut hb ws vs l z⟩
  | .slst ws, v, r, z => by
    obtain ⟨a, vs, e, q, l⟩ := r
    simp only [Ow.below] at z
    refine ⟨a, vs, e, ?_, RepL.cut hb ws vs l z⟩
    rcases q with ⟨q, f⟩ | q
    · exact .inl ⟨q, f.cut⟩
    · exact .inr q
  | .ref n, v, r, z => by
    simp only [Ow.below, decide_eq_true_eq] at z
    exact ⟨by rw [List.length_take]; omega, r.2⟩
  | .ty _, _, r, _ => r
  | .set _, _, r, _ => r.elim
  | .dic _ _, _, r, _ => r.elim
  | .cls _, _, r, _ => r.elim
  | .exc _ _, _, r, _ => r.elim
theorem RepL.cut {b : Nat} (hb : b ≤ h.length) : ∀ (ws : List W) (vs : List V), RepL K H bt h ws vs → belowL b ws = true → RepL K H bt (h.take b) ws vs
  | [], _, r, _ => r
  | w :: ws, vs, r, z => by
    obtain ⟨v, t, e, r1, r2⟩ := r
    simp only [belowL, Bool.and_eq_true] at z
    exact ⟨v, t, e, Rep.cut hb w v r1 z.1, RepL.cut hb ws t r2 z.2⟩
end
end

/-! ### regions -/
def Cl (c : Nat) (h : Hp) : Prop := c ≤ h.length ∧ ∀ i o, i < c → h[i]? = some o → o.below c = true
/-- what lies below the bases that are at most b stays below -/
def Pres (b : Nat) (h h' : Hp) : Prop := ∀ c, c ≤ b → Cl c h → Cl c h'
theorem Pres.refl {b : Nat} {h : Hp} : Pres b h h := fun _ _ x => x
theorem Pres.trans {b : Nat} {h h1 h2 : Hp} (x : Pres b h h1) (y : Pres b h1 h2) : Pres b h h2 := fun c hc z => y c hc (x c hc z)
theorem Pres.mono {b b' : Nat} {h h1 : Hp} (hb : b ≤ b') (x : Pres b' h h1) : Pres b h h1 := fun c hc z => x c (Nat.le_trans hc hb) z
section
variable {K : KX} {H H' : L2.Hp} {bt bt' : Gh} {h h' : Hp}
theorem ORep.below' {o : Obj} {a : Addr} (r : ORep K H bt h o a) : o.below h.length = true := by
  cases o with
  | dead => rfl
  | lst ws => obtain ⟨vs, _, l⟩ := r; exact RepL.below ws vs l
  | dic ks vs => exact r.elim
  | ins k fs => exact r.elim
theorem HeapOk.cl (ok : HeapOk K H bt h) : Cl h.length h := ⟨Nat.le_refl _, fun i o _ e => (ok.objs i o e).below'⟩
theorem HeapOk.cut (ok : HeapOk K H bt h) {b : Nat} (c : Cl b h) : HeapOk K H bt (h.take b) where
  objs := fun i o e => by
    obtain ⟨hi, e⟩ := get_take e
    have z := c.2 i o hi e
    have r := ok.objs i o e
    cases o with
    | dead => trivial
    | lst ws => obtain ⟨vs, q, l⟩ := r; exact ⟨vs, q, RepL.cut c.1 ws vs l z⟩
    | dic ks vs => exact r.elim
    | ins k fs => exact r.elim
  inj := fun i j oi oj ei ej ni nj z => ok.inj i j oi oj (get_take ei).2 (get_take ej).2 ni nj z
  gl := ok.gl
  gd := fun i o e n => ok.gd i o (get_take e).2 n
/-- back to the region's beginning -/
theorem Ext.cut (x : Ext H bt h H' bt' h') : Ext H bt h H' bt' (h'.take h.length) where
  frame := x.frame
  dom := x.dom
  agree := x.agree
  ghost := x.ghost
  len := by rw [List.length_take]; have := x.len; omega
  live := fun i o hi e n => x.live i o hi (get_take e).2 n
  fresh := fun i o hi e n => absurd (get_take e).1 (by omega)
theorem Pres.cut {b : Nat} {h0 : Hp} (hb : b ≤ h0.length) (hl : h0.length ≤ h.length) (p : Pres b h0 h) : Pres b h0 (h.take h0.length) := fun c hc z => by
  obtain ⟨z1, z2⟩ := p c hc z
  exact ⟨by rw [List.length_take]; omega, fun i o hi e => z2 i o hi (get_take e).2⟩

/-! ### the heap's changes -/
/-- objects that are new and not changed any more -/
theorem HeapOk.same (ok : HeapOk K H bt h) (s : L2.Same H H') : HeapOk K H' bt h ∧ Ext H bt h H' bt h := by
  have x : Ext H bt h H' bt h := ⟨fun a o e _ => s a o e, fun a e => by
    cases q : H a with
    | none => exact absurd q e
    | some u => rw [s a u q]; simp, fun _ _ => rfl, fun _ z => .inl z, Nat.le_refl _, fun i o _ e n => ⟨o, e, n⟩, fun i o hi e _ => by
      rw [List.getElem?_eq_none hi] at e; cases e⟩
  exact ⟨⟨fun i o e => (ok.objs i o e).ext ok x fun vs q => s _ _ q, ok.inj, fun d hd => let ⟨vs, q⟩ := ok.gl d hd; ⟨vs, s _ _ q⟩, ok.gd⟩, x⟩
theorem Same.upd {H : L2.Hp} {p : Addr} {u : HO} (n : H p = none) : L2.Same H (upd H p u) := fun b o e => by
  rw [upd_ne (L2.ne_of_none e n)]
  exact e
def Gh.add (bt : Gh) (n : Nat) (p : Addr) : Gh := ⟨fun i => if i = n then p else bt.at_ i, bt.g⟩
theorem Gh.add_self {bt : Gh} {n : Nat} {p : Addr} : (bt.add n p).at_ n = p := if_pos rfl
theorem Gh.add_ne {bt : Gh} {n i : Nat} {p : Addr} (hn : i ≠ n) : (bt.add n p).at_ i = bt.at_ i := if_neg hn
theorem HeapOk.at_some (ok : HeapOk K H bt h) {i : Nat} {o : Obj} (e : h[i]? = some o) (n : o ≠ .dead) : H (bt.at_ i) ≠ none := by
  have r := ok.objs i o e
  cases o with
  | dead => exact absurd rfl n
  | lst ws => obtain ⟨vs, q, _⟩ := r; rw [q]; simp
  | dic ks vs => exact r.elim
  | ins k fs => exact r.elim
theorem get_app {h : Hp} {o u : Obj} {i : Nat} (e : (h ++ [o])[i]? = some u) : (i < h.length ∧ h[i]? = some u) ∨ (i = h.length ∧ u = o) := by
  by_cases hi : i < h.length
  · rw [List.getElem?_append_left hi] at e
    exact .inl ⟨hi, e⟩
  · have hi' : i = h.length := by
      have := (List.getElem?_eq_some_iff.mp e).1
      simp at this
      omega
    subst hi'
    rw [List.getElem?_append_right (Nat.le_refl _), Nat.sub_self] at e
    exact .inr ⟨rfl, by simpa using e.symm⟩
/-- a new list that may be changed: its items stood ahead of it -/
theorem HeapOk.new (ok : HeapOk K H bt h) {p : Addr} {ws : List W} {vs : List V} (s : L2.Same H H') (n : H p = none) (e : H' p = some (.lst vs)) (r : RepL K H bt h ws vs) :
    HeapOk K H' (bt.add h.length p) (h ++ [.lst ws]) ∧ Ext H bt h H' (bt.add h.length p) (h ++ [.lst ws]) := by
  obtain ⟨ok1, x1⟩ := ok.same s
  have x : Ext H bt h H' (bt.add h.length p) (h ++ [.lst ws]) := by
    refine ⟨x1.frame, x1.dom, fun i hi => if_neg (by omega), fun _ z => .inl z, by simp, fun i o hi e' n' => ?_, fun i o hi e' n' => ?_⟩
    · rcases get_app e' with ⟨_, e2⟩ | ⟨e2, _⟩
      · exact ⟨o, e2, n'⟩
      · omega
    · rcases get_app e' with ⟨e2, _⟩ | ⟨e2, _⟩
      · omega
      · rw [e2, Gh.add_self]; exact n
  refine ⟨⟨fun i o ei => ?_, fun i j oi oj ei ej ni nj z => ?_, ok1.gl, fun i o ei ni z => ?_⟩, x⟩
  · rcases get_app ei with ⟨hi, e2⟩ | ⟨rfl, rfl⟩
    · rw [Gh.add_ne (by omega)]
      exact (ok.objs i o e2).ext ok x fun vs q => s _ _ q
    · rw [Gh.add_self]
      exact ⟨vs, e, r.ext ok x _ _⟩
  · rcases get_app ei with ⟨hi, ei⟩ | ⟨rfl, rfl⟩ <;> rcases get_app ej with ⟨hj, ej⟩ | ⟨rfl, rfl⟩
    · rw [Gh.add_ne (by omega), Gh.add_ne (by omega)] at z
      exact ok.inj i j oi oj ei ej ni nj z
    · rw [Gh.add_ne (by omega), Gh.add_self] at z
      exact absurd (z ▸ n) (ok.at_some ei ni)
    · rw [Gh.add_self, Gh.add_ne (by omega)] at z
      exact absurd (z ▸ n) (ok.at_some ej nj)
    · rfl
  · rcases get_app ei with ⟨hi, ei⟩ | ⟨rfl, rfl⟩
    · rw [Gh.add_ne (by omega)] at z
      exact ok.gd i o ei ni z
    · rw [Gh.add_self] at z
      obtain ⟨vs', q⟩ := ok.gl p z
      rw [n] at q; cases q
theorem Pres.new {b : Nat} (hb : b ≤ h.length) {o : Obj} : Pres b h (h ++ [o]) := fun c hc ⟨z1, z2⟩ => ⟨by simp; omega, fun i u hi e => by
  rcases get_app e with ⟨_, e⟩ | ⟨e, _⟩
  · exact z2 i u hi e
  · omega⟩
theorem get_set {h : Hp} {n i : Nat} {o u : Obj} (e : (h.set n o)[i]? = some u) : (i = n ∧ n < h.length ∧ u = o) ∨ (i ≠ n ∧ h[i]? = some u) := by
  by_cases hi : i = n
  · subst hi
    by_cases hl : i < h.length
    · rw [List.getElem?_set_self hl] at e
      exact .inl ⟨rfl, hl, by simpa using e.symm⟩
    · rw [List.getElem?_eq_none (by simpa using hl)] at e
      cases e
  · rw [List.getElem?_set_ne (Ne.symm hi)] at e
    exact .inr ⟨hi, e⟩
/-- a list is changed -/
theorem HeapOk.put (ok : HeapOk K H bt h) {n : Nat} {o : Obj} {ws : List W} {vs : List V} (e : h[n]? = some o) (nd : o ≠ .dead) (r : RepL K H bt h ws vs) :
    HeapOk K (upd H (bt.at_ n) (.lst vs)) bt (h.set n (.lst ws)) ∧ Ext H bt h (upd H (bt.at_ n) (.lst vs)) bt (h.set n (.lst ws)) := by
  have hn : n < h.length := (List.getElem?_eq_some_iff.mp e).1
  have x : Ext H bt h (upd H (bt.at_ n) (.lst vs)) bt (h.set n (.lst ws)) := by
    refine ⟨fun a u q f => by rw [upd_ne (fun z => f.1 n o e nd z.symm)]; exact q, fun a q => ?_, fun _ _ => rfl, fun _ z => .inl z, by simp, fun i u hi q nu => ?_, fun i u hi q _ => ?_⟩
    · by_cases z : a = bt.at_ n
      · rw [z, upd_same]; simp
      · rw [upd_ne z]; exact q
    · rcases get_set q with ⟨rfl, _, _⟩ | ⟨_, q⟩
      · exact ⟨o, e, nd⟩
      · exact ⟨u, q, nu⟩
    · rw [List.getElem?_eq_none (by simpa using hi)] at q
      cases q
  refine ⟨⟨fun i u q => ?_, fun i j oi oj ei ej ni nj z => ?_, fun d hd => ?_, fun i u q nu => ?_⟩, x⟩
  · rcases get_set q with ⟨rfl, _, rfl⟩ | ⟨hi, q⟩
    · exact ⟨vs, upd_same, r.ext ok x _ _⟩
    · by_cases ud : u = .dead
      · subst ud; trivial
      · refine (ok.objs i u q).ext ok x fun vs' q' => ?_
        rw [upd_ne fun z => hi (ok.inj i n u o q e ud nd z)]
        exact q'
  · rcases get_set ei with ⟨e1, _, _⟩ | ⟨_, ei⟩
    · rcases get_set ej with ⟨e2, _, _⟩ | ⟨_, ej⟩
      · rw [e1, e2]
      · rw [e1] at z ⊢
        exact ok.inj n j o oj e ej nd nj z
    · rcases get_set ej with ⟨e2, _, _⟩ | ⟨_, ej⟩
      · rw [e2] at z ⊢
        exact ok.inj i n oi o ei e ni nd z
      · exact ok.inj i j oi oj ei ej ni nj z
  · by_cases z : d = bt.at_ n
    · exact ⟨vs, by rw [z, upd_same]⟩
    · rw [upd_ne z]; exact ok.gl d hd
  · rcases get_set q with ⟨e1, _, _⟩ | ⟨_, q⟩
    · rw [e1]; exact ok.gd n o e nd
    · exact ok.gd i u q nu
theorem Pres.put {b n : Nat} {o : Obj} (c : b ≤ n ∨ o.below 0 = true) (mono : ∀ c, o.below 0 = true → o.below c = true) : Pres b h (h.set n o) := fun c' hc ⟨z1, z2⟩ => ⟨by simpa using z1, fun i u hi q => by
  rcases get_set q with ⟨rfl, _, rfl⟩ | ⟨_, q⟩
  · rcases c with c | c
    · omega
    · exact mono _ c
  · exact z2 i u hi q⟩
/-- what lay below stays so where items of what stood there are stored -/
theorem Pres.put2 {b n : Nat} {o o' : Obj} (e : h[n]? = some o) (c : ∀ c, c ≤ b → n < c → o.below c = true → o'.below c = true) : Pres b h (h.set n o') := fun c' hc ⟨z1, z2⟩ => ⟨by simpa using z1, fun i u hi q => by
  rcases get_set q with ⟨rfl, _, rfl⟩ | ⟨_, q⟩
  · exact c c' hc hi (z2 _ o hi e)
  · exact z2 i u hi q⟩
/-- an object is not changed any more -/
theorem HeapOk.freeze (ok : HeapOk K H bt h) {n : Nat} {ws : List W} (e : h[n]? = some (.lst ws)) :
    HeapOk K H bt (h.set n .dead) ∧ Ext H bt h H bt (h.set n .dead) ∧ Rep K H bt (h.set n .dead) (.lst ws) (.ref (bt.at_ n)) := by
  have hg : bt.at_ n ∉ bt.g := ok.gd n _ e (by simp)
  have hn : n < h.length := (List.getElem?_eq_some_iff.mp e).1
  have x : Ext H bt h H bt (h.set n .dead) := ⟨fun _ _ q _ => q, fun _ q => q, fun _ _ => rfl, fun _ z => .inl z, by simp, fun i u hi q nu => by
    rcases get_set q with ⟨_, _, e2⟩ | ⟨_, q⟩
    · exact absurd e2 nu
    · exact ⟨u, q, nu⟩, fun i u hi q _ => by
    rw [List.getElem?_eq_none (by simpa using hi)] at q
    cases q⟩
  refine ⟨⟨fun i u q => ?_, fun i j oi oj ei ej ni nj z => ?_, ok.gl, fun i u q nu => ?_⟩, x, ?_⟩
  · rcases get_set q with ⟨_, _, e2⟩ | ⟨_, q⟩
    · rw [e2]; trivial
    · exact (ok.objs i u q).ext ok x fun _ q => q
  · rcases get_set ei with ⟨_, _, e2⟩ | ⟨_, ei⟩
    · exact absurd e2 ni
    · rcases get_set ej with ⟨_, _, e2⟩ | ⟨_, ej⟩
      · exact absurd e2 nj
      · exact ok.inj i j oi oj ei ej ni nj z
  · rcases get_set q with ⟨_, _, e2⟩ | ⟨_, q⟩
    · exact absurd e2 nu
    · exact ok.gd i u q nu
  · obtain ⟨vs, q, l⟩ := ok.objs n _ e
    refine ⟨bt.at_ n, vs, rfl, ⟨q, fun i o ei ni z => ?_, hg⟩, l.ext ok x _ _⟩
    rcases get_set ei with ⟨_, _, e2⟩ | ⟨hi, ei⟩
    · exact ni e2
    · exact hi (ok.inj i n o _ ei e ni (by simp) z)
/-- a list that a comprehension is just making -/
def Gh.mk1 (bt : Gh) (D : Addr) : Gh := ⟨bt.at_, D :: bt.g⟩
theorem HeapOk.ghost (ok : HeapOk K H bt h) {D : Addr} {vs : List V} (n : H D = none) :
    HeapOk K (upd H D (.lst vs)) (bt.mk1 D) h ∧ Ext H bt h (upd H D (.lst vs)) (bt.mk1 D) h := by
  have s : L2.Same H (upd H D (.lst vs)) := Same.upd n
  have x : Ext H bt h (upd H D (.lst vs)) (bt.mk1 D) h := ⟨fun a o e _ => s a o e, fun a e => by
    cases q : H a with
    | none => exact absurd q e
    | some u => rw [s a u q]; simp, fun _ _ => rfl, fun d z => by
      rcases List.mem_cons.mp z with z | z
      · exact .inr (z ▸ n)
      · exact .inl z, Nat.le_refl _, fun i o _ e n => ⟨o, e, n⟩, fun i o hi e _ => by
      rw [List.getElem?_eq_none hi] at e; cases e⟩
  refine ⟨⟨fun i o e => (ok.objs i o e).ext ok x fun vs q => s _ _ q, ok.inj, fun d hd => ?_, fun i o e no z => ?_⟩, x⟩
  · rcases List.mem_cons.mp hd with z | z
    · exact ⟨vs, by rw [z, upd_same]⟩
    · obtain ⟨us, q⟩ := ok.gl d z
      exact ⟨us, s _ _ q⟩
  · rcases List.mem_cons.mp z with z | z
    · exact ok.at_some e no (by have z' : bt.at_ i = D := z; rw [z']; exact n)
    · exact ok.gd i o e no z
/-- it grows -/
theorem HeapOk.grow (ok : HeapOk K H bt h) {D : Addr} {vs : List V} (g : D ∈ bt.g) : HeapOk K (upd H D (.lst vs)) bt h ∧ Ext H bt h (upd H D (.lst vs)) bt h := by
  have x : Ext H bt h (upd H D (.lst vs)) bt h := ⟨fun a o e f => by rw [upd_ne (show a ≠ D from fun z => f.2 (by rw [z]; exact g))]; exact e, fun a e => by
    by_cases z : a = D
    · rw [z, upd_same]; simp
    · rw [upd_ne z]; exact e, fun _ _ => rfl, fun _ z => .inl z, Nat.le_refl _, fun i o _ e n => ⟨o, e, n⟩, fun i o hi e _ => by
    rw [List.getElem?_eq_none hi] at e; cases e⟩
  refine ⟨⟨fun i o e => ?_, ok.inj, fun d hd => ?_, ok.gd⟩, x⟩
  · by_cases no : o = .dead
    · rw [no]; trivial
    · exact (ok.objs i o e).ext ok x fun us q => by rw [upd_ne (show bt.at_ i ≠ D from fun z => ok.gd i o e no (by rw [z]; exact g))]; exact q
  · by_cases z : d = D
    · exact ⟨vs, by rw [z, upd_same]⟩
    · rw [upd_ne z]; exact ok.gl d hd
/-- it is made -/
theorem HeapOk.done (ok : HeapOk K H (bt.mk1 D) h) : HeapOk K H bt h ∧ Ext H (bt.mk1 D) h H bt h := by
  have x : Ext H (bt.mk1 D) h H bt h := ⟨fun _ _ e _ => e, fun _ e => e, fun _ _ => rfl, fun d z => .inl (List.mem_cons_of_mem _ z), Nat.le_refl _, fun i o _ e n => ⟨o, e, n⟩, fun i o hi e _ => by
    rw [List.getElem?_eq_none hi] at e; cases e⟩
  exact ⟨⟨fun i o e => (ok.objs i o e).ext ok x fun _ q => q, ok.inj, fun d hd => ok.gl d (List.mem_cons_of_mem _ hd), fun i o e no z => ok.gd i o e no (List.mem_cons_of_mem _ z)⟩, x⟩
/-! ### the same, with the lists that are being made kept as they are -/
structure Exs (H : L2.Hp) (bt : Gh) (h : Hp) (H' : L2.Hp) (bt' : Gh) (h' : Hp) : Prop extends Ext H bt h H' bt' h' where
  gk : ∀ d, d ∈ bt.g → d ∈ bt'.g ∧ ∀ o, H d = some o → H' d = some o
end
theorem Exs.refl {H : L2.Hp} {bt : Gh} {h : Hp} : Exs H bt h H bt h := ⟨Ext.refl, fun _ z => ⟨z, fun _ e => e⟩⟩
theorem Exs.trans {H H1 H2 : L2.Hp} {b b1 b2 : Gh} {h h1 h2 : Hp} (x : Exs H b h H1 b1 h1) (y : Exs H1 b1 h1 H2 b2 h2) : Exs H b h H2 b2 h2 :=
  ⟨x.toExt.trans y.toExt, fun d z => ⟨(y.gk d (x.gk d z).1).1, fun o e => (y.gk d (x.gk d z).1).2 o ((x.gk d z).2 o e)⟩⟩
section
variable {K : KX} {H H' H1 : L2.Hp} {bt bt' bt1 : Gh} {h h' h1 : Hp}
theorem HeapOk.sameX (ok : HeapOk K H bt h) (s : L2.Same H H') : HeapOk K H' bt h ∧ Exs H bt h H' bt h :=
  ⟨(ok.same s).1, (ok.same s).2, fun d z => ⟨z, fun o e => s d o e⟩⟩
theorem HeapOk.newX (ok : HeapOk K H bt h) {p : Addr} {ws : List W} {vs : List V} (s : L2.Same H H') (n : H p = none) (e : H' p = some (.lst vs)) (r : RepL K H bt h ws vs) :
    HeapOk K H' (bt.add h.length p) (h ++ [.lst ws]) ∧ Exs H bt h H' (bt.add h.length p) (h ++ [.lst ws]) :=
  ⟨(ok.new s n e r).1, (ok.new s n e r).2, fun d z => ⟨z, fun o e => s d o e⟩⟩
theorem HeapOk.putX (ok : HeapOk K H bt h) {n : Nat} {o : Obj} {ws : List W} {vs : List V} (e : h[n]? = some o) (nd : o ≠ .dead) (r : RepL K H bt h ws vs) :
    HeapOk K (upd H (bt.at_ n) (.lst vs)) bt (h.set n (.lst ws)) ∧ Exs H bt h (upd H (bt.at_ n) (.lst vs)) bt (h.set n (.lst ws)) :=
  ⟨(ok.put e nd r).1, (ok.put e nd r).2, fun d z => ⟨z, fun u q => by
    rw [upd_ne (fun y => ok.gd n o e nd (by rw [← y]; exact z))]; exact q⟩⟩
theorem HeapOk.freezeX (ok : HeapOk K H bt h) {n : Nat} {ws : List W} (e : h[n]? = some (.lst ws)) :
    HeapOk K H bt (h.set n .dead) ∧ Exs H bt h H bt (h.set n .dead) ∧ Rep K H bt (h.set n .dead) (.lst ws) (.ref (bt.at_ n)) :=
  ⟨(ok.freeze e).1, ⟨(ok.freeze e).2.1, fun d z => ⟨z, fun _ q => q⟩⟩, (ok.freeze e).2.2⟩
theorem HeapOk.ghostX (ok : HeapOk K H bt h) {D : Addr} {vs : List V} (n : H D = none) :
    HeapOk K (upd H D (.lst vs)) (bt.mk1 D) h ∧ Exs H bt h (upd H D (.lst vs)) (bt.mk1 D) h :=
  ⟨(ok.ghost n).1, (ok.ghost n).2, fun d z => ⟨List.mem_cons_of_mem _ z, fun o e => by
    rw [upd_ne (L2.ne_of_none e n)]; exact e⟩⟩
/-- it grows: seen from ahead of it -/
theorem HeapOk.growX (ok : HeapOk K H bt h) (x0 : Exs H1 bt1 h1 H bt h) {D : Addr} {vs : List V} (g : D ∈ bt.g) (n : D ∉ bt1.g) :
    HeapOk K (upd H D (.lst vs)) bt h ∧ Exs H1 bt1 h1 (upd H D (.lst vs)) bt h ∧ Ext H bt h (upd H D (.lst vs)) bt h := by
  obtain ⟨ok1, x1⟩ := ok.grow (vs := vs) g
  exact ⟨ok1, ⟨x0.toExt.trans x1, fun d z => ⟨(x0.gk d z).1, fun o e => by
    rw [upd_ne (fun y => n (by rw [← y]; exact z))]
    exact (x0.gk d z).2 o e⟩⟩, x1⟩
def Gh.rm (bt : Gh) (D : Addr) : Gh := ⟨bt.at_, bt.g.filter fun d => d != D⟩
theorem mem_rm {bt : Gh} {D d : Addr} : d ∈ (bt.rm D).g ↔ d ∈ bt.g ∧ d ≠ D := by
  unfold Gh.rm
  simp [List.mem_filter]
/-- it is made -/
theorem HeapOk.doneX (ok : HeapOk K H bt h) (x0 : Exs H1 bt1 h1 H bt h) {D : Addr} (n : D ∉ bt1.g) (g : D ∈ bt.g) : HeapOk K H (bt.rm D) h ∧ Exs H1 bt1 h1 H (bt.rm D) h ∧ Ext H bt h H (bt.rm D) h ∧ Fz (bt.rm D) h D := by
  have x : Ext H bt h H (bt.rm D) h := ⟨fun _ _ e _ => e, fun _ e => e, fun _ _ => rfl, fun d z => .inl (mem_rm.mp z).1, Nat.le_refl _, fun i o _ e n => ⟨o, e, n⟩, fun i o hi e _ => by
    rw [List.getElem?_eq_none hi] at e; cases e⟩
  refine ⟨⟨fun i o e => (ok.objs i o e).ext ok x fun _ q => q, ok.inj, fun d hd => ok.gl d (mem_rm.mp hd).1, fun i o e no z => ok.gd i o e no (mem_rm.mp z).1⟩, ⟨x0.toExt.trans x, fun d z => ⟨mem_rm.mpr ⟨(x0.gk d z).1, fun y => n (by rw [← y]; exact z)⟩, (x0.gk d z).2⟩⟩, x, fun i o e no z => ?_, fun z => (mem_rm.mp z).2 rfl⟩
  exact ok.gd i o e no (by have z' : bt.at_ i = D := z; rw [z']; exact g)
theorem Exs.cut0 {b : Nat} {H : L2.Hp} {bt : Gh} (x : Exs H1 bt1 h1 H bt h) (xc : Ext H1 bt1 h1 H bt h') : Exs H1 bt1 h1 H bt h' := ⟨xc, x.gk⟩
end
end Ow

/-! Ow3: readings that say what the evaluator says. -/
namespace Ow
open PySem PySem.Spec PyProof.Rows
open L2 (V SqL SqT Rd HO upd upd_same upd_ne TE TT TA TS VK Cx PE PT PA PS PSs WX)

theorem PE.imp {X : Cx} {e : Expr} {t t' : TE} (h : PE X e t) (i : ∀ σ H Q, t' σ H Q → t σ H Q) : PE X e t' := ⟨fun pins s σ H Q I q => h.run pins s σ H Q I (i σ H Q q)⟩
theorem PT.imp {X : Cx} {e : Expr} {t t' : TT} (h : PT X e t) (i : ∀ σ H Q, t' σ H Q → t σ H Q) : PT X e t' := ⟨fun pins s σ H Q I q => h.run pins s σ H Q I (i σ H Q q)⟩
theorem PS.imp {X : Cx} {e : Stmt} {t t' : TS} (h : PS X e t) (i : ∀ D σ H, t' D σ H → t D σ H) : PS X e t' := ⟨fun pins s σ H D I q => h.run pins s σ H D I (i D σ H q)⟩
theorem PSs.imp {X : Cx} {e : List Stmt} {t t' : TS} (h : PSs X e t) (i : ∀ D σ H, t' D σ H → t D σ H) : PSs X e t' := ⟨fun pins s σ H D I q => h.run pins s σ H D I (i D σ H q)⟩

/-- the readings of several expressions, from the left -/
def tL : List TE → TA
  | [] => L2.tNil
  | t :: ts => L2.tCons t (tL ts)
inductive PL (X : Cx) : List Expr → List TE → Prop
  | nil : PL X [] []
  | cons {e : Expr} {es : List Expr} {t : TE} {ts : List TE} : PE X e t → PL X es ts → PL X (e :: es) (t :: ts)
/-- no star -/
def ns : Expr → Bool
  | .Starred _ _ => false
  | _ => true
theorem star_ns {e : Expr} (h : ns e = true) (es : List Expr) (env : PySem.Env) : starEach (e :: es) env = (false, eval e env) :: starEach es env := by
  cases e <;> first | rfl | cases h
theorem star_all {es : List Expr} (h : es.all ns = true) (env : PySem.Env) (pos : Pos) : (backTo pos (starEach es env)).any (·.1) = false := by
  induction es with
  | nil => rfl
  | cons e es ih =>
    simp only [List.all_cons, Bool.and_eq_true] at h
    rw [star_ns h.1]
    show ((false || (backTo pos (starEach es env)).any (·.1))) = false
    rw [ih h.2]; rfl
theorem PL.pa {X : Cx} : ∀ {es : List Expr} {ts : List TE}, PL X es ts → es.all ns = true → PA X es (tL ts)
  | _, _, .nil, _ => L2.pa_nil
  | _, _, .cons h t, z => by
    simp only [List.all_cons, Bool.and_eq_true] at z
    exact L2.pa_cons h (t.pa z.2) (star_ns z.1 _ _)
theorem PL.two {X : Cx} {a b : Expr} {ts : List TE} (h : PL X [a, b] ts) : ∃ ta tb, ts = [ta, tb] ∧ PE X a ta ∧ PE X b tb := by
  cases h with
  | cons h1 h2 =>
    cases h2 with
    | cons h2 h3 =>
      cases h3
      exact ⟨_, _, rfl, h1, h2⟩
theorem PL.one {X : Cx} {a : Expr} {ts : List TE} (h : PL X [a] ts) : ∃ ta, ts = [ta] ∧ PE X a ta := by
  cases h with
  | cons h1 h2 =>
    cases h2
    exact ⟨_, rfl, h1⟩
theorem PL.three {X : Cx} {a b c : Expr} {ts : List TE} (h : PL X [a, b, c] ts) : ∃ ta tb tc, ts = [ta, tb, tc] ∧ PE X a ta ∧ PE X b tb ∧ PE X c tc := by
  cases h with
  | cons h1 h2 =>
    obtain ⟨tb, tc, rfl, h3, h4⟩ := h2.two
    exact ⟨_, _, _, rfl, h1, h3, h4⟩

section
variable (K : KX)
/-- the slots as the evaluator knows them -/
structure Stt (σ : L2.St) (H : L2.Hp) (bt : Gh) (ρ : Env) (h : Hp) : Prop where
  hp : HeapOk K H bt h
  sl : ∀ (i : Nat) w, ρ[i]? = some (some w) → ∃ v, σ[i]? = some (some v) ∧ Rep K H bt h w v
  len : ρ.length = σ.length
/-- an exception -/
def RepX (H : L2.Hp) (bt : Gh) (h : Hp) : W → Value → Option Addr → Prop := fun _ _ _ => False
/-- what is wanted of an evaluator's result -/
def OkX (Wx : WX) (σ : L2.St) (H : L2.Hp) (bt : Gh) (b : Nat) (h : Hp) (e : W) (h' : Hp) : Prop :=
  ∀ c d H' bt', Exs H bt h H' bt' h' → HeapOk K H' bt' h' → Pres b h h' → RepX H' bt' h' e c d → Wx c d σ H'
def OkE (Wx : WX) (σ : L2.St) (H : L2.Hp) (bt : Gh) (b : Nat) (h : Hp) (Q : VK) : R W → Prop
  | .ok w h' => ∀ v H' bt', Exs H bt h H' bt' h' → HeapOk K H' bt' h' → Pres b h h' → Rep K H' bt' h' w v → Q v H'
  | .exc e h' => OkX K Wx σ H bt b h e h'
  | .bad => False
def OkEs (Wx : WX) (σ : L2.St) (H : L2.Hp) (bt : Gh) (b : Nat) (h : Hp) (Q : List V → L2.Hp → Prop) : R (List W) → Prop
  | .ok ws h' => ∀ vs H' bt', Exs H bt h H' bt' h' → HeapOk K H' bt' h' → Pres b h h' → RepL K H' bt' h' ws vs → Q vs H'
  | .exc e h' => OkX K Wx σ H bt b h e h'
  | .bad => False
def OkT (Wx : WX) (σ : L2.St) (H : L2.Hp) (bt : Gh) (b : Nat) (h : Hp) (Q : Bool → L2.Hp → Prop) : R W → Prop
  | .ok w h' => ∃ k, truthW h' w = some k ∧ ∀ H' bt', Exs H bt h H' bt' h' → HeapOk K H' bt' h' → Pres b h h' → Q k H'
  | .exc e h' => OkX K Wx σ H bt b h e h'
  | .bad => False
/-- the reading of an expression: from what the evaluator knows, by what it says -/
def tEv (Wx : WX) (m : Nat → Env → Hp → R W) : TE := fun σ H Q => ∃ b bt ρ h, Stt K σ H bt ρ h ∧ b ≤ h.length ∧ OkE K Wx σ H bt b h Q (m b ρ h)
def tEvs (Wx : WX) (m : Nat → Env → Hp → R (List W)) : TA := fun σ H Q => ∃ b bt ρ h, Stt K σ H bt ρ h ∧ b ≤ h.length ∧ OkEs K Wx σ H bt b h Q (m b ρ h)
/-- .. of a test -/
def tTv (Wx : WX) (m : Nat → Env → Hp → R W) : TT := fun σ H Q => ∃ b bt ρ h, Stt K σ H bt ρ h ∧ b ≤ h.length ∧ OkT K Wx σ H bt b h Q (m b ρ h)
end
section
variable {K : KX} {σ : L2.St} {H H' : L2.Hp} {bt bt' : Gh} {ρ : Env} {h h' : Hp} {Wx : WX}
theorem Stt.ext (s : Stt K σ H bt ρ h) (x : Exs H bt h H' bt' h') (ok : HeapOk K H' bt' h') : Stt K σ H' bt' ρ h' :=
  ⟨ok, fun i w e => let ⟨v, e1, r⟩ := s.sl i w e; ⟨v, e1, r.ext s.hp x.toExt⟩, s.len⟩
theorem OkX.trans {b : Nat} {e : W} {h1 h2 : Hp} {H1 : L2.Hp} {bt1 : Gh} (x : Exs H bt h H1 bt1 h1) (p : Pres b h h1) (q : OkX K Wx σ H bt b h e h2) : OkX K Wx σ H1 bt1 b h1 e h2 :=
  fun c d H' bt' x2 ok2 p2 r => q c d H' bt' (x.trans x2) ok2 (p.trans p2) r
/-- one evaluation, then another -/
theorem OkE.bind {b : Nat} {m : R W} {f : W → Hp → R W} {Q : VK} (q : OkE K Wx σ H bt b h Q (m.bind f)) :
    OkE K Wx σ H bt b h (fun v H1 => ∃ w h1 bt1, m = .ok w h1 ∧ Exs H bt h H1 bt1 h1 ∧ HeapOk K H1 bt1 h1 ∧ Pres b h h1 ∧ Rep K H1 bt1 h1 w v ∧ OkE K Wx σ H1 bt1 b h1 Q (f w h1)) m := by
  cases m with
  | bad => exact q
  | exc e h1 => exact q
  | ok w h1 =>
    intro v H1 bt1 x ok p r
    refine ⟨w, h1, bt1, rfl, x, ok, p, r, ?_⟩
    have q' : OkE K Wx σ H bt b h Q (f w h1) := q
    cases e : f w h1 with
    | bad => rw [e] at q'; exact q'
    | exc e2 h2 => rw [e] at q'; exact OkX.trans x p q'
    | ok w2 h2 => rw [e] at q'; exact fun v2 H2 bt2 x2 ok2 p2 r2 => q' v2 H2 bt2 (x.trans x2) ok2 (p.trans p2) r2
theorem OkE.mono {b : Nat} {m : R W} {Q Q' : VK} (q : OkE K Wx σ H bt b h Q m) (i : ∀ v H', Q v H' → Q' v H') : OkE K Wx σ H bt b h Q' m := by
  cases m with
  | bad => exact q
  | exc e h1 => exact q
  | ok w h1 => exact fun v H1 bt1 x ok p r => i _ _ (q v H1 bt1 x ok p r)
theorem OkEs.bind {b : Nat} {m : R (List W)} {f : List W → Hp → R W} {Q : VK} (q : OkE K Wx σ H bt b h Q (m.bind f)) :
    OkEs K Wx σ H bt b h (fun vs H1 => ∃ ws h1 bt1, m = .ok ws h1 ∧ Exs H bt h H1 bt1 h1 ∧ HeapOk K H1 bt1 h1 ∧ Pres b h h1 ∧ RepL K H1 bt1 h1 ws vs ∧ OkE K Wx σ H1 bt1 b h1 Q (f ws h1)) m := by
  cases m with
  | bad => exact q
  | exc e h1 => exact q
  | ok w h1 =>
    intro v H1 bt1 x ok p r
    refine ⟨w, h1, bt1, rfl, x, ok, p, r, ?_⟩
    have q' : OkE K Wx σ H bt b h Q (f w h1) := q
    cases e : f w h1 with
    | bad => rw [e] at q'; exact q'
    | exc e2 h2 => rw [e] at q'; exact OkX.trans x p q'
    | ok w2 h2 => rw [e] at q'; exact fun v2 H2 bt2 x2 ok2 p2 r2 => q' v2 H2 bt2 (x.trans x2) ok2 (p.trans p2) r2
/-- a list of expressions, from the left -/
theorem tl_of {call : Nat → Nat → List W → Hp → R W} : ∀ (es : List Ex) (σ : L2.St) (H : L2.Hp) (Q : List V → L2.Hp → Prop),
    tEvs K Wx (fun b ρ h => evEs call b ρ es h) σ H Q → tL (es.map fun e => tEv K Wx (fun b ρ h => evE call b ρ e h)) σ H Q
  | [], σ, H, Q, q => by
    obtain ⟨b, bt, ρ, h, s, hb, q⟩ := q
    simp only [evEs] at q
    exact q [] H bt Exs.refl s.hp Pres.refl rfl
  | e :: es, σ, H, Q, q => by
    obtain ⟨b, bt, ρ, h, s, hb, q⟩ := q
    simp only [evEs] at q
    refine ⟨b, bt, ρ, h, s, hb, ?_⟩
    show OkE K Wx σ H bt b h _ (evE call b ρ e h)
    cases e1 : evE call b ρ e h with
    | bad => rw [e1] at q; exact q
    | exc x h1 => rw [e1] at q; exact q
    | ok w h1 =>
      rw [e1] at q
      simp only [R.bind_ok] at q
      intro v H1 bt1 x1 ok1 p1 r1
      refine tl_of es σ H1 _ ⟨b, bt1, ρ, h1, s.ext x1 ok1, Nat.le_trans hb x1.len, ?_⟩
      show OkEs K Wx σ H1 bt1 b h1 _ (evEs call b ρ es h1)
      cases e2 : evEs call b ρ es h1 with
      | bad => rw [e2] at q; exact q
      | exc x h2 => rw [e2] at q; exact OkX.trans x1 p1 q
      | ok ws h2 =>
        rw [e2] at q
        simp only [R.bind_ok] at q
        exact fun vs H2 bt2 x2 ok2 p2 r2 => q (v :: vs) H2 bt2 (x1.trans x2) ok2 (p1.trans p2) ⟨v, vs, rfl, r1.ext ok1 x2.toExt, r2⟩

/-! ### primitives -/
/-- a new list -/
def NewL (K : KX) (H H' : L2.Hp) (bt : Gh) (h : Hp) (ws : List W) (v : V) : Prop :=
  ∃ p vs, v = .ref p ∧ H p = none ∧ H' p = some (.lst vs) ∧ RepL K H bt h ws vs ∧ L2.Same H H'
def Post (K : KX) (f : Bool) (H H' : L2.Hp) (bt : Gh) (h : Hp) (w : W) (v : V) : Prop := match f, w with
  | true, .lst ws => NewL K H H' bt h ws v
  | _, w => L2.Same H H' ∧ Rep K H' bt h w v
/-- an argument, a ref to a list as its content -/
def RepT (K : KX) (H : L2.Hp) (bt : Gh) (h : Hp) : W → V → Prop
  | .lst ws, v => ∃ a vs, v = .ref a ∧ H a = some (.lst vs) ∧ RepL K H bt h ws vs
  | w, v => Rep K H bt h w v
def RepTL (K : KX) (H : L2.Hp) (bt : Gh) (h : Hp) : List W → List V → Prop
  | [], vs => vs = []
  | w :: ws, vs => ∃ v r, vs = v :: r ∧ RepT K H bt h w v ∧ RepTL K H bt h ws r
theorem Rep.t (ok : HeapOk K H bt h) {w : W} {v : V} (r : Rep K H bt h w v) : RepT K H bt h (deref h w) v := by
  cases w with
  | ref n =>
    have r0 := r
    obtain ⟨hn, rfl⟩ := r
    cases e : h[n]? with
    | none => simp only [deref, e]; exact r0
    | some o =>
      cases o with
      | dead => simp only [deref, e]; exact r0
      | lst ws =>
        simp only [deref, e]
        obtain ⟨vs, q, l⟩ := ok.objs n _ e
        exact ⟨_, vs, rfl, q, l⟩
      | dic ks vs => exact (ok.objs n _ e).elim
      | ins k fs => exact (ok.objs n _ e).elim
  | lst ws =>
    obtain ⟨a, vs, e, f, l⟩ := r
    exact ⟨a, vs, e, f.1, l⟩
  | _ => exact r
theorem RepL.t (ok : HeapOk K H bt h) : ∀ {ws : List W} {vs : List V}, RepL K H bt h ws vs → RepTL K H bt h (ws.map (deref h)) vs
  | [], _, r => r
  | w :: ws, _, r => by
    obtain ⟨v, t, rfl, r1, r2⟩ := r
    exact ⟨v, t, rfl, r1.t ok, RepL.t ok r2⟩
/-- what is asked of a primitive's reading -/
def RdOk (K : KX) (p : Prim) (rd : List V → L2.Hp → VK → Prop) : Prop :=
  ∀ (H : L2.Hp) (bt : Gh) (h : Hp) (ws : List W) (vs : List V) (w : W) (Q : VK), HeapOk K H bt h → (if p.raw then RepL K H bt h ws vs else RepTL K H bt h ws vs) → primF p ws = some w →
    (∀ v H', Post K p.fresh H H' bt h w v → Q v H') → rd vs H Q
theorem NewL.rep (ok : HeapOk K H bt h) {ws : List W} {v : V} (n : NewL K H H' bt h ws v) : Rep K H' bt h (.lst ws) v := by
  obtain ⟨p, vs, rfl, hn, e, r, s⟩ := n
  obtain ⟨ok1, x⟩ := ok.same s
  refine ⟨p, vs, rfl, ⟨e, fun i o ei ni z => ?_, fun z => ?_⟩, r.ext ok x _ _⟩
  · exact ok.at_some ei ni (by rw [z]; exact hn)
  · obtain ⟨us, q⟩ := ok.gl p z
    rw [hn] at q; cases q
theorem Post.rep (ok : HeapOk K H bt h) {f : Bool} {w : W} {v : V} (n : Post K f H H' bt h w v) : L2.Same H H' ∧ Rep K H' bt h w v := by
  unfold Post at n
  split at n
  · exact ⟨let ⟨_, _, _, _, _, _, s⟩ := n; s, n.rep ok⟩
  · exact n
/-- a primitive's run -/
theorem prim_run {p : Prim} {rd : List V → L2.Hp → VK → Prop} (hr : RdOk K p rd) {m : Bool} {b : Nat} {ws : List W} {vs : List V} {Q : VK} (ok : HeapOk K H bt h) (hb : b ≤ h.length) (r : RepL K H bt h ws vs)
    (q : OkE K (fun _ _ _ _ => False) σ H bt b h Q (runPrim m p ws h)) : rd vs H Q := by
  unfold runPrim at q
  cases e : primF p (if p.raw = true then ws else ws.map (deref h)) with
  | none => rw [e] at q; exact q.elim
  | some w =>
    rw [e] at q
    simp only at q
    refine hr H bt h _ vs w Q ok ?_ e fun v H1 n => ?_
    · cases hp : p.raw with
      | true => simpa [hp] using r
      | false => simpa [hp] using r.t ok
    · cases m with
      | false =>
        simp only [Bool.false_eq_true, if_false] at q
        obtain ⟨s, r1⟩ := n.rep ok
        obtain ⟨ok1, x⟩ := ok.sameX s
        exact q v H1 bt x ok1 Pres.refl r1
      | true =>
        simp only [if_true] at q
        cases hf : p.fresh with
        | false => rw [hf] at q; simp at q; exact q.elim
        | true =>
          rw [hf] at q n
          cases w with
          | lst us =>
            simp only [if_true, newObj] at q
            obtain ⟨p1, vs1, rfl, hn, e1, r1, s⟩ := n
            obtain ⟨ok1, x⟩ := ok.newX s hn e1 r1
            exact q _ H1 _ x ok1 (Pres.new hb) ⟨by simp, by rw [Gh.add_self]⟩
          | dic ks us =>
            obtain ⟨_, r1⟩ := n
            exact r1.elim
          | _ => simp [newObj] at q; exact q.elim
theorem runPrim_noexc {m : Bool} {p : Prim} {ws : List W} {h : Hp} : ∀ e h', runPrim m p ws h ≠ .exc e h' := by
  intro e h' z
  unfold runPrim at z
  split at z
  · cases z
  · split at z
    · split at z
      · split at z <;> cases z
      · cases z
    · cases z
end
end Ow

/-! Ow4: the primitives, over the layer's rules. -/
namespace Ow
open PySem PySem.Spec PyProof.Rows
open L2 (V SqL SqT Rd HO upd upd_same upd_ne TE TT TA TS VK Cx PE PT PA PS PSs WX OpR UnR CallR R2 Room)

def rd2 (r : R2) : List V → L2.Hp → VK → Prop
  | [x, y], H, Q => r x y H Q
  | _, _, _ => False
def rd1 (r : V → L2.Hp → VK → Prop) : List V → L2.Hp → VK → Prop
  | [x], H, Q => r x H Q
  | _, _, _ => False
/-- a reading over a list of values -/
def tP (ts : List TE) (rd : List V → L2.Hp → VK → Prop) : TE := fun σ H Q => tL ts σ H fun vs H1 => rd vs H1 Q
def tPt (ts : List TE) (rd : List V → L2.Hp → VK → Prop) : TT := fun σ H Q => tL ts σ H fun vs H1 => rd vs H1 fun x H' => ∃ k, x = .bl k ∧ Q k H'
section
variable {X : Cx} {a b : Expr} {ts : List TE} {pos : Pos}
theorem pe_bin {op : Operator} {r : R2} (ho : OpR X (binaryOp op) r) (h : PL X [a, b] ts) : PE X (.BinOp a op b pos) (tP ts (rd2 r)) := by
  obtain ⟨ta, tb, rfl, ha, hb⟩ := h.two
  exact L2.pe_op ho ha hb
theorem pe_cmp {op : CmpOp} {r : R2} (ho : OpR X (compareOp op) r) (h : PL X [a, b] ts) (hm : behindInMarks op b = false) : PE X (.Compare a [op] [b] pos) (tP ts (rd2 r)) := by
  obtain ⟨ta, tb, rfl, ha, hb⟩ := h.two
  exact L2.pe_cmpR ho ha hb hm
theorem pt_cmp {op : CmpOp} {r : R2} (ho : OpR X (compareOp op) r) (h : PL X [a, b] ts) (hm : behindInMarks op b = false) : PT X (.Compare a [op] [b] pos) (tPt ts (rd2 r)) := by
  obtain ⟨ta, tb, rfl, ha, hb⟩ := h.two
  exact L2.pt_cmpR ho ha hb hm
theorem pe_ixL {r : R2} (ho : L2.IxR X r) (h : PL X [a, b] ts) (hs : L2.PlainIx b) : PE X (.Subscript a b pos) (tP ts (rd2 r)) := by
  obtain ⟨ta, tb, rfl, ha, hb⟩ := h.two
  exact L2.pe_ix ho ha hb hs
end

/-! ### what a primitive's result stands for -/
section
variable {K : KX} {H H' : L2.Hp} {bt bt' : Gh} {h h' : Hp}
theorem repT_int {i : Int} {v : V} (r : RepT K H bt h (.int i) v) : v = .int i := r
theorem repT_str {i : Str} {v : V} (r : RepT K H bt h (.str i) v) : v = .str i := r
theorem repT_bl {i : Bool} {v : V} (r : RepT K H bt h (.bl i) v) : v = .bl i := r
theorem repT_non {v : V} (r : RepT K H bt h .non v) : v = .non := r
theorem repT_tup {ws : List W} {v : V} (r : RepT K H bt h (.tup ws) v) : ∃ a vs, v = .ref a ∧ SqT K H a vs ∧ RepL K H bt h ws vs := r
theorem repT_lst {ws : List W} {v : V} (r : RepT K H bt h (.lst ws) v) : ∃ a vs, v = .ref a ∧ H a = some (.lst vs) ∧ RepL K H bt h ws vs := r
theorem RepTL.two {a b : W} {vs : List V} (r : RepTL K H bt h [a, b] vs) : ∃ x y, vs = [x, y] ∧ RepT K H bt h a x ∧ RepT K H bt h b y := by
  obtain ⟨x, t, rfl, r1, y, u, rfl, r2, e⟩ := r
  cases (show u = [] from e)
  exact ⟨x, y, rfl, r1, r2⟩
theorem RepTL.one {a : W} {vs : List V} (r : RepTL K H bt h [a] vs) : ∃ x, vs = [x] ∧ RepT K H bt h a x := by
  obtain ⟨x, t, rfl, r1, e⟩ := r
  cases (show t = [] from e)
  exact ⟨x, rfl, r1⟩
/-- a value without an object -/
theorem post_flat {f : Bool} {w : W} {v : V} (r : Rep K H bt h w v) (nl : ∀ ws, w ≠ .lst ws) : Post K f H H bt h w v := by
  unfold Post
  split
  · exact absurd rfl (nl _)
  · exact ⟨L2.Same.refl H, r⟩
theorem post_newL {p : Addr} {ws : List W} {vs : List V} (n : H p = none) (r : RepL K H bt h ws vs) : Post K true H (upd H p (.lst vs)) bt h (.lst ws) (.ref p) :=
  ⟨p, vs, rfl, n, upd_same, r, Same.upd n⟩
theorem post_newT {f : Bool} {p : Addr} {ws : List W} {vs : List V} (ok : HeapOk K H bt h) (n : H p = none) (r : RepL K H bt h ws vs) : Post K f H (upd H p (.tup vs)) bt h (.tup ws) (.ref p) := by
  have s : L2.Same H (upd H p (.tup vs)) := Same.upd n
  refine (show L2.Same H (upd H p (.tup vs)) ∧ Rep K (upd H p (.tup vs)) bt h (.tup ws) (.ref p) from ⟨s, p, vs, rfl, .of upd_same, r.ext ok (ok.same s).2 _ _⟩) |> fun z => ?_
  unfold Post
  split
  · rename_i e; cases e
  · exact z
theorem RdOk.of2 {p : Prim} {r : R2} (raw : p.raw = false) (g : ∀ (H : L2.Hp) (bt : Gh) (h : Hp) (a b : W) (x y : V) (w : W) (Q : VK), HeapOk K H bt h → RepT K H bt h a x → RepT K H bt h b y → primF p [a, b] = some w → (∀ v H', Post K p.fresh H H' bt h w v → Q v H') → r x y H Q)
    (n : ∀ ws, primF p ws ≠ none → ∃ a b, ws = [a, b]) : RdOk K p (rd2 r) := by
  intro H bt h ws vs w Q ok rl e q
  obtain ⟨a, b, rfl⟩ := n ws (by rw [e]; simp)
  rw [raw] at rl
  obtain ⟨x, y, rfl, r1, r2⟩ := RepTL.two rl
  exact g H bt h a b x y w Q ok r1 r2 e q
theorem RdOk.of1 {p : Prim} {r : V → L2.Hp → VK → Prop} (raw : p.raw = false) (g : ∀ (H : L2.Hp) (bt : Gh) (h : Hp) (a : W) (x : V) (w : W) (Q : VK), HeapOk K H bt h → RepT K H bt h a x → primF p [a] = some w → (∀ v H', Post K p.fresh H H' bt h w v → Q v H') → r x H Q)
    (n : ∀ ws, primF p ws ≠ none → ∃ a, ws = [a]) : RdOk K p (rd1 r) := by
  intro H bt h ws vs w Q ok rl e q
  obtain ⟨a, rfl⟩ := n ws (by rw [e]; simp)
  rw [raw] at rl
  obtain ⟨x, rfl, r1⟩ := RepTL.one rl
  exact g H bt h a x w Q ok r1 e q
end

section
variable {X : Cx}
def rAdd (K : KX) : R2 := fun x y H Q => (((∃ i j, x = .int i ∧ y = .int j ∧ Q (.int (i + j)) H) ∨ (∃ i j, x = .str i ∧ y = .str j ∧ i.length + j.length ≤ sizeLine ∧ Q (.str (i ++ j)) H)) ∨ L2.rCatA K x y H Q) ∨ L2.rCat x y H Q
theorem op_addA : OpR X (binaryOp .Add) (rAdd (kx X)) := ((L2.op_add.or L2.op_add_str).or L2.op_catA).or L2.op_cat
theorem okLen_le {n : Nat} (h : okLen n = true) : n ≤ sizeLine := of_decide_eq_true h
theorem two_of {p : Prim} (h : ∀ a, pOne p a = none) (h0 : p ≠ .tupd) (h1 : p ≠ .lstd) (h2 : ∀ l u, p ≠ .sl l u) (h3 : p ≠ .isN) (h4 : p ≠ .notN) : ∀ ws, primF p ws ≠ none → ∃ a b, ws = [a, b] := by
  intro ws n
  cases p <;> first
    | exact absurd rfl h0
    | exact absurd rfl h1
    | exact absurd rfl (h2 _ _)
    | exact absurd rfl h3
    | exact absurd rfl h4
    | (match ws, n with
       | [], n => exact absurd rfl n
       | [a], n => exact absurd (h a) n
       | [a, b], _ => exact ⟨a, b, rfl⟩
       | _ :: _ :: _ :: _, n => exact absurd rfl n)
theorem rd_add : RdOk (kx X) .add (rd2 (rAdd (kx X))) := RdOk.of2 rfl (fun H bt h a b x y w Q ok r1 r2 e q => by
  have e : pAdd a b = some w := e
  cases a <;> cases b <;> first
    | cases e
    | skip
  · cases r1; cases r2
    exact .inl (.inl (.inl ⟨_, _, rfl, rfl, q _ _ (post_flat rfl fun _ z => by cases z)⟩))
  · rename_i s t
    cases r1; cases r2
    simp only [pAdd] at e
    split at e
    · cases e
      exact .inl (.inl (.inr ⟨_, _, rfl, rfl, okLen_le (by assumption), q _ _ (post_flat rfl fun _ z => by cases z)⟩))
    · cases e
  · obtain ⟨a1, xs, rfl, h1, l1⟩ := repT_tup r1
    obtain ⟨a2, ys, rfl, h2, l2⟩ := repT_tup r2
    simp only [pAdd] at e
    split at e
    · cases e
      have hl := l1.length
      have hl2 := l2.length
      refine .inl (.inr ⟨a1, a2, xs, ys, rfl, rfl, h1, h2, by have := okLen_le (by assumption); omega, fun z => ?_, fun z z2 => ?_, fun _ _ p n => q _ _ (post_newT ok n (l1.append l2))⟩)
      · subst z
        have : (_ : List W) = [] := List.length_eq_zero_iff.mp (hl.trans rfl)
        subst this
        exact q _ _ (post_flat ⟨a2, ys, rfl, h2, l2⟩ fun _ z => by cases z)
      · subst z2
        have : (_ : List W) = [] := List.length_eq_zero_iff.mp (hl2.trans rfl)
        subst this
        rw [List.append_nil] at q
        exact q _ _ (post_flat ⟨a1, xs, rfl, h1, l1⟩ fun _ z => by cases z)
    · cases e
  · obtain ⟨a1, xs, rfl, h1, l1⟩ := repT_lst r1
    obtain ⟨a2, ys, rfl, h2, l2⟩ := repT_lst r2
    simp only [pAdd] at e
    split at e
    · cases e
      have hl := l1.length
      have hl2 := l2.length
      exact .inr ⟨a1, a2, xs, ys, rfl, rfl, h1, h2, by have := okLen_le (by assumption); omega, fun p n => q _ _ (post_newL n (l1.append l2))⟩
    · cases e) (two_of (fun a => by cases a <;> rfl) (by decide) (by decide) (fun _ _ => by simp) (by decide) (by decide))
theorem post_false {H H' : L2.Hp} {bt : Gh} {h : Hp} {w : W} {v : V} (s : L2.Same H H') (r : Rep (kx X) H' bt h w v) : Post (kx X) false H H' bt h w v := ⟨s, r⟩
theorem rI_ok {p : Prim} {C : Int → Int → Prop} {g : Int → Int → V} (raw : p.raw = false) (n : ∀ ws, primF p ws ≠ none → ∃ a b, ws = [a, b])
    (e : ∀ a b w, primF p [a, b] = some w → ∃ i j, a = .int i ∧ b = .int j ∧ C i j ∧ ((∃ k, w = .int k ∧ g i j = .int k) ∨ ∃ k, w = .bl k ∧ g i j = .bl k)) : RdOk (kx X) p (rd2 (L2.rI C g)) :=
  RdOk.of2 raw (fun H bt h a b x y w Q ok r1 r2 e1 q => by
    obtain ⟨i, j, rfl, rfl, c, ⟨k, rfl, eg⟩ | ⟨k, rfl, eg⟩⟩ := e a b w e1
    · cases r1; cases r2
      exact ⟨i, j, rfl, rfl, c, by rw [eg]; exact q _ _ (post_flat rfl fun _ z => by cases z)⟩
    · cases r1; cases r2
      exact ⟨i, j, rfl, rfl, c, by rw [eg]; exact q _ _ (post_flat rfl fun _ z => by cases z)⟩) n
theorem rI0_ok {p : Prim} {g : Int → Int → V} (raw : p.raw = false) (n : ∀ ws, primF p ws ≠ none → ∃ a b, ws = [a, b])
    (e : ∀ a b w, primF p [a, b] = some w → ∃ i j, a = .int i ∧ b = .int j ∧ ((∃ k, w = .int k ∧ g i j = .int k) ∨ ∃ k, w = .bl k ∧ g i j = .bl k)) : RdOk (kx X) p (rd2 (L2.rI0 g)) :=
  RdOk.of2 raw (fun H bt h a b x y w Q ok r1 r2 e1 q => by
    obtain ⟨i, j, rfl, rfl, ⟨k, rfl, eg⟩ | ⟨k, rfl, eg⟩⟩ := e a b w e1
    · cases r1; cases r2
      exact ⟨i, j, rfl, rfl, by rw [eg]; exact q _ _ (post_flat rfl fun _ z => by cases z)⟩
    · cases r1; cases r2
      exact ⟨i, j, rfl, rfl, by rw [eg]; exact q _ _ (post_flat rfl fun _ z => by cases z)⟩) n
theorem ints_of {f : W → W → Option W} {a b w : W} (e : f a b = some w) (n : ∀ a b, f a b ≠ none → ∃ i j, a = .int i ∧ b = .int j) : ∃ i j, a = .int i ∧ b = .int j := n a b (by rw [e]; simp)
theorem rd_sub : RdOk (kx X) .sub (rd2 (L2.rI0 fun i j => .int (i - j))) := rI0_ok rfl (two_of (fun a => by cases a <;> rfl) (by decide) (by decide) (fun _ _ => by simp) (by decide) (by decide)) fun a b w e => by
  have e : pSub a b = some w := e
  cases a <;> cases b <;> cases e
  exact ⟨_, _, rfl, rfl, .inl ⟨_, rfl, rfl⟩⟩
theorem rd_cmp {p : Prim} {f : Int → Int → Bool} (raw : p.raw = false) (n : ∀ ws, primF p ws ≠ none → ∃ a b, ws = [a, b]) (h : ∀ a b, primF p [a, b] = pCmp f a b) : RdOk (kx X) p (rd2 (L2.rI0 fun i j => .bl (f i j))) := rI0_ok raw n fun a b w e => by
  rw [h] at e
  cases a <;> cases b <;> cases e
  exact ⟨_, _, rfl, rfl, .inr ⟨_, rfl, rfl⟩⟩
theorem rd_mod : RdOk (kx X) .mod (rd2 (L2.rI (fun _ j => j ≠ 0) fun i j => .int (i.fmod j))) := rI_ok rfl (two_of (fun a => by cases a <;> rfl) (by decide) (by decide) (fun _ _ => by simp) (by decide) (by decide)) fun a b w e => by
  have e : pMod a b = some w := e
  cases a <;> cases b <;> first | (cases e; done) | skip
  simp only [pMod] at e
  split at e
  · cases e
  · cases e
    exact ⟨_, _, rfl, rfl, by assumption, .inl ⟨_, rfl, rfl⟩⟩
theorem rd_fdiv : RdOk (kx X) .fdiv (rd2 (L2.rI L2.CDivN fun i j => .int (i.fdiv j))) := rI_ok rfl (two_of (fun a => by cases a <;> rfl) (by decide) (by decide) (fun _ _ => by simp) (by decide) (by decide)) fun a b w e => by
  have e : pFdiv a b = some w := e
  cases a <;> cases b <;> first | (cases e; done) | skip
  simp only [pFdiv] at e
  split at e
  · cases e
    exact ⟨_, _, rfl, rfl, by assumption, .inl ⟨_, rfl, rfl⟩⟩
  · cases e
theorem rd_pow : RdOk (kx X) .pow (rd2 (L2.rI L2.CPow fun i j => .int (i ^ j.toNat))) := rI_ok rfl (two_of (fun a => by cases a <;> rfl) (by decide) (by decide) (fun _ _ => by simp) (by decide) (by decide)) fun a b w e => by
  have e : pPow a b = some w := e
  cases a <;> cases b <;> first | (cases e; done) | skip
  simp only [pPow] at e
  split at e
  · cases e
    exact ⟨_, _, rfl, rfl, by assumption, .inl ⟨_, rfl, rfl⟩⟩
  · cases e
end

/-! ### data -/
section
variable {K : KX} {H : L2.Hp} {bt : Gh} {h : Hp}
mutual
theorem Rep.dp : ∀ (w : W) (v : V), isD w = true → Rep K H bt h w v → L2.Dp K H v (toD w)
  | .non, _, _, r => by cases r; simp only [toD]; exact .non
  | .bl b, _, _, r => by cases r; simp only [toD]; exact .bl b
  | .int b, _, _, r => by cases r; simp only [toD]; exact .int b
  | .str b, _, _, r => by cases r; simp only [toD]; exact .str b
  | .tup ws, v, d, r => by
    obtain ⟨a, vs, rfl, q, l⟩ := r
    simp only [isD] at d
    simp only [toD]
    exact .tup q (RepL.dp ws vs d l)
  | .lst ws, v, d, r => by
    obtain ⟨a, vs, rfl, q, l⟩ := r
    simp only [isD] at d
    simp only [toD]
    exact .lst (.of q.1) (RepL.dp ws vs d l)
  | .slst _, _, d, _ => by simp [isD] at d
  | .set _, _, d, _ => by simp [isD] at d
  | .dic _ _, _, d, _ => by simp [isD] at d
  | .ref _, _, d, _ => by simp [isD] at d
  | .ty _, _, d, _ => by simp [isD] at d
  | .cls _, _, d, _ => by simp [isD] at d
  | .exc _ _, _, d, _ => by simp [isD] at d
theorem RepL.dp : ∀ (ws : List W) (vs : List V), isDL ws = true → RepL K H bt h ws vs → L2.DpAll K H vs (ws.map toD)
  | [], _, _, r => by cases (show _ = [] from r); exact .nil
  | w :: ws, _, d, r => by
    obtain ⟨v, t, rfl, r1, r2⟩ := r
    simp only [isDL, Bool.and_eq_true] at d
    exact .cons (Rep.dp w v d.1 r1) (RepL.dp ws t d.2 r2)
end
theorem RepT.dp {w : W} {v : V} (d : isD w = true) (r : RepT K H bt h w v) : L2.Dp K H v (toD w) := by
  cases w with
  | lst ws =>
    obtain ⟨a, vs, rfl, q, l⟩ := r
    simp only [isD] at d
    simp only [toD]
    exact .lst (.of q) (RepL.dp ws vs d l)
  | _ => exact Rep.dp (bt := bt) (h := h) _ _ d r
end
section
variable {X : Cx}
def rEqA (K : KX) : R2 := fun x y H Q => L2.rEq x y H Q ∨ L2.rEqD K x y H Q
def rNeA (K : KX) : R2 := fun x y H Q => L2.rNe x y H Q ∨ L2.rNeD K x y H Q
theorem op_eqA (hu : X.A.units + 64 < cLine) : OpR X (compareOp .Eq) (rEqA (kx X)) := L2.op_eq.or (L2.op_eqD hu)
theorem op_neA (hu : X.A.units + 64 < cLine) : OpR X (compareOp .NotEq) (rNeA (kx X)) := L2.op_ne.or (L2.op_neD hu)
theorem pEq_cases {a b : W} {c : Bool} (e : pEq a b = some c) : (∃ x y : V, (∀ (K : KX) H bt h u v, RepT K H bt h a u → RepT K H bt h b v → u = x ∧ v = y) ∧ L2.scal x y = true ∧ c = decide (x = y)) ∨ (eqOk a b = true ∧ c = PyData.eqv (toD a) (toD b)) := by
  unfold pEq at e
  split at e
  · cases e
    refine .inl ⟨_, _, fun K H bt h u v r1 r2 => ⟨r1, r2⟩, rfl, ?_⟩
    simp
  · cases e
    exact .inl ⟨_, _, fun K H bt h u v r1 r2 => ⟨r1, r2⟩, rfl, by simp⟩
  · cases e
    exact .inl ⟨_, _, fun K H bt h u v r1 r2 => ⟨r1, r2⟩, rfl, by simp⟩
  · cases e
    exact .inl ⟨_, _, fun K H bt h u v r1 r2 => ⟨r1, r2⟩, rfl, by simp⟩
  · cases e
    exact .inl ⟨_, _, fun K H bt h u v r1 r2 => ⟨r1, r2⟩, rfl, by simp⟩
  · split at e
    · cases e
      exact .inr ⟨by assumption, rfl⟩
    · cases e
theorem eqOk_and {a b : W} (h : eqOk a b = true) : isD a = true ∧ isD b = true ∧ SeqAt.shaped (toD a) = true ∧ SeqAt.shaped (toD b) = true := by
  simp only [eqOk, Bool.and_eq_true] at h
  exact ⟨h.1.1.1, h.1.1.2, h.1.2, h.2⟩
theorem rd_eq : RdOk (kx X) .eq (rd2 (rEqA (kx X))) := RdOk.of2 rfl (fun H bt h a b x y w Q ok r1 r2 e q => by
  have e : (pEq a b).map W.bl = some w := e
  cases e1 : pEq a b with
  | none => rw [e1] at e; cases e
  | some c =>
    rw [e1] at e
    cases e
    rcases pEq_cases e1 with ⟨x', y', g, s, rfl⟩ | ⟨o, rfl⟩
    · obtain ⟨rfl, rfl⟩ := g _ _ _ _ _ _ r1 r2
      exact .inl ⟨s, q _ _ (post_flat rfl fun _ z => by cases z)⟩
    · obtain ⟨d1, d2, s1, s2⟩ := eqOk_and o
      exact .inr ⟨_, _, r1.dp d1, r2.dp d2, s1, s2, q _ _ (post_flat rfl fun _ z => by cases z)⟩) (two_of (fun a => by cases a <;> rfl) (by decide) (by decide) (fun _ _ => by simp) (by decide) (by decide))
theorem rd_ne : RdOk (kx X) .ne (rd2 (rNeA (kx X))) := RdOk.of2 rfl (fun H bt h a b x y w Q ok r1 r2 e q => by
  have e : ((pEq a b).map fun c => W.bl (!c)) = some w := e
  cases e1 : pEq a b with
  | none => rw [e1] at e; cases e
  | some c =>
    rw [e1] at e
    cases e
    rcases pEq_cases e1 with ⟨x', y', g, s, rfl⟩ | ⟨o, rfl⟩
    · obtain ⟨rfl, rfl⟩ := g _ _ _ _ _ _ r1 r2
      exact .inl ⟨s, q _ _ (post_flat rfl fun _ z => by cases z)⟩
    · obtain ⟨d1, d2, s1, s2⟩ := eqOk_and o
      exact .inr ⟨_, _, r1.dp d1, r2.dp d2, s1, s2, q _ _ (post_flat rfl fun _ z => by cases z)⟩) (two_of (fun a => by cases a <;> rfl) (by decide) (by decide) (fun _ _ => by simp) (by decide) (by decide))
end

/-! ### one argument -/
section
variable {X : Cx}
theorem one_of {p : Prim} (h : ∀ a b, pTwo p a b = none) (h0 : p ≠ .tupd) (h1 : p ≠ .lstd) (h2 : ∀ l u, p ≠ .sl l u) : ∀ ws, primF p ws ≠ none → ∃ a, ws = [a] := by
  intro ws n
  cases p <;> first
    | exact absurd rfl h0
    | exact absurd rfl h1
    | exact absurd rfl (h2 _ _)
    | (match ws, n with
       | [], n => exact absurd rfl n
       | [a], _ => exact ⟨a, rfl⟩
       | [a, b], n => first | exact absurd (h a b) n | exact absurd rfl n
       | _ :: _ :: _ :: _, n => exact absurd rfl n)
theorem rd_neg : RdOk (kx X) .neg (rd1 (L2.rU fun i => .int (-i))) := RdOk.of1 rfl (fun H bt h a x w Q ok r1 e q => by
  have e : pOne .neg a = some w := e
  cases a <;> cases e
  cases r1
  exact ⟨_, rfl, q _ _ (post_flat rfl fun _ z => by cases z)⟩) (one_of (fun a b => by cases a <;> cases b <;> rfl) (by decide) (by decide) (fun _ _ => by simp))
/-- a built-in's reading from the list of its arguments -/
def rA (K : KX) (f : W → Option W) : List V → L2.Hp → VK → Prop := fun vs H Q => ∃ bt h a x w, vs = [x] ∧ HeapOk K H bt h ∧ RepT K H bt h a x ∧ f a = some w ∧ ∀ v H', Post K false H H' bt h w v → Q v H'
theorem rd_one {p : Prim} {r : List V → L2.Hp → VK → Prop} (raw : p.raw = false) (g : ∀ (H : L2.Hp) (bt : Gh) (h : Hp) (a : W) (x : V) (w : W) (Q : VK), HeapOk (kx X) H bt h → RepT (kx X) H bt h a x → pOne p a = some w → (∀ v H', Post (kx X) p.fresh H H' bt h w v → Q v H') → r [x] H Q)
    (n : ∀ ws, primF p ws ≠ none → ∃ a, ws = [a]) (e0 : ∀ a, primF p [a] = pOne p a) : RdOk (kx X) p r := by
  intro H bt h ws vs w Q ok rl e q
  obtain ⟨a, rfl⟩ := n ws (by rw [e]; simp)
  rw [raw] at rl
  obtain ⟨x, rfl, r1⟩ := RepTL.one rl
  exact g H bt h a x w Q ok r1 (by rw [← e0]; exact e) q
def rLenA (K : KX) : List V → L2.Hp → VK → Prop := fun xs H Q => (∃ p ys, xs = [.ref p] ∧ (SqL K H p ys ∨ SqT K H p ys) ∧ Q (.int ys.length) H) ∨ ∃ z, xs = [.str z] ∧ z.length ≤ sizeLine ∧ Q (.int z.length) H
theorem call_lenA : CallR X (.builtin "len") (rLenA (kx X)) := L2.call_len_seq.or L2.call_len_str
theorem rd_len : RdOk (kx X) .len (rLenA (kx X)) := rd_one rfl (fun H bt h a x w Q ok r1 e q => by
  have e : (seqLen a).map (fun n => W.int n) = some w := e
  cases a with
  | lst ws =>
    obtain ⟨a1, vs, rfl, h1, l1⟩ := r1
    cases e
    rw [l1.length] at q
    exact .inl ⟨_, vs, rfl, .inl (.of h1), q _ _ (post_flat rfl fun _ z => by cases z)⟩
  | slst ws =>
    obtain ⟨a1, vs, rfl, h1, l1⟩ := r1
    cases e
    rw [l1.length] at q
    exact .inl ⟨_, vs, rfl, .inl h1.sq, q _ _ (post_flat rfl fun _ z => by cases z)⟩
  | tup ws =>
    obtain ⟨a1, vs, rfl, h1, l1⟩ := r1
    cases e
    rw [l1.length] at q
    exact .inl ⟨_, vs, rfl, .inr h1, q _ _ (post_flat rfl fun _ z => by cases z)⟩
  | str z =>
    cases r1
    simp only [seqLen] at e
    split at e
    · cases e
      exact .inr ⟨_, rfl, okLen_le (by assumption), q _ _ (post_flat rfl fun _ z => by cases z)⟩
    · cases e
  | set _ => exact r1.elim
  | dic _ _ => exact r1.elim
  | _ => cases e) (one_of (fun a b => by cases a <;> cases b <;> rfl) (by decide) (by decide) (fun _ _ => by simp)) (fun _ => rfl)
theorem rd_int1 : RdOk (kx X) .int1 (fun xs H Q => (∃ i, xs = [.int i] ∧ Q (.int i) H) ∨ ∃ k, xs = [.bl k] ∧ Q (.int (if k then 1 else 0)) H) := rd_one rfl (fun H bt h a x w Q ok r1 e q => by
  cases a with
  | int i =>
    cases r1; cases e
    exact .inl ⟨_, rfl, q _ _ (post_flat rfl fun _ z => by cases z)⟩
  | bl i =>
    cases r1; cases e
    exact .inr ⟨_, rfl, q _ _ (post_flat rfl fun _ z => by cases z)⟩
  | _ => cases e) (one_of (fun a b => by cases a <;> cases b <;> rfl) (by decide) (by decide) (fun _ _ => by simp)) (fun _ => rfl)
theorem rd_abs : RdOk (kx X) .abs (fun xs H Q => ∃ i, xs = [.int i] ∧ Q (.int (if i < 0 then -i else i)) H) := rd_one rfl (fun H bt h a x w Q ok r1 e q => by
  cases a with
  | int i =>
    cases r1; cases e
    exact ⟨_, rfl, q _ _ (post_flat rfl fun _ z => by cases z)⟩
  | _ => cases e) (one_of (fun a b => by cases a <;> cases b <;> rfl) (by decide) (by decide) (fun _ _ => by simp)) (fun _ => rfl)
theorem rd_str1 : RdOk (kx X) .str1 (fun xs H Q => ∃ i, xs = [.int i] ∧ i.natAbs.log2 < 1920 ∧ Q (.str (toString i)) H) := rd_one rfl (fun H bt h a x w Q ok r1 e q => by
  cases a with
  | int i =>
    cases r1
    simp only [pOne] at e
    split at e
    · cases e
      exact ⟨_, rfl, by assumption, q _ _ (post_flat rfl fun _ z => by cases z)⟩
    · cases e
  | _ => cases e) (one_of (fun a b => by cases a <;> cases b <;> rfl) (by decide) (by decide) (fun _ _ => by simp)) (fun _ => rfl)
theorem items_seq {K : KX} {H : L2.Hp} {bt : Gh} {h : Hp} {a : W} {x : V} {ws : List W} (r : RepT K H bt h a x) (e : items a = some ws) : ∃ p ys, x = .ref p ∧ (SqL K H p ys ∨ SqT K H p ys) ∧ RepL K H bt h ws ys := by
  cases a with
  | lst us =>
    obtain ⟨a1, vs, rfl, h1, l1⟩ := r
    cases e
    exact ⟨_, vs, rfl, .inl (.of h1), l1⟩
  | slst us =>
    obtain ⟨a1, vs, rfl, h1, l1⟩ := r
    cases e
    exact ⟨_, vs, rfl, .inl h1.sq, l1⟩
  | tup us =>
    obtain ⟨a1, vs, rfl, h1, l1⟩ := r
    cases e
    exact ⟨_, vs, rfl, .inr h1, l1⟩
  | _ => cases e
theorem rd_list1 : RdOk (kx X) .list1 (fun xs H Q => ∃ p ys, xs = [.ref p] ∧ (SqL (kx X) H p ys ∨ SqT (kx X) H p ys) ∧ ∀ l, H l = none → Q (.ref l) (upd H l (.lst ys))) := rd_one rfl (fun H bt h a x w Q ok r1 e q => by
  have e : (items a).map W.lst = some w := e
  cases e1 : items a with
  | none => rw [e1] at e; cases e
  | some ws =>
    rw [e1] at e
    cases e
    obtain ⟨p, ys, rfl, sq, l⟩ := items_seq r1 e1
    exact ⟨p, ys, rfl, sq, fun l' n => q _ _ (post_newL n l)⟩) (one_of (fun a b => by cases a <;> cases b <;> rfl) (by decide) (by decide) (fun _ _ => by simp)) (fun _ => rfl)
theorem rd_tuple1 : RdOk (kx X) .tuple1 (fun xs H Q => ∃ p ys, xs = [.ref p] ∧ ((SqL (kx X) H p ys ∧ ∀ l, H l = none → Q (.ref l) (upd H l (.tup ys))) ∨ (SqT (kx X) H p ys ∧ Q (.ref p) H))) := rd_one rfl (fun H bt h a x w Q ok r1 e q => by
  have e : (items a).map W.tup = some w := e
  cases e1 : items a with
  | none => rw [e1] at e; cases e
  | some ws =>
    rw [e1] at e
    cases e
    obtain ⟨p, ys, rfl, sq, l⟩ := items_seq r1 e1
    rcases sq with sq | sq
    · exact ⟨p, ys, rfl, .inl ⟨sq, fun l' n => q _ _ (post_newT ok n l)⟩⟩
    · exact ⟨p, ys, rfl, .inr ⟨sq, q _ _ (post_flat ⟨p, ys, rfl, sq, l⟩ fun _ z => by cases z)⟩⟩) (one_of (fun a b => by cases a <;> cases b <;> rfl) (by decide) (by decide) (fun _ _ => by simp)) (fun _ => rfl)
theorem allBl_vals {K : KX} {H : L2.Hp} {bt : Gh} {h : Hp} : ∀ {ws : List W} {bs : List Bool} {vs : List V}, allBl ws = some bs → RepL K H bt h ws vs → vs = bs.map V.bl
  | [], bs, vs, e, r => by
    cases e
    exact r
  | w :: ws, bs, vs, e, r => by
    obtain ⟨v, t, rfl, r1, r2⟩ := r
    cases w <;> first | (simp [allBl] at e; done) | skip
    simp only [allBl, Option.map_eq_some_iff] at e
    obtain ⟨bs', e', rfl⟩ := e
    rw [allBl_vals e' r2]
    cases r1
    rfl
theorem allInt_vals {K : KX} {H : L2.Hp} {bt : Gh} {h : Hp} : ∀ {ws : List W} {bs : List Int} {vs : List V}, allInt ws = some bs → RepL K H bt h ws vs → vs = bs.map V.int
  | [], bs, vs, e, r => by
    cases e
    exact r
  | w :: ws, bs, vs, e, r => by
    obtain ⟨v, t, rfl, r1, r2⟩ := r
    cases w <;> first | (simp [allInt] at e; done) | skip
    simp only [allInt, Option.map_eq_some_iff] at e
    obtain ⟨bs', e', rfl⟩ := e
    rw [allInt_vals e' r2]
    cases r1
    rfl
theorem allStr_vals {K : KX} {H : L2.Hp} {bt : Gh} {h : Hp} : ∀ {ws : List W} {bs : List Str} {vs : List V}, allStr ws = some bs → RepL K H bt h ws vs → vs = bs.map V.str
  | [], bs, vs, e, r => by
    cases e
    exact r
  | w :: ws, bs, vs, e, r => by
    obtain ⟨v, t, rfl, r1, r2⟩ := r
    cases w <;> first | (simp [allStr] at e; done) | skip
    simp only [allStr, Option.map_eq_some_iff] at e
    obtain ⟨bs', e', rfl⟩ := e
    rw [allStr_vals e' r2]
    cases r1
    rfl
theorem rd_all1 : RdOk (kx X) .all1 (L2.rAll (kx X)) := rd_one rfl (fun H bt h a x w Q ok r1 e q => by
  cases a <;> first | (cases e; done) | skip
  obtain ⟨a1, vs, rfl, h1, l1⟩ := repT_lst r1
  simp only [pOne, Option.map_eq_some_iff] at e
  obtain ⟨bs, e, rfl⟩ := e
  cases allBl_vals e l1
  exact ⟨a1, bs, rfl, .of h1, q _ _ (post_flat rfl fun _ z => by cases z)⟩) (one_of (fun a b => by cases a <;> cases b <;> rfl) (by decide) (by decide) (fun _ _ => by simp)) (fun _ => rfl)
theorem rd_any1 : RdOk (kx X) .any1 (L2.rAny (kx X)) := rd_one rfl (fun H bt h a x w Q ok r1 e q => by
  cases a <;> first | (cases e; done) | skip
  obtain ⟨a1, vs, rfl, h1, l1⟩ := repT_lst r1
  simp only [pOne, Option.map_eq_some_iff] at e
  obtain ⟨bs, e, rfl⟩ := e
  cases allBl_vals e l1
  exact ⟨a1, bs, rfl, .of h1, q _ _ (post_flat rfl fun _ z => by cases z)⟩) (one_of (fun a b => by cases a <;> cases b <;> rfl) (by decide) (by decide) (fun _ _ => by simp)) (fun _ => rfl)
theorem rd_sum1 : RdOk (kx X) .sum1 (L2.rSum (kx X)) := rd_one rfl (fun H bt h a x w Q ok r1 e q => by
  cases a <;> first | (cases e; done) | skip
  obtain ⟨a1, vs, rfl, h1, l1⟩ := repT_lst r1
  simp only [pOne, Option.map_eq_some_iff] at e
  obtain ⟨bs, e, rfl⟩ := e
  cases allInt_vals e l1
  exact ⟨a1, bs, rfl, .of h1, q _ _ (post_flat rfl fun _ z => by cases z)⟩) (one_of (fun a b => by cases a <;> cases b <;> rfl) (by decide) (by decide) (fun _ _ => by simp)) (fun _ => rfl)
theorem rd_min1 : RdOk (kx X) .min1 (L2.rMin (kx X)) := rd_one rfl (fun H bt h a x w Q ok r1 e q => by
  cases a <;> first | (cases e; done) | skip
  obtain ⟨a1, vs, rfl, h1, l1⟩ := repT_lst r1
  simp only [pOne] at e
  cases e1 : allInt _ with
  | none => rw [e1] at e; cases e
  | some bs =>
    rw [e1] at e
    cases allInt_vals e1 l1
    simp only [Option.bind_some, Option.map_eq_some_iff] at e
    obtain ⟨m, em, rfl⟩ := e
    obtain ⟨m1, m2⟩ := List.min?_eq_some_iff.mp em
    refine ⟨a1, bs, rfl, .of h1, List.length_pos_of_mem m1, fun m' h1' h2' => ?_⟩
    have : m' = m := Int.le_antisymm (h2' m m1) (m2 m' h1')
    subst this
    exact q _ _ (post_flat rfl fun _ z => by cases z)) (one_of (fun a b => by cases a <;> cases b <;> rfl) (by decide) (by decide) (fun _ _ => by simp)) (fun _ => rfl)
theorem rd_max1 : RdOk (kx X) .max1 (L2.rMax (kx X)) := rd_one rfl (fun H bt h a x w Q ok r1 e q => by
  cases a <;> first | (cases e; done) | skip
  obtain ⟨a1, vs, rfl, h1, l1⟩ := repT_lst r1
  simp only [pOne] at e
  cases e1 : allInt _ with
  | none => rw [e1] at e; cases e
  | some bs =>
    rw [e1] at e
    cases allInt_vals e1 l1
    simp only [Option.bind_some, Option.map_eq_some_iff] at e
    obtain ⟨m, em, rfl⟩ := e
    obtain ⟨m1, m2⟩ := List.max?_eq_some_iff.mp em
    refine ⟨a1, bs, rfl, .of h1, List.length_pos_of_mem m1, fun m' h1' h2' => ?_⟩
    have : m' = m := Int.le_antisymm (m2 m' h1') (h2' m m1)
    subst this
    exact q _ _ (post_flat rfl fun _ z => by cases z)) (one_of (fun a b => by cases a <;> cases b <;> rfl) (by decide) (by decide) (fun _ _ => by simp)) (fun _ => rfl)
end
end Ow

/-! S1: set(x), x a list or a tuple, of whatever can be put in one after the other. -/
namespace SetF
open PySem PySem.Spec PyProof.Rows
open L2 (SetTR SetR Got IsT)
section
variable {P : Program} {w : World} {A : Around} {E : Value → Shared → Prop} {s : Shared}
/-- what the set is like when i items are in, and how one more goes in -/
structure Feed (P : Program) (w : World) (A : Around) (S I : Addr) (n : Nat) (Pv : Nat → Value → Prop) (J : Nat → Heap → Prop) : Prop where
  keep : ∀ i h h', J i h → (∀ b o, b ≠ I → h.get? b = some o → h'.get? b = some o) → J i h'
  put : ∀ i v (u : Shared) (Q : Bool → Shared → Prop) (E : Value → Shared → Prop), i < n → Pv i v → J i u.heap →
    (∀ r h' k, J (i + 1) h' → (∀ b, b ≠ S → h'.get? b = u.heap.get? b) → Q r { u with heap := h', toks := u.toks + k }) → wpAny (model P w) A (setAdd S v) Q E u
theorem feed_loop {I : Addr} {fp : List Addr} {G : Array GenState → Array GenState → Prop} {n : Nat} {Pv : Nat → Value → Prop} {St : Nat → Shared → Prop} {R : Result → Shared → Prop}
    (W : WalksS P w A.in1 I fp [I] G n Pv St) {S : Addr} (hS : S ∉ fp) {J : Nat → Heap → Prop} (D : Feed P w A.in1 S I n Pv J) :
    ∀ (k i : Nat) (u : Shared), n - i = k → i ≤ n → St i u → J i u.heap → (∀ u', Moved [S, I] G u u' → J n u'.heap → R (.ok (.ret .none)) u') → codeAny (model P w) A (.builtin "set.update.loop" ⟨[.ref S, .ref I], []⟩) R u := by
  have hI : I ∈ fp := W.sub I (List.mem_singleton.mpr rfl)
  have hSI : S ≠ I := fun e => hS (e ▸ hI)
  have sub1 : ∀ b ∈ [I], b ∈ [S, I] := fun b hb => List.mem_cons_of_mem _ hb
  have stay : ∀ {i : Nat} {u u' : Shared}, Moved [I] G u u' → J i u.heap → J i u'.heap := fun {i u u'} m j =>
    D.keep _ _ _ j fun b o hb e => m.heap b o (fun z => hb (List.mem_singleton.mp z)) e
  intro k
  induction k with
  | zero =>
    intro i u hk hi hst hJ hR
    obtain rfl : i = n := by omega
    refine codeAny_builtin F.entry_set_update_loop ?_
    rw [Around.under_plainId F.plain_set_update_loop _]
    show wpAny _ A.in1 (pyNext (.ref I) >>= _) _ _ u
    exact wpAny_bind (W.done u _ _ hst fun u' m => wpAny_pure (hR u' (m.mono sub1) (stay m hJ)))
  | succ k ih =>
    intro i u hk hi hst hJ hR
    have hlt : i < n := by omega
    refine codeAny_builtin F.entry_set_update_loop ?_
    rw [Around.under_plainId F.plain_set_update_loop _]
    show wpAny _ A.in1 (pyNext (.ref I) >>= _) _ _ u
    refine wpAny_bind (W.item i u _ _ hlt hst fun v u' hP hst' m => ?_)
    show wpAny _ A.in1 (holding [v] (setAdd S v) >>= _) _ _ u'
    refine wpAny_bind (wpAny_holding (D.put i v u' _ _ hlt hP (stay m hJ) fun r h' c hJ' same => ?_))
    refine wpAny_pure ⟨plainId_quiet F.plain_set_update_loop _, ih (i + 1) _ (by omega) hlt (W.frame _ u' _ _ hst' (Nat.le_add_right _ _) fun b hb o e => ?_) hJ' fun u2 m2 hJ2 => hR u2 (Moved.trans W.gtrans ((m.mono sub1).then_heap (Nat.le_add_right _ _) fun b o hb e => ?_) m2) hJ2⟩
    · rw [same b fun z => hS (z ▸ hb)]
      exact e
    · rw [same b fun z => hb (by rw [z]; exact List.mem_cons_self ..)]
      exact e

set_option profiler true
set_option profiler.threshold 2000
set_option maxHeartbeats 8000000 in
/-- set(x), x a list -/
theorem call_list {x : Addr} {items : Array Value} {Q : Value → Shared → Prop} (hh : A.handled = none) (hx : s.heap.IsList x items) {J : Nat → Heap → Prop}
    (h0 : ∀ h1, (∀ b o, s.heap.get? b = some o → h1.get? b = some o) → h1.get? s.heap.objs.size = some { cls := .type "set", dict := none, data := .set #[] 0 (.fresh 0 0 (!w.params.followText "set-order")) } → J 0 h1)
    (D : ∀ A' : Around, A'.units ≤ A.units + 4 → Feed P w A' s.heap.objs.size (s.heap.objs.size + 1) items.size (fun i v => items[i]? = some v) J)
    (hQ : ∀ h1 k, J items.size h1 → (∀ b o, s.heap.get? b = some o → h1.get? b = some o) → Q (.ref s.heap.objs.size) { s with heap := h1, toks := k }) :
    wpAny (model P w) A (call (.type "set") [.ref x]) Q E s := by
  obtain ⟨c, tl, hmro⟩ := F.called_set.mro
  have f1 := F.called_set.made
  have f2 := F.called_set.sub
  refine wpAny_call (codeAny_of_tree ?_)
  show wpAny _ _ (callAny (.type "set") _) _ _ _
  refine wpAny_pure ⟨Code.quiet_builtin _ (by decide +kernel), codeAny_builtin F.entry_type_call ?_⟩
  rw [Around.under_plain (weight_type_call_type "set" [.ref x] []) rfl]
  have f3 := F.called_set.notType
  have f4 := F.called_set.canCreate
  have f5 := F.typeCall_set_1 (.ref x)
  repeat (any_goals (first | assumption | wp_step))
  refine codeAny_mono (L2.code_set_led1 (.ref x) (E := E) (Q₁ := fun v u => v = .ref s.heap.objs.size ∧ u = { s with heap := s.heap.push { cls := .type "set", dict := none, data := .set #[] 0 (.fresh 0 0 (!w.params.followText "set-order")) } }) ⟨rfl, rfl⟩) fun r u hr => ?_
  cases r with
  | error e => exact hr
  | ok fl =>
    cases fl with
    | ret v =>
      obtain ⟨rfl, rfl⟩ := hr
      have a1 : (s.heap.push { cls := .type "set", dict := none, data := .set #[] 0 (.fresh 0 0 (!w.params.followText "set-order")) }).get? s.heap.objs.size = some { cls := .type "set", dict := none, data := .set #[] 0 (.fresh 0 0 (!w.params.followText "set-order")) } := Heap.get?_push_size _ rfl
      have a2 : Shared.TypeIs { s with heap := s.heap.push { cls := .type "set", dict := none, data := .set #[] 0 (.fresh 0 0 (!w.params.followText "set-order")) } } (.ref s.heap.objs.size) "set" := ⟨_, a1, rfl⟩
      have f6 := F.called_set.init.lookup
      have f7 := F.called_set.init.bind (.ref s.heap.objs.size)
      repeat (any_goals (first | assumption | wp_step))
      refine codeAny_mono (codeAny_call_builtin (R := wants (fun r u => r = .none ∧ ∃ h1 k, u = { s with heap := h1, toks := k } ∧ J items.size h1 ∧ ∀ b o, s.heap.get? b = some o → h1.get? b = some o) E) F.called_set.init.plain F.entry_set_init (check_set_init_1 a2 ?_)) fun r2 u2 hr2 => ?_
      · obtain ⟨ox, b1, b2, nx, b3⟩ := hx
        obtain ⟨c1, c2, c3, c4⟩ := ox
        simp only at b2 b3
        subst b2 b3
        have b4 : (s.heap.push { cls := .type "set", dict := none, data := .set #[] 0 (.fresh 0 0 (!w.params.followText "set-order")) }).get? x = some { cls := .type "list", dict := c2, data := .seq items nx, slots := c4 } := Heap.get?_push_of_some _ b1
        have f8 := F.sub_list_set
        have f9 := F.sub_list_frozenset
        have f10 : (Value.type "list" == Value.type "dict") = false := by decide
        have b5 : (s.heap.push { cls := .type "set", dict := none, data := .set #[] 0 (.fresh 0 0 (!w.params.followText "set-order")) }).IsList x items := ⟨_, b4, rfl, nx, rfl⟩
        unfold Builtin.«set.__init__» noKeywords Builtin.Frozenset.updateFrom
        generalize hit : pyIter = PI
        wp_walk
        subst hit
        refine wpAny_pyIter_list b5 ?_
        refine wpAny_bind (wpAny_runValue ?_)
        have z1 : x < s.heap.objs.size := Heap.lt_size b1
        have z2 : (s.heap.push { cls := .type "set", dict := none, data := .set #[] 0 (.fresh 0 0 (!w.params.followText "set-order")) }).objs.size = s.heap.objs.size + 1 := Heap.size_push ..
        have z3 : x ≠ (s.heap.push { cls := .type "set", dict := none, data := .set #[] 0 (.fresh 0 0 (!w.params.followText "set-order")) }).objs.size := by
          rw [z2]
          exact Nat.ne_of_lt (Nat.lt_succ_of_lt z1)
        have z4 : s.heap.objs.size ∉ [(s.heap.push { cls := .type "set", dict := none, data := .set #[] 0 (.fresh 0 0 (!w.params.followText "set-order")) }).objs.size, x] := by
          rw [z2]
          simp only [List.mem_cons, List.not_mem_nil, or_false, not_or]
          exact ⟨Nat.ne_of_lt (Nat.lt_succ_self _), Nat.ne_of_gt z1⟩
        have d3 := D A.in1.in1.in1 (by show A.units + 1 + 1 + 1 ≤ _; omega)
        rw [← z2] at d3
        refine feed_loop ((Walks.list (A := A.in1.in1.in1) (by simp [hh]) _ x z3 items).toS) z4 d3 items.size 0 _ (by omega) (Nat.zero_le _) ?q1 ?q2 ?q3
        case q1 => exact ⟨⟨_, Heap.get?_push_size _ rfl, rfl, rfl⟩, b5.push _⟩
        case q2 => exact h0 _ (fun b o e => Heap.get?_push_of_some _ (Heap.get?_push_of_some _ e)) (Heap.get?_push_of_some _ a1)
        intro u3 m hJ
        obtain ⟨g1, g2, g3, g4, g5⟩ := u3
        obtain rfl : g2 = s.gens := m.gens
        obtain rfl : g3 = s.drawn := m.drawn
        obtain rfl : g5 = s.os := m.os
        show wpAny _ _ _ _ _ _
        refine wpAny_pure ?_
        show wpAny _ _ (ret Value.none) _ _ _
        refine wpAny_pure ⟨rfl, g1, g4, rfl, hJ, fun b o e => m.heap b o (fun hb => ?_) (Heap.get?_push_of_some _ (Heap.get?_push_of_some _ e))⟩
        have := Heap.lt_size e
        rw [z2] at hb
        simp only [List.mem_cons, List.not_mem_nil, or_false] at hb
        rcases hb with rfl | rfl
        · exact absurd this (Nat.lt_irrefl _)
        · exact absurd this (Nat.not_lt_of_le (Nat.le_succ _))
      · cases r2 with
        | error e => exact hr2
        | ok fl2 =>
          cases fl2 with
          | ret v =>
            obtain ⟨rfl, h1, k, rfl, hJ, hk⟩ := hr2
            repeat (any_goals (first | assumption | wp_step))
            exact hQ h1 k hJ hk
          | _ => exact hr2.elim
    | _ => exact hr.elim


set_option maxHeartbeats 8000000 in
/-- set(x), x a tuple -/
theorem call_tuple {x : Addr} {items : Array Value} {Q : Value → Shared → Prop} (hh : A.handled = none) (hx : s.heap.IsTuple x items) {J : Nat → Heap → Prop}
    (h0 : ∀ h1, (∀ b o, s.heap.get? b = some o → h1.get? b = some o) → h1.get? s.heap.objs.size = some { cls := .type "set", dict := none, data := .set #[] 0 (.fresh 0 0 (!w.params.followText "set-order")) } → J 0 h1)
    (D : ∀ A' : Around, A'.units ≤ A.units + 4 → Feed P w A' s.heap.objs.size (s.heap.objs.size + 1) items.size (fun i v => items[i]? = some v) J)
    (hQ : ∀ h1 k, J items.size h1 → (∀ b o, s.heap.get? b = some o → h1.get? b = some o) → Q (.ref s.heap.objs.size) { s with heap := h1, toks := k }) :
    wpAny (model P w) A (call (.type "set") [.ref x]) Q E s := by
  obtain ⟨c, tl, hmro⟩ := F.called_set.mro
  have f1 := F.called_set.made
  have f2 := F.called_set.sub
  refine wpAny_call (codeAny_of_tree ?_)
  show wpAny _ _ (callAny (.type "set") _) _ _ _
  refine wpAny_pure ⟨Code.quiet_builtin _ (by decide +kernel), codeAny_builtin F.entry_type_call ?_⟩
  rw [Around.under_plain (weight_type_call_type "set" [.ref x] []) rfl]
  have f3 := F.called_set.notType
  have f4 := F.called_set.canCreate
  have f5 := F.typeCall_set_1 (.ref x)
  repeat (any_goals (first | assumption | wp_step))
  refine codeAny_mono (L2.code_set_led1 (.ref x) (E := E) (Q₁ := fun v u => v = .ref s.heap.objs.size ∧ u = { s with heap := s.heap.push { cls := .type "set", dict := none, data := .set #[] 0 (.fresh 0 0 (!w.params.followText "set-order")) } }) ⟨rfl, rfl⟩) fun r u hr => ?_
  cases r with
  | error e => exact hr
  | ok fl =>
    cases fl with
    | ret v =>
      obtain ⟨rfl, rfl⟩ := hr
      have a1 : (s.heap.push { cls := .type "set", dict := none, data := .set #[] 0 (.fresh 0 0 (!w.params.followText "set-order")) }).get? s.heap.objs.size = some { cls := .type "set", dict := none, data := .set #[] 0 (.fresh 0 0 (!w.params.followText "set-order")) } := Heap.get?_push_size _ rfl
      have a2 : Shared.TypeIs { s with heap := s.heap.push { cls := .type "set", dict := none, data := .set #[] 0 (.fresh 0 0 (!w.params.followText "set-order")) } } (.ref s.heap.objs.size) "set" := ⟨_, a1, rfl⟩
      have f6 := F.called_set.init.lookup
      have f7 := F.called_set.init.bind (.ref s.heap.objs.size)
      repeat (any_goals (first | assumption | wp_step))
      refine codeAny_mono (codeAny_call_builtin (R := wants (fun r u => r = .none ∧ ∃ h1 k, u = { s with heap := h1, toks := k } ∧ J items.size h1 ∧ ∀ b o, s.heap.get? b = some o → h1.get? b = some o) E) F.called_set.init.plain F.entry_set_init (check_set_init_1 a2 ?_)) fun r2 u2 hr2 => ?_
      · obtain ⟨ox, b1, b2, nx, b3⟩ := hx
        obtain ⟨c1, c2, c3, c4⟩ := ox
        simp only at b2 b3
        subst b2 b3
        have b4 : (s.heap.push { cls := .type "set", dict := none, data := .set #[] 0 (.fresh 0 0 (!w.params.followText "set-order")) }).get? x = some { cls := .type "tuple", dict := c2, data := .seq items nx, slots := c4 } := Heap.get?_push_of_some _ b1
        have f8 := F.sub_tuple_set
        have f9 := F.sub_tuple_frozenset
        have f10 : (Value.type "tuple" == Value.type "dict") = false := by decide
        have b5 : (s.heap.push { cls := .type "set", dict := none, data := .set #[] 0 (.fresh 0 0 (!w.params.followText "set-order")) }).IsTuple x items := ⟨_, b4, rfl, nx, rfl⟩
        unfold Builtin.«set.__init__» noKeywords Builtin.Frozenset.updateFrom
        generalize hit : pyIter = PI
        wp_walk
        subst hit
        refine wpAny_pyIter_tuple b5 ?_
        refine wpAny_bind (wpAny_runValue ?_)
        have z1 : x < s.heap.objs.size := Heap.lt_size b1
        have z2 : (s.heap.push { cls := .type "set", dict := none, data := .set #[] 0 (.fresh 0 0 (!w.params.followText "set-order")) }).objs.size = s.heap.objs.size + 1 := Heap.size_push ..
        have z3 : x ≠ (s.heap.push { cls := .type "set", dict := none, data := .set #[] 0 (.fresh 0 0 (!w.params.followText "set-order")) }).objs.size := by
          rw [z2]
          exact Nat.ne_of_lt (Nat.lt_succ_of_lt z1)
        have z4 : s.heap.objs.size ∉ [(s.heap.push { cls := .type "set", dict := none, data := .set #[] 0 (.fresh 0 0 (!w.params.followText "set-order")) }).objs.size, x] := by
          rw [z2]
          simp only [List.mem_cons, List.not_mem_nil, or_false, not_or]
          exact ⟨Nat.ne_of_lt (Nat.lt_succ_self _), Nat.ne_of_gt z1⟩
        have d3 := D A.in1.in1.in1 (by show A.units + 1 + 1 + 1 ≤ _; omega)
        rw [← z2] at d3
        refine feed_loop ((Walks.tuple (A := A.in1.in1.in1) (by simp [hh]) _ x z3 items).toS) z4 d3 items.size 0 _ (by omega) (Nat.zero_le _) ?q1 ?q2 ?q3
        case q1 => exact ⟨⟨_, Heap.get?_push_size _ rfl, rfl, rfl⟩, b5.push _⟩
        case q2 => exact h0 _ (fun b o e => Heap.get?_push_of_some _ (Heap.get?_push_of_some _ e)) (Heap.get?_push_of_some _ a1)
        intro u3 m hJ
        obtain ⟨g1, g2, g3, g4, g5⟩ := u3
        obtain rfl : g2 = s.gens := m.gens
        obtain rfl : g3 = s.drawn := m.drawn
        obtain rfl : g5 = s.os := m.os
        show wpAny _ _ _ _ _ _
        refine wpAny_pure ?_
        show wpAny _ _ (ret Value.none) _ _ _
        refine wpAny_pure ⟨rfl, g1, g4, rfl, hJ, fun b o e => m.heap b o (fun hb => ?_) (Heap.get?_push_of_some _ (Heap.get?_push_of_some _ e))⟩
        have := Heap.lt_size e
        rw [z2] at hb
        simp only [List.mem_cons, List.not_mem_nil, or_false] at hb
        rcases hb with rfl | rfl
        · exact absurd this (Nat.lt_irrefl _)
        · exact absurd this (Nat.not_lt_of_le (Nat.le_succ _))
      · cases r2 with
        | error e => exact hr2
        | ok fl2 =>
          cases fl2 with
          | ret v =>
            obtain ⟨rfl, h1, k, rfl, hJ, hk⟩ := hr2
            repeat (any_goals (first | assumption | wp_step))
            exact hQ h1 k hJ hk
          | _ => exact hr2.elim
    | _ => exact hr.elim
end
end SetF

/-! S3: sets of rows and of whole numbers: made of lists and tuples, sorted, counted. -/
namespace SetF
open PySem PySem.Spec PyProof.Rows
open L2 (SetTR SetR Got IsT isT_keep add_at setTR_fresh setR_add_hashed setR_new_at)
section
variable {P : Program} {w : World} {A : Around} {E : Value → Shared → Prop} {s : Shared}
/-- rows are put in -/
theorem feed_rows {items : Array Value} (ks : List (Addr × List Int)) (hi : items.toList = ks.map fun p => Value.ref p.1) (hk : ∀ p ∈ ks, IsT P w s.heap p.2 p.1) (hfew : ks.length < 64) {A' : Around} (hu : A'.units < cLine) :
    Feed P w A' s.heap.objs.size (s.heap.objs.size + 1) items.size (fun i v => items[i]? = some v) fun i h => (∃ L es ep t, SetTR P w h s.heap.objs.size L es ep t ∧ Got ks i L) ∧ ∀ b o, s.heap.get? b = some o → h.get? b = some o where
  keep := fun i h h' ⟨⟨L, es, ep, t, R, g⟩, k⟩ hb => by
    have k' : ∀ b o, s.heap.get? b = some o → h'.get? b = some o := fun b o e => hb b o (fun z => by
      have := Heap.lt_size e
      rw [z] at this
      exact absurd this (Nat.not_lt_of_le (Nat.le_succ _))) (k b o e)
    refine ⟨⟨L, es, ep, t, R.keep (fun o e => hb _ o (Nat.ne_of_lt (Nat.lt_succ_self _)) e) fun p hp => isT_keep (hk p (List.mem_of_mem_take (g.sub p hp))) k', g⟩, k'⟩
  put := fun i v u Q E hlt hv ⟨⟨L, es, ep, t, R, g⟩, k⟩ hQ => by
    have hv' : items.toList[i]? = some v := by rw [Array.getElem?_toList]; exact hv
    rw [hi, List.getElem?_map] at hv'
    obtain ⟨p, hp, rfl⟩ := Option.map_eq_some_iff.mp hv'
    have hx : IsT P w u.heap p.2 p.1 := isT_keep (hk p (List.mem_of_getElem? hp)) k
    unfold setAdd
    refine wpAny_holding ?_
    refine wpAny_bind (wpAny_pyHash_tuple hu hx ?_)
    have hgl := g.len
    have hil : i < ks.length := (List.getElem?_eq_some_iff.mp hp).1
    refine add_at (s := { u with toks := u.toks + (p.2.length + 1) }) R hx hu (by omega) fun r h' L' es' ep' t' same R' c1 c2 => ?_
    have k' : ∀ b o, s.heap.get? b = some o → h'.get? b = some o := fun b o e => (same.2 b (fun z => by
      have := Heap.lt_size e
      rw [z] at this
      exact absurd this (Nat.lt_irrefl _))).trans (k b o e)
    refine hQ r h' (p.2.length + 1) ⟨⟨L', es', ep', t', R', ?_⟩, k'⟩ fun b hb => same.2 b hb
    rcases Classical.em (p.2 ∈ L.map (·.2)) with c | c
    · rw [c1 c]
      exact g.same hp c
    · exact g.more hp (c2 c)
theorem ints_get : ∀ {vs : List Value} {ns : List Int} {i : Nat} {v : Value}, IntsAre vs ns → vs[i]? = some v → ∃ z t, ns[i]? = some z ∧ v = .int z t
  | _, _, i, v, .nil, e => by simp at e
  | _, _, 0, v, .cons k t r, e => ⟨k, t, rfl, by simpa using e.symm⟩
  | _, _, i + 1, v, .cons k t r, e => by
    obtain ⟨z, t2, h1, h2⟩ := ints_get r (i := i) (by simpa using e)
    exact ⟨z, t2, by simpa using h1, h2⟩
/-- whole numbers are put in -/
theorem feed_ints {items : Array Value} {ns : List Int} (hi : IntsAre items.toList ns) (hb : ns.length + 1 < scanBound) {A' : Around} :
    Feed P w A' s.heap.objs.size (s.heap.objs.size + 1) items.size (fun i v => items[i]? = some v) fun i h => ∃ c, c ≤ i ∧ SetR w h s.heap.objs.size (fun j => decide (j ∈ ns.take i)) c where
  keep := fun i h h' ⟨c, hc, R⟩ hk => ⟨c, hc, R.at fun o e => hk _ o (Nat.ne_of_lt (Nat.lt_succ_self _)) e⟩
  put := fun i v u Q E hlt hv ⟨c, hc, R⟩ hQ => by
    have hn : items.size = ns.length := by rw [← Array.length_toList]; exact hi.length
    obtain ⟨z, t, hz, rfl⟩ : ∃ z t, ns[i]? = some z ∧ v = .int z t := by
      have hv' : items.toList[i]? = some v := by rw [Array.getElem?_toList]; exact hv
      exact ints_get hi hv'
    unfold setAdd
    refine wpAny_holding ?_
    refine wpAny_bind ((intKind P w).pyHash (k := z) (intKind_is _ _ _ _) ?_)
    refine setR_add_hashed (s := { u with toks := u.toks + 1 }) R (by omega) fun h' same R' => ?_
    refine hQ _ h' 1 ⟨if decide (z ∈ ns.take i) = true then c else c + 1, by split <;> omega, R'.congr fun j => ?_⟩ fun b hb => same.2 b hb
    rw [List.take_add_one, hz]
    simp [List.mem_append]

/-! ### sorted -/
/-- the order of tuples of whole numbers -/
theorem le_rows : W.dataLe false (fun r : List Int => PyData.tuple (r.map .int)) = rowLe := by
  funext p q
  show (!W.dataLt (.tuple (q.map .int)) (.tuple (p.map .int))) = _
  rw [W.dataLt_tuple]
  show (!W.rowLt (q.map .int) (p.map .int)) = _
  rw [W.dataLt_ints]
  unfold rowLe
  by_cases h : q < p
  · have h' : ¬ p ≤ q := fun z => List.not_le.mpr h z
    simp [h, h']
  · have h' : p ≤ q := List.not_lt.mp h
    simp [h, h']
/-- a row as data -/
def encR (q : Addr × List Int) : PyData := .tuple (q.2.map .int)
theorem reads_ints {h : Heap} : ∀ {k : List Int} {vs : List Value}, ItemsAre (intKind P w) k vs → ReadsAll h vs (k.map .int) []
  | [], _, .nil => .nil
  | n :: k, _, .cons h1 r => by
    obtain ⟨t, rfl⟩ := Value.isInt_shape h1
    exact ReadsAll.cons (as := []) (bs := []) (.int n t) (reads_ints r)
theorem reads_row {h : Heap} {q : Addr × List Int} (x : IsT P w h q.2 q.1) : Reads h (.ref q.1) (encR q) [] := by
  obtain ⟨o, items, n, ho, hc, hd, hi⟩ := x
  exact .tuple ho hc hd (reads_ints hi)
theorem alike_rows (p q : Addr × List Int) : W.alike (encR p) (encR q) = true := by
  show W.alike (.tuple (p.2.map .int)) (.tuple (q.2.map .int)) = true
  rw [W.alike]
  exact W.alike_ints _ _
theorem depth_row (q : Addr × List Int) : (encR q).depth ≤ 1 := by
  show PyData.depth (.tuple (q.2.map .int)) ≤ 1
  rw [PyData.depth, W.depth_ints]
  omega
theorem each_rows {h : Heap} : ∀ (L : List (Addr × List Int)), (∀ q ∈ L, IsT P w h q.2 q.1) → W.EachIs (fun v (q : Addr × List Int) => v = Value.ref q.1 ∧ q ∈ L ∧ ∃ as, Reads h v (encR q) as) (L.map fun q => Value.ref q.1) L
  | [], _ => .nil
  | q :: L, hq => by
    refine .cons ⟨rfl, List.mem_cons_self .., [], reads_row (hq q (List.mem_cons_self ..))⟩ ?_
    exact (each_rows L fun r hr => hq r (List.mem_cons_of_mem _ hr)).mono fun v r ⟨h1, h2, h3⟩ => ⟨h1, List.mem_cons_of_mem _ h2, h3⟩
theorem each_refs {vs : List Value} {L : List (Addr × List Int)} (e : W.EachIs (fun v (q : Addr × List Int) => v = Value.ref q.1) vs L) : vs = L.map fun q => Value.ref q.1 := by
  induction e with
  | nil => rfl
  | cons h _ ih => rw [List.map_cons, ← ih, h]
/-- values that are rows can be sorted -/
theorem sorts_rows {L : List (Addr × List Int)} (hL : ∀ q ∈ L, IsT P w s.heap q.2 q.1) (hs : (∀ q ∈ L, q.2 ≠ []) ∨ L.length ≤ 1) (hu : A.units + 2 < cLine) : W.SortsAt P w A s (W.dataKind s.heap (L.map encR)) (L.map fun q => Value.ref q.1) := by
  have e : W.EachIs (fun v d => ∃ as, Reads s.heap v d as) (L.map fun q => Value.ref q.1) (L.map encR) := W.each_map (R := fun v d => ∃ as, Reads s.heap v d as) encR ((each_rows L hL).mono fun v q z => z.2.2)
  have al : W.AllAlike (L.map encR) := .of alike_rows
  by_cases hne : ∀ q ∈ L, q.2 ≠ []
  · refine W.SortsAt.data e al (.inl fun d hd => ?_) fun d hd => ?_
    · obtain ⟨q, hq, rfl⟩ := List.mem_map.mp hd
      cases hk : q.2 with
      | nil => exact absurd hk (hne q hq)
      | cons x r => exact ⟨.int x, r.map .int, by unfold encR; rw [hk]; rfl⟩
    · obtain ⟨q, hq, rfl⟩ := List.mem_map.mp hd
      have := depth_row q
      omega
  · have hlen : L.length ≤ 1 := hs.resolve_left hne
    obtain ⟨q, rfl⟩ : ∃ q, L = [q] := by
      cases L with
      | nil => exact absurd (fun q hq => by cases hq) hne
      | cons q r =>
        cases r with
        | nil => exact ⟨q, rfl⟩
        | cons _ _ => simp at hlen
    have hq0 : q.2 = [] := Classical.byContradiction fun z => hne fun r hr => by rw [List.mem_singleton.mp hr]; exact z
    refine ⟨fun v hv => ?_, tuples' true, ?_, fun h2 => absurd h2 (by simp)⟩
    · obtain ⟨d, hd, as, r⟩ := e.left v hv
      exact ⟨_, W.dataKind_some al hd r⟩
    · intro E x y a b Q ha hb hQ
      obtain ⟨d, as, hd, ra, rfl⟩ := W.dataKind_inv ha
      obtain ⟨d', as', hd', rb, rfl⟩ := W.dataKind_inv hb
      have e1 : encR q = .tuple [] := by unfold encR; rw [hq0]; rfl
      have hdt : d = .tuple [] := by
        obtain ⟨r, hr, rfl⟩ := List.mem_map.mp hd
        rw [List.mem_singleton.mp hr, e1]
      have hdt' : d' = .tuple [] := by
        obtain ⟨r, hr, rfl⟩ := List.mem_map.mp hd'
        rw [List.mem_singleton.mp hr, e1]
      subst hdt hdt'
      have hQ' : Q (W.dataLt (.tuple []) (.tuple [])) s := hQ
      rw [W.dataLt_tuple] at hQ'
      cases ra with
      | @tuple l o xs n _ _ h1 h2 h3 h4 =>
        cases rb with
        | @tuple l' o' xs' n' _ _ k1 k2 k3 k4 =>
          have n1 : xs.size = 0 := by simpa using SeqAt.ReadsAll.length _ _ _ h4
          have d0 : PyData.depthAll [] = 0 := by simp [PyData.depthAll]
          have n2 : xs'.size = 0 := by simpa using SeqAt.ReadsAll.length _ _ _ k4
          exact W.kat_lt h1 h3 k1 k3 (W.katLex_alike [] [] 0 _ _ _ _ h4 k4 rfl (by rw [d0]; omega) (fun _ _ x r t ex => nomatch ex) (by rw [n1, n2]; rfl) hQ')

/-- sorted(s), s a set of rows -/
theorem sorted_rows {a : Addr} {L : List (Addr × List Int)} {es : Array (Int × Value)} {ep : Nat} {t : SetTable} {Q : Value → Shared → Prop} (R : SetTR P w s.heap a L es ep t) (hh : A.handled = none) (hu : A.units + 8 < cLine) (hs : (∀ q ∈ L, q.2 ≠ []) ∨ L.length ≤ 1)
    (hQ : ∀ s' p (out : Array Value) (c : Nat) (L' : List (Addr × List Int)), (∀ b o, s.heap.get? b = some o → s'.heap.get? b = some o) → s'.gens = s.gens → s'.os = s.os → s.heap.objs.size ≤ p → s'.heap.get? p = some (seqObj "list" out c) →
      out.toList = L'.map (fun q => Value.ref q.1) → L'.Perm L → L'.map (·.2) = sortRows (L.map (·.2)) → Q (.ref p) s') : wpAny (model P w) A (call (.builtin "sorted") [.ref a]) Q E s := by
  obtain ⟨o, ho, hex, hd⟩ := R.ob
  have hfew := R.few
  have hsize := R.size
  refine Calls.call_function_entry kind_sorted plain_sorted entry_sorted (args_sorted1 _) ?_
  unfold Builtin.«sorted»
  refine wpAny_bind (m := checkCount "sorted" 1 1 _) (wpAny_pure ?_)
  refine wpAny_bind (L2.collect_set (A := A.in1) hh ⟨o, ho, hex.1, hd⟩ R.fits (by unfold scanBound; omega) R.tab.ris R.led fun s1 vs k1 hz g1 o1 pm => ?_)
  -- the values are the rows' addresses in some order
  have he : es.toList.map (·.2) = L.map fun q => Value.ref q.1 := by
    rw [R.rows]
    show (L.map _).map _ = _
    rw [List.map_map]
    rfl
  rw [he] at pm
  have inj : ∀ q ∈ L, ∀ r ∈ L, q.1 = r.1 → q = r := fun q hq r hr e => by
    have x1 := R.tup q hq
    rw [e] at x1
    exact Prod.ext e (x1.inj (R.tup r hr))
  obtain ⟨L1, eL, pL⟩ : ∃ L1 : List (Addr × List Int), vs = L1.map (fun q => Value.ref q.1) ∧ L1.Perm L := by
    have build : ∀ us : List Value, (∀ v ∈ us, ∃ q ∈ L, v = Value.ref q.1) → ∃ L1 : List (Addr × List Int), us = L1.map (fun q => Value.ref q.1) ∧ ∀ q ∈ L1, q ∈ L := by
      intro us
      induction us with
      | nil => exact fun _ => ⟨[], rfl, fun q hq => by cases hq⟩
      | cons v us ih =>
        intro hv
        obtain ⟨q, hq, e⟩ := hv v (List.mem_cons_self ..)
        obtain ⟨L1, e1, h1⟩ := ih fun u m => hv u (List.mem_cons_of_mem _ m)
        exact ⟨q :: L1, by rw [List.map_cons, ← e1, e], fun r hr => (List.mem_cons.mp hr).elim (fun z => z ▸ hq) (h1 r)⟩
    obtain ⟨L1, e1, h1⟩ := build vs fun v hv => by
      obtain ⟨q, hq, e⟩ := List.mem_map.mp (pm.mem_iff.mp hv)
      exact ⟨q, hq, e.symm⟩
    refine ⟨L1, e1, ?_⟩
    have nL : L.Nodup := L2.nodup_of_map R.nd
    have nref : (L.map fun q => Value.ref q.1).Nodup := List.pairwise_map.mpr (List.Pairwise.imp_of_mem (fun {q r} hq hr hne e => by
      injection e with e
      exact hne (inj q hq r hr e)) nL)
    rw [e1] at pm
    refine perm_of_same (L2.nodup_of_map (pm.nodup_iff.mpr nref)) nL fun q => ⟨h1 q, fun hq => ?_⟩
    obtain ⟨r, hr, e⟩ := List.mem_map.mp (pm.mem_iff.mpr (List.mem_map.mpr ⟨q, hq, rfl⟩))
    injection e with e
    exact inj r (h1 r hr) q hq e ▸ hr
  subst eL
  have hl1 : L1.length < 64 := by rw [pL.length_eq]; exact hfew
  refine wpAny_bind (wpAny_newList ?_ (by rw [List.length_map, sizeLine_eq]; omega))
  generalize hvs : L1.map (fun q => Value.ref q.1) = vs at *
  have hlist : (s1.heap.push (seqObj "list" vs.toArray 0)).get? s1.heap.objs.size = some (seqObj "list" vs.toArray 0) := Heap.get?_push_size _ rfl
  have tup : ∀ h', (∀ b o, s1.heap.get? b = some o → h'.get? b = some o) → ∀ q ∈ L1, IsT P w h' q.2 q.1 := fun h' hk q hq => isT_keep (R.tup q (pL.mem_iff.mp hq)) fun b u e => hk b u (k1 b u e)
  have er : W.EachIs (fun v (q : Addr × List Int) => v = Value.ref q.1) vs L1 := by
    rw [← hvs]
    exact (each_rows L1 (tup _ fun b u e => e)).mono fun v q z => z.1
  have hs1 : (∀ q ∈ L1, q.2 ≠ []) ∨ L1.length ≤ 1 := hs.imp (fun h q hq => h q (pL.mem_iff.mp hq)) fun h => by rw [pL.length_eq]; exact h
  have hsort := sorts_rows (P := P) (w := w) (A := A.in1.in1) (s := { s1 with heap := W.sortingHeap (s1.heap.push (seqObj "list" vs.toArray 0)) s1.heap.objs.size vs }) (tup _ fun b u e => by
    have hlt := Heap.lt_size e
    exact W.sortingHeap_old (Nat.ne_of_lt hlt) (Heap.get?_push_of_some _ e)) hs1 (by show A.units + 1 + 1 + 2 < cLine; omega)
  rw [hvs] at hsort
  refine wpAny_bind (wpAny_holding (wpAny_call_entry (s := { s1 with heap := s1.heap.push (seqObj "list" vs.toArray 0) }) slot_list_sort ⟨_, hlist, rfl⟩ entry_list_sort (W.list_sort_vals hlist hsort (by rw [← hvs, List.length_map, sizeLine_eq]; omega) ⟨.none, rfl, ?_⟩) (args_list_sort _)))
  obtain ⟨c, hc⟩ := sortedHeap_at (vs := vs) (out := (W.sortVals (W.dataKind (W.sortingHeap (s1.heap.push (seqObj "list" vs.toArray 0)) s1.heap.objs.size vs) (L1.map encR)) false vs vs).toArray) hlist
  have eo := W.sortVals_data (h' := W.sortingHeap (s1.heap.push (seqObj "list" vs.toArray 0)) s1.heap.objs.size vs) (R := fun v (q : Addr × List Int) => v = Value.ref q.1) (enc := encR) (bs := L1) false er (by
    rw [← hvs]
    exact (each_rows L1 (tup _ fun b u e => by
      have hlt := Heap.lt_size e
      exact W.sortingHeap_old (Nat.ne_of_lt hlt) (Heap.get?_push_of_some _ e))).mono fun v q z => z.2.2) (.of alike_rows)
  have e2 := each_refs eo
  have pL2 : (L1.mergeSort (W.dataLe false encR)).Perm L := (List.mergeSort_perm _ _).trans pL
  refine wpAny_pure ⟨_, rfl, hQ _ s1.heap.objs.size _ c (L1.mergeSort (W.dataLe false encR)) (fun b u e => ?_) g1 o1 hz hc (by rw [← e2]) pL2 ?_⟩
  · have q := k1 b u e
    have hlt := Heap.lt_size q
    show (sortedHeap (s1.heap.push (seqObj "list" vs.toArray 0)) s1.heap.objs.size vs _).get? b = some u
    rw [sortedHeap_old (Nat.ne_of_lt hlt) (by rw [size_push']; exact Nat.lt_succ_of_lt hlt)]
    exact Heap.get?_push_of_some _ q
  · have e3 : (L1.mergeSort (W.dataLe false encR)).map (·.2) = (L1.map (·.2)).mergeSort rowLe := List.map_mergeSort fun p _ q _ => by
      have := congrFun (congrFun le_rows p.2) q.2
      exact this
    refine sortRows_eq ?_ ((pL2.map (·.2)).nodup_iff.mpr R.nd) fun r => (pL2.map (·.2)).mem_iff
    rw [e3]
    exact List.pairwise_mergeSort rowLe_trans rowLe_total _
end
end SetF

/-! S4: the layer's rules for sets of rows and of whole numbers. -/
namespace SetF
open PySem PySem.Spec PyProof.Rows
open L2 (V SqL SqT Hp HO VK Cx CallR Inv Vals RelV upd SetTO SetO setTO_new setO_new SetTR SetR IsT)
section
variable {X : Cx}
theorem vals_rows : ∀ {ks : List (Addr × List Int)} {us : List Value}, Vals (ks.map fun p => V.ref p.1) us → us = ks.map fun p => Value.ref p.1 := L2.refs_of_vals
/-- set(x), x a list or a tuple of rows -/
def rSetRows (K : PySem.W.Frag) (P : Program) (w : World) : List V → Hp → VK → Prop := fun xs H Q => ∃ (l : Addr) (ks : List (Addr × List Int)), xs = [V.ref l] ∧ (SqL K H l (ks.map fun p => V.ref p.1) ∨ SqT K H l (ks.map fun p => V.ref p.1)) ∧ (∀ p ∈ ks, SqT K H p.1 (p.2.map V.int)) ∧ ks.length < 64 ∧
  ∀ a L, H a = none → (∀ p ∈ L, p ∈ ks) → (∀ p ∈ ks, p.2 ∈ L.map (·.2)) → (L.map (·.2)).Nodup → Q (.ref a) (upd H a (SetTO P w a L))
theorem cr_setRows (hc : X.calm = true) (hu : X.A.units + 64 < cLine) : CallR X (.type "set") (rSetRows X.K X.prog X.w) := by
  intro pins s σ H xs us Q I r h
  obtain ⟨l, ks, rfl, hl, hk, hf, q⟩ := h
  rw [Vals.ref1 r]
  have fresh : H s.heap.objs.size = none := I.hok.fresh (Nat.le_refl _)
  have kk : ∀ p ∈ ks, IsT X.prog X.w s.heap p.2 p.1 := fun p hp => I.isT (hk p hp)
  have fin : ∀ (items : Array Value), items.size = ks.length → ∀ (h1 : Heap) (k : Nat), ((∃ L es ep t, SetTR X.prog X.w h1 s.heap.objs.size L es ep t ∧ L2.Got ks items.size L) ∧ ∀ b o, s.heap.get? b = some o → h1.get? b = some o) → (∀ b o, s.heap.get? b = some o → h1.get? b = some o) →
      ∃ v H', Inv X pins σ H' { s with heap := h1, toks := k } ∧ RelV v (.ref s.heap.objs.size) ∧ Q v H' := fun items hsz h1 k hJ hk1 => by
    obtain ⟨⟨L, es, ep, t, R, g⟩, _⟩ := hJ
    rw [hsz] at g
    refine ⟨.ref s.heap.objs.size, upd H s.heap.objs.size (SetTO X.prog X.w s.heap.objs.size L), I.laid (t' := k) hk1 (Nat.le_refl _) (setTO_new R.t0), rfl, q _ L fresh (fun p hp => List.mem_of_mem_take (g.sub p hp)) (fun p hp => g.all p ?_) R.nd⟩
    rw [List.take_length]
    exact hp
  rcases hl with hl | hl
  · obtain ⟨its, rv, pl, hz⟩ := I.list hl
    have hi : its.toArray.toList = ks.map fun p => Value.ref p.1 := by simpa using vals_rows rv
    have hsz : its.toArray.size = ks.length := by
      have := congrArg List.length hi
      simpa using this
    exact call_list (I.ok.hd hc) pl.isList (fun h1 hk1 hn => ⟨⟨[], #[], 0, _, L2.setTR_fresh hn, L2.Got.zero ks⟩, hk1⟩) (fun A' hA => feed_rows ks hi kk hf (by omega)) fun h1 k hJ hk1 => fin _ hsz h1 k hJ hk1
  · obtain ⟨its, rv, pt, hz⟩ := I.tuple hl
    have hi : its.toArray.toList = ks.map fun p => Value.ref p.1 := by simpa using vals_rows rv
    have hsz : its.toArray.size = ks.length := by
      have := congrArg List.length hi
      simpa using this
    exact call_tuple (I.ok.hd hc) pt (fun h1 hk1 hn => ⟨⟨[], #[], 0, _, L2.setTR_fresh hn, L2.Got.zero ks⟩, hk1⟩) (fun A' hA => feed_rows ks hi kk hf (by omega)) fun h1 k hJ hk1 => fin _ hsz h1 k hJ hk1
/-- set(x), x a list or a tuple of whole numbers -/
def rSetInts (K : PySem.W.Frag) (w : World) : List V → Hp → VK → Prop := fun xs H Q => ∃ (l : Addr) (ns : List Int), xs = [V.ref l] ∧ (SqL K H l (ns.map V.int) ∨ SqT K H l (ns.map V.int)) ∧ ns.length < 4000 ∧
  ∀ a c, H a = none → c ≤ ns.length → Q (.ref a) (upd H a (SetO w a (fun j => decide (j ∈ ns)) c))
theorem cr_setInts (hc : X.calm = true) : CallR X (.type "set") (rSetInts X.K X.w) := by
  intro pins s σ H xs us Q I r h
  obtain ⟨l, ns, rfl, hl, hn, q⟩ := h
  rw [Vals.ref1 r]
  have fresh : H s.heap.objs.size = none := I.hok.fresh (Nat.le_refl _)
  have big : ns.length + 1 < scanBound := by unfold scanBound; omega
  have fin : ∀ (items : Array Value), items.size = ns.length → ∀ (h1 : Heap) (k : Nat), (∃ c, c ≤ items.size ∧ SetR X.w h1 s.heap.objs.size (fun j => decide (j ∈ ns.take items.size)) c) → (∀ b o, s.heap.get? b = some o → h1.get? b = some o) →
      ∃ v H', Inv X pins σ H' { s with heap := h1, toks := k } ∧ RelV v (.ref s.heap.objs.size) ∧ Q v H' := fun items hsz h1 k hJ hk1 => by
    obtain ⟨c, hcl, R⟩ := hJ
    rw [hsz] at hcl
    rw [hsz, List.take_length] at R
    exact ⟨.ref s.heap.objs.size, upd H s.heap.objs.size (SetO X.w s.heap.objs.size (fun j => decide (j ∈ ns)) c), I.laid (t' := k) hk1 (Nat.le_refl _) (setO_new R), rfl, q _ c fresh hcl⟩
  rcases hl with hl | hl
  · obtain ⟨its, rv, pl, hz⟩ := I.list hl
    have hi : IntsAre its.toArray.toList ns := by simpa using rv.ints
    have hsz : its.toArray.size = ns.length := by rw [← Array.length_toList]; exact hi.length
    exact call_list (I.ok.hd hc) pl.isList (fun h1 hk1 hn => ⟨0, Nat.le_refl _, L2.setR_new_at hn⟩) (fun A' hA => feed_ints hi big) fun h1 k hJ hk1 => fin _ hsz h1 k hJ hk1
  · obtain ⟨its, rv, pt, hz⟩ := I.tuple hl
    have hi : IntsAre its.toArray.toList ns := by simpa using rv.ints
    have hsz : its.toArray.size = ns.length := by rw [← Array.length_toList]; exact hi.length
    exact call_tuple (I.ok.hd hc) pt (fun h1 hk1 hn => ⟨0, Nat.le_refl _, L2.setR_new_at hn⟩) (fun A' hA => feed_ints hi big) fun h1 k hJ hk1 => fin _ hsz h1 k hJ hk1
/-- sorted(s), s a set of rows -/
def rSortRows (K : PySem.W.Frag) (P : Program) (w : World) : List V → Hp → VK → Prop := fun vs H Q => ∃ (a : Addr) (L : List (Addr × List Int)), vs = [V.ref a] ∧ H a = some (SetTO P w a L) ∧ (∀ p ∈ L, SqT K H p.1 (p.2.map V.int)) ∧ ((∀ q ∈ L, q.2 ≠ []) ∨ L.length ≤ 1) ∧
  ∀ (L' : List (Addr × List Int)) (p : Addr), L'.map (·.2) = sortRows (L.map (·.2)) → (∀ q ∈ L', q ∈ L) → H p = none → Q (.ref p) (upd H p (.lst (L'.map fun q => V.ref q.1)))
theorem cr_sortRows (hc : X.calm = true) (hu : X.A.units + 64 < cLine) : CallR X (.builtin "sorted") (rSortRows X.K X.prog X.w) := by
  intro pins s σ H vs us Q I r h
  obtain ⟨a, L, rfl, ha, hk, hs, q⟩ := h
  have R0 : L2.SetT0 X.prog X.w s.heap a L := (I.hok a _ ha).1
  obtain ⟨es, ep, t, R⟩ := R0.full fun p hp => I.isT (hk p hp)
  rw [Vals.ref1 r]
  refine sorted_rows R (I.ok.hd hc) (by omega) hs fun s' p out c L' k g o hp hg hout pm eq => ?_
  have few := R.few
  have hlen : (L'.map fun q => V.ref q.1).length ≤ sizeLine := by rw [List.length_map, pm.length_eq, sizeLine_eq]; omega
  have hn : H p = none := I.hok.fresh hp
  have hv : Vals (L'.map fun q => V.ref q.1) out.toList := by rw [hout]; exact L2.vals_of_refs L'
  have J : Inv X pins σ (upd H p (.lst (L'.map fun q => V.ref q.1))) { s with heap := s'.heap, gens := s'.gens, drawn := s'.drawn, toks := s'.toks } :=
    I.call (ch := []) (L2.Un.laid k hp hn) (I.hok.laid k hp ⟨hlen, out.toList, c, hv, hg⟩) (by rw [g]; exact I.bare) (fun _ z => nomatch z)
  have e : s' = { s with heap := s'.heap, gens := s'.gens, drawn := s'.drawn, toks := s'.toks } := by
    cases s'
    cases s
    cases o
    rfl
  rw [e]
  exact ⟨.ref p, _, J, rfl, q L' p eq (fun r hr => pm.mem_iff.mp hr) hn⟩
/-- len(s), s a set of rows -/
def rLenRows (P : Program) (w : World) : List V → Hp → VK → Prop := fun vs H Q => ∃ (a : Addr) (L : List (Addr × List Int)), vs = [V.ref a] ∧ H a = some (SetTO P w a L) ∧ Q (.int L.length) H
theorem cr_lenRows : CallR X (.builtin "len") (rLenRows X.prog X.w) := by
  intro pins s σ H vs us Q I r h
  obtain ⟨a, L, rfl, ha, q⟩ := h
  have R0 : L2.SetT0 X.prog X.w s.heap a L := (I.hok a _ ha).1
  obtain ⟨es, ep, t, ⟨o, ho, hex, hd⟩, hr, tab, nd, pl, led, room, few⟩ := R0.ex
  have hsz : es.size = L.length := by
    have := congrArg List.length hr
    unfold L2.rowsOf at this
    rwa [Array.length_toList, List.length_map] at this
  have hf : t.fits es.size = true := by
    have h1 := tab.sz
    rw [List.length_map] at h1
    unfold SetTable.fits SetTable.fill
    rw [tab.dm, Bool.and_eq_true, beq_iff_eq, decide_eq_true_eq]
    show t.place.size = es.size ∧ t.place.size + 0 ≤ t.mask
    omega
  rw [Vals.ref1 r]
  refine call_len_set ho hex hd hf (by omega) ⟨.int L.length, H, I.tok _, ⟨_, by rw [hsz]⟩, q⟩
def rLenInts (w : World) : List V → Hp → VK → Prop := fun vs H Q => ∃ (a : Addr) (S : Int → Bool) (n : Nat), vs = [V.ref a] ∧ H a = some (SetO w a S n) ∧ ∀ ns : List Int, ns.Nodup → (∀ k, k ∈ ns ↔ S k = true) → ns.length = n → Q (.int n) H
theorem cr_lenInts : CallR X (.builtin "len") (rLenInts X.w) := by
  intro pins s σ H vs us Q I r h
  obtain ⟨a, S, n, rfl, ha, q⟩ := h
  obtain ⟨o, es, ep, t, ho, hex, hd, g, nd, hm, hb, hf, hn, hr, hl⟩ := L2.setO_get I ha
  rw [Vals.ref1 r]
  have hb2 : es.size < 2 ^ 62 := by unfold scanBound at hb; omega
  refine call_len_set ho hex hd hf (by omega) ⟨.int n, H, I.tok _, ⟨_, by rw [hn]⟩, q (es.toList.map L2.keyOf) nd (fun k => (hm k).symm) (by rw [List.length_map, Array.length_toList, hn])⟩
end
end SetF

/-! S5: sorted(x), x a list or a tuple of rows or of whole numbers; a tuple times 0 or 1. -/
namespace SetF
open PySem PySem.Spec PyProof.Rows
open L2 (V SqL SqT Hp HO VK Cx CallR Inv Vals RelV upd SetTO SetO IsT isT_keep)
section
variable {P : Program} {w : World} {A : Around} {E : Value → Shared → Prop} {s : Shared}
theorem collect_tup {l : Addr} {vs : List Value} {Q : List Value → Shared → Prop} (hl : s.heap.IsTuple l vs.toArray) (hz : vs.length ≤ sizeLine)
    (h : Q vs { s with heap := (s.heap.push (seqObj "list" #[] 0)).update s.heap.objs.size (Obj.mapSeq (· ++ vs.toArray)) }) : wpAny (model P w) A (collect (.ref l)) Q E s := by
  obtain ⟨o, ho, hc, n, hd⟩ := id hl
  unfold collect
  refine wpAny_bind (wpAny_runValue (codeAny_builtin entry_proto_collect' ?_))
  show wpAny _ _ (do again (.builtin "list.__iadd__" ⟨[← newList [], .ref l], []⟩)) _ _ s
  refine wpAny_bind (wpAny_newList (wpAny_pure ⟨Code.quiet_builtin _ (by decide +kernel), codeAny_builtin entry_list_iadd' ?_⟩))
  show wpAny _ _ (Builtin.List.listExtendWith (.ref s.heap.objs.size) (.ref l) (.ref s.heap.objs.size)) _ _ { s with heap := s.heap.push (seqObj "list" #[] 0) }
  unfold Builtin.List.listExtendWith
  have g1 : (s.heap.push (seqObj "list" #[] 0)).get? l = some o := Heap.get?_push_of_some _ ho
  have g2 : (s.heap.push (seqObj "list" #[] 0)).get? s.heap.objs.size = some (seqObj "list" #[] 0) := Heap.get?_push_size _ rfl
  refine wpAny_bind (wpAny_typeOf (T := "tuple") ⟨o, g1, hc⟩ ?_)
  rw [if_pos (by rw [show (Value.type "tuple" == Value.type "tuple") = true from rfl, Bool.or_true])]
  refine wpAny_bind (listItems_at g1 hd (wpAny_bind (listItems_at (xs := #[]) (n := 0) g2 rfl ?_)))
  rw [if_neg (by simp)]
  refine wpAny_bind (listUpdate_at (xs := #[]) (n := 0) g2 rfl (wpAny_pure ?_) (Nat.zero_le _) (by show (#[] ++ vs.toArray).size ≤ sizeLine + 1; simp only [Array.size_append, List.size_toArray, List.length_nil]; omega))
  show wpAny (model P w) A (do
      let o ← load s.heap.objs.size
      match o.data with
      | .seq xs _ => pure xs.toList
      | _ => unsupported "internal:collect") Q E { s with heap := (s.heap.push (seqObj "list" #[] 0)).update s.heap.objs.size (Obj.mapSeq (· ++ vs.toArray)) }
  refine wpAny_bind (wpAny_load (get?_update_seq g2 _) ?_)
  show wpAny _ _ (pure ((#[] : Array Value) ++ vs.toArray).toList) Q E _
  rw [show ((#[] : Array Value) ++ vs.toArray).toList = vs by simp]
  exact wpAny_pure h
theorem sorted_seq {l : Addr} {vs : List Value} {κ : PyProof.Rows.KeyKind} {Q : Value → Shared → Prop} (hl : s.heap.IsList l vs.toArray ∨ s.heap.IsTuple l vs.toArray) (S : W.SortsAt P w A.in1.in1 { s with heap := W.sortingHeap (W.copyHeap s.heap vs) (s.heap.objs.size + 1) vs } κ vs) (hz : vs.length ≤ sizeLine)
    (h : Q (.ref (s.heap.objs.size + 1)) { s with heap := sortedAll s.heap vs (W.sortVals κ false vs vs).toArray }) : wpAny (model P w) A (call (.builtin "sorted") [.ref l]) Q E s := by
  rcases hl with hl | hl
  · exact W.sorted_vals hl S hz h
  · refine Calls.call_function_entry kind_sorted plain_sorted entry_sorted (args_sorted1 _) ?_
    unfold Builtin.«sorted»
    refine wpAny_bind (m := checkCount "sorted" 1 1 _) (wpAny_pure ?_)
    refine wpAny_bind (collect_tup hl hz (wpAny_bind (wpAny_newList ?_ hz)))
    have hsz : ((s.heap.push (seqObj "list" #[] 0)).update s.heap.objs.size (Obj.mapSeq (· ++ vs.toArray))).objs.size = s.heap.objs.size + 1 := by
      rw [Heap.size_update, size_push']
    show wpAny _ _ _ _ _ { s with heap := W.copyHeap s.heap vs }
    rw [hsz]
    refine wpAny_bind (wpAny_holding (wpAny_call_entry (s := { s with heap := W.copyHeap s.heap vs }) slot_list_sort ⟨_, W.copyHeap_at s.heap vs, rfl⟩ entry_list_sort (W.list_sort_vals (s := { s with heap := W.copyHeap s.heap vs }) (W.copyHeap_at s.heap vs) S hz ⟨.none, rfl, ?_⟩) (args_list_sort _)))
    exact wpAny_pure ⟨_, rfl, h⟩
end
section
variable {X : Cx}
/-- sorted(x), x a list or a tuple of rows -/
def rSortL (K : PySem.W.Frag) : List V → Hp → VK → Prop := fun vs H Q => ∃ (l : Addr) (ks : List (Addr × List Int)), vs = [V.ref l] ∧ (SqL K H l (ks.map fun p => V.ref p.1) ∨ SqT K H l (ks.map fun p => V.ref p.1)) ∧ (∀ p ∈ ks, SqT K H p.1 (p.2.map V.int)) ∧ ((∀ q ∈ ks, q.2 ≠ []) ∨ ks.length ≤ 1) ∧
  ∀ (L' : List (Addr × List Int)) (p : Addr), L'.Perm ks → L'.map (·.2) = (ks.map (·.2)).mergeSort rowLe → H p = none → Q (.ref p) (upd H p (.lst (L'.map fun q => V.ref q.1)))
theorem cr_sortL (hu : X.A.units + 64 < cLine) : CallR X (.builtin "sorted") (rSortL X.K) := by
  intro pins s σ H vs us Q I r h
  obtain ⟨l, ks, rfl, hl, hk, hs, q⟩ := h
  rw [Vals.ref1 r]
  have kk : ∀ p ∈ ks, IsT X.prog X.w s.heap p.2 p.1 := fun p hp => I.isT (hk p hp)
  obtain ⟨hz, hl2⟩ : ks.length ≤ sizeLine ∧ (s.heap.IsList l (ks.map fun p => Value.ref p.1).toArray ∨ s.heap.IsTuple l (ks.map fun p => Value.ref p.1).toArray) := by
    rcases hl with hl | hl
    · obtain ⟨its, rv, pl, hz⟩ := I.list hl
      have e := L2.refs_of_vals rv
      subst e
      exact ⟨by simpa using hz, .inl pl.isList⟩
    · obtain ⟨its, rv, pt, hz⟩ := I.tuple hl
      have e := L2.refs_of_vals rv
      subst e
      exact ⟨by simpa using hz, .inr pt⟩
  generalize hvs : ks.map (fun p => Value.ref p.1) = vs at *
  have hlen : vs.length = ks.length := by rw [← hvs, List.length_map]
  have tup : ∀ h', (∀ b o, s.heap.get? b = some o → h'.get? b = some o) → ∀ q ∈ ks, IsT X.prog X.w h' q.2 q.1 := fun h' hk q hq => isT_keep (kk q hq) hk
  have S := sorts_rows (A := X.A.in1.in1) (s := { s with heap := W.sortingHeap (W.copyHeap s.heap vs) (s.heap.objs.size + 1) vs }) (tup _ fun b u e => W.sorting_copy_old e) hs (by show X.A.units + 1 + 1 + 2 < cLine; omega)
  rw [hvs] at S
  refine sorted_seq hl2 S (by rw [hlen]; exact hz) ?_
  have er : W.EachIs (fun v (q : Addr × List Int) => v = Value.ref q.1) vs ks := by
    rw [← hvs]
    exact (each_rows ks (tup _ fun b u e => e)).mono fun v q z => z.1
  have eo := W.sortVals_data (h' := W.sortingHeap (W.copyHeap s.heap vs) (s.heap.objs.size + 1) vs) (R := fun v (q : Addr × List Int) => v = Value.ref q.1) (enc := encR) (bs := ks) false er (by
    rw [← hvs]
    exact (each_rows ks (tup _ fun b u e => by rw [hvs]; exact W.sorting_copy_old e)).mono fun v q z => z.2.2) (.of alike_rows)
  have e2 := each_refs eo
  generalize W.sortVals _ false vs vs = out at e2 ⊢
  have pL := List.mergeSort_perm ks (W.dataLe false encR)
  have e3 : (ks.mergeSort (W.dataLe false encR)).map (·.2) = (ks.map (·.2)).mergeSort rowLe := List.map_mergeSort fun p _ q _ => congrFun (congrFun le_rows p.2) q.2
  generalize ks.mergeSort (W.dataLe false encR) = L' at e2 pL e3
  obtain ⟨c, hc⟩ := sortedAll_at s.heap vs out.toArray
  have hlen2 : (L'.map fun q => V.ref q.1).length ≤ sizeLine := by rw [List.length_map, pL.length_eq]; exact hz
  have hv : Vals (L'.map fun q => V.ref q.1) out := by rw [e2]; exact L2.vals_of_refs L'
  exact ⟨.ref _, upd H (s.heap.objs.size + 1) (.lst (L'.map fun q => V.ref q.1)), I.laid (t' := s.toks) (fun _ _ => sortedAll_old) (Nat.le_succ _) ⟨hlen2, out, c, hv, by simpa using hc⟩, rfl, q L' _ pL e3 (I.hok.fresh (Nat.le_succ _))⟩
/-- sorted(t), t a tuple of whole numbers -/
def rSortTI (K : PySem.W.Frag) : List V → Hp → VK → Prop := fun vs H Q => ∃ (l : Addr) (ns : List Int), vs = [V.ref l] ∧ SqT K H l (ns.map V.int) ∧ ∀ p : Addr, H p = none → Q (.ref p) (upd H p (.lst ((ns.mergeSort fun a b => decide (a ≤ b)).map V.int)))
theorem each_ints {h : Heap} : ∀ {vs : List Value} {ns : List Int}, IntsAre vs ns → W.EachIs (fun v (n : Int) => (∃ t, v = .int n t) ∧ ∃ as, Reads h v (.int n) as) vs ns
  | _, _, .nil => .nil
  | _, _, .cons k t r => .cons ⟨⟨t, rfl⟩, [], .int k t⟩ (each_ints r)
theorem ints_each {vs : List Value} {ns : List Int} (e : W.EachIs (fun v (n : Int) => ∃ t, v = .int n t) vs ns) : IntsAre vs ns := by
  induction e with
  | nil => exact .nil
  | cons h _ ih =>
    obtain ⟨t, rfl⟩ := h
    exact .cons _ t ih
theorem cr_sortTI (hu : X.A.units + 64 < cLine) : CallR X (.builtin "sorted") (rSortTI X.K) := by
  intro pins s σ H vs us Q I r h
  obtain ⟨l, ns, rfl, hl, q⟩ := h
  rw [Vals.ref1 r]
  obtain ⟨its, rv, pt, hz⟩ := I.tuple hl
  have hi : IntsAre its ns := rv.ints
  have hlen : its.length = ns.length := hi.length
  have al : W.AllAlike (ns.map PyData.int) := .of fun a b => rfl
  have er : ∀ h', W.EachIs (fun v d => ∃ as, Reads h' v d as) its (ns.map PyData.int) := fun h' => W.each_map (R := fun v d => ∃ as, Reads h' v d as) PyData.int ((each_ints hi).mono fun v n z => z.2)
  have S := W.SortsAt.data (prog := X.prog) (w := X.w) (A := X.A.in1.in1) (s := { s with heap := W.sortingHeap (W.copyHeap s.heap its) (s.heap.objs.size + 1) its }) (er _) al (.others fun n => ⟨nofun, fun xs => nofun⟩) (fun d hd => by
    obtain ⟨n, _, rfl⟩ := List.mem_map.mp hd
    show X.A.units + 1 + 1 + PyData.depth (.int n) < cLine
    have : PyData.depth (.int n) = 0 := by simp [PyData.depth]
    omega)
  have hz2 : its.length ≤ sizeLine := by rw [hlen]; simpa using hz
  refine sorted_seq (.inr pt) S hz2 ?_
  have eo := W.sortVals_data (h' := W.sortingHeap (W.copyHeap s.heap its) (s.heap.objs.size + 1) its) (R := fun v (n : Int) => ∃ t, v = .int n t) (enc := PyData.int) (bs := ns) false ((each_ints (h := s.heap) hi).mono fun v n z => z.1) ((each_ints hi).mono fun v n z => z.2) al
  have e3 : W.dataLe false PyData.int = fun a b : Int => decide (a ≤ b) := W.dataLe_int (fun n : Int => n)
  rw [e3] at eo
  have e2 := ints_each eo
  generalize W.sortVals _ false its its = out at e2 ⊢
  obtain ⟨c, hc⟩ := sortedAll_at s.heap its out.toArray
  have hlen2 : ((ns.mergeSort fun a b => decide (a ≤ b)).map V.int).length ≤ sizeLine := by rw [List.length_map, List.length_mergeSort, ← hlen]; exact hz2
  exact ⟨.ref _, upd H (s.heap.objs.size + 1) (.lst ((ns.mergeSort fun a b => decide (a ≤ b)).map V.int)), I.laid (t' := s.toks) (fun _ _ => sortedAll_old) (Nat.le_succ _) ⟨hlen2, out, c, L2.vals_of_ints e2, by simpa using hc⟩, rfl, q _ (I.hok.fresh (Nat.le_succ _))⟩
/-- a tuple times 1, or times none -/
def rRep1 (K : PySem.W.Frag) : L2.R2 := fun x y H Q => ∃ l xs, x = .ref l ∧ SqT K H l xs ∧ ((y = .int 1 ∧ Q x H) ∨ (∃ k, y = .int k ∧ -1000 ≤ k ∧ k ≤ 0 ∧ xs ≠ [] ∧ ∀ p, H p = none → Q (.ref p) (upd H p (.tup []))))
theorem mul_one (l : Addr) (items : Array Value) (n : Nat) (dd : Option Addr) (sl : Array (Option Value)) (u : Tok) :
    Meets (Builtin.«tuple.__mul__» ⟨[.ref l, .int 1 u], []⟩) (fun _ R s => s.heap.get? l = some { cls := .type "tuple", dict := dd, data := .seq items n, slots := sl } ∧ R (.ok (.ret (.ref l))) s) :=
  .of_wp fun prog w A R s h => by
    obtain ⟨hp, g, d, tk, os⟩ := s
    obtain ⟨hl, h⟩ := h
    have f1 := AutoSeq1.idx_int
    have c0 : ((decide ((1 : Int) < -(2 ^ 63)) || decide ((1 : Int) ≥ 2 ^ 63)) : Bool) = false := by decide
    wp_walk using wpAny_loadPart' hl
    exact ⟨_, rfl, h⟩
theorem mul_none (l : Addr) (items : Array Value) (n : Nat) (dd : Option Addr) (sl : Array (Option Value)) (k : Int) (u : Tok) (c0 : (decide (k < -(2 ^ 63)) || decide (k ≥ 2 ^ 63)) = false) (c1 : (items.isEmpty || k == 1) = false) (c2 : (decide (k ≤ 0) || items.isEmpty) = true) :
    Meets (Builtin.«tuple.__mul__» ⟨[.ref l, .int k u], []⟩) (fun _ R s => s.heap.get? l = some { cls := .type "tuple", dict := dd, data := .seq items n, slots := sl } ∧ R (.ok (.ret (.ref s.heap.objs.size))) { s with heap := s.heap.push { cls := .type "tuple", data := .seq #[] }, toks := s.toks }) :=
  .of_wp fun prog w A R s h => by
    obtain ⟨hp, g, d, tk, os⟩ := s
    obtain ⟨hl, h⟩ := h
    have f1 := AutoSeq1.idx_int
    wp_walk using wpAny_loadPart' hl
    repeat (first
      | (refine wpAny_ite_false (decide_eq_false (by rw [c0]; exact Bool.false_ne_true)) ?_; wp_walk using wpAny_loadPart' hl)
      | (refine wpAny_ite_false (decide_eq_false (by rw [c1]; exact Bool.false_ne_true)) ?_; wp_walk using wpAny_loadPart' hl)
      | (refine wpAny_ite_true (decide_eq_true c2) ?_; wp_walk using wpAny_loadPart' hl))
    exact ⟨_, rfl, h⟩
theorem op_rep1 : L2.OpR X (binaryOp .Mult) (rRep1 X.K) := by
  intro pins s σ H x y v u Q I rx ry h
  obtain ⟨l, xs, rfl, hT, h⟩ := h
  cases rx
  obtain ⟨its, r, ⟨⟨cls, dd, data, sl⟩, ho, hc, n, hd⟩, hs⟩ := I.tuple hT
  simp only at hc hd
  subst hc hd
  rcases h with ⟨rfl, q⟩ | ⟨k, rfl, h1, h2, hne, q⟩
  · obtain ⟨t, rfl⟩ := ry
    refine wpAny_binaryOp_repeat_ref (T := "tuple") (U := "int") (by decide) ⟨_, ho, rfl⟩ (fun s' => typeIs_int s' 1 t) L2.noFill_tuple_mul F.fills_int_mul F.slot_int_rmul L2.repeat_tuple F.slot_int_index.lookup
      (call_meets F.slot_int_rmul (typeIs_int s 1 t) F.entry_int_rmul (F.args_int_rmul_2 _ _) (L2.int_rmul_tuple 1 t l its.toArray n dd sl)
        ⟨ho, rfl, ⟨_, ho, rfl⟩, call_meets F.slot_tuple_mul ⟨_, ho, rfl⟩ F.entry_tuple_mul (F.args_tuple_mul_2 _ _) (mul_one l its.toArray n dd sl t) ⟨ho, ?_⟩⟩)
    exact ⟨.ref l, H, I, rfl, q⟩
  · obtain ⟨t, rfl⟩ := ry
    have hn : its ≠ [] := fun e => hne (by
      have := r.length
      rw [e] at this
      exact List.eq_nil_of_length_eq_zero this)
    have hi : its.toArray.isEmpty = false := by
      cases its with
      | nil => exact absurd rfl hn
      | cons a b => rfl
    have c0 : (decide (k < -(2 ^ 63)) || decide (k ≥ 2 ^ 63)) = false := by
      rw [decide_eq_false (by omega), decide_eq_false (by omega)] <;> rfl
    have c1 : (its.toArray.isEmpty || k == 1) = false := by
      rw [hi, Bool.false_or]
      exact beq_eq_false_iff_ne.mpr (by omega)
    have c2 : (decide (k ≤ 0) || its.toArray.isEmpty) = true := by
      rw [decide_eq_true h2, Bool.true_or]
    refine wpAny_binaryOp_repeat_ref (T := "tuple") (U := "int") (by decide) ⟨_, ho, rfl⟩ (fun s' => typeIs_int s' k t) L2.noFill_tuple_mul F.fills_int_mul F.slot_int_rmul L2.repeat_tuple F.slot_int_index.lookup
      (call_meets F.slot_int_rmul (typeIs_int s k t) F.entry_int_rmul (F.args_int_rmul_2 _ _) (L2.int_rmul_tuple k t l its.toArray n dd sl)
        ⟨ho, rfl, ⟨_, ho, rfl⟩, call_meets F.slot_tuple_mul ⟨_, ho, rfl⟩ F.entry_tuple_mul (F.args_tuple_mul_2 _ _) (mul_none l its.toArray n dd sl k t c0 c1 c2) ⟨ho, ?_⟩⟩)
    exact ⟨.ref s.heap.objs.size, _, I.laid (t' := s.toks) (o := .tup []) (fun b ob q => Heap.get?_push_of_some _ q) (Nat.le_refl _) ⟨Nat.zero_le _, [], .nil, IsTup.new _ _⟩, rfl, q _ (I.hok.fresh (Nat.le_refl _))⟩
end
end SetF

/-! Ow4b: more primitives. -/
namespace Ow
open PySem PySem.Spec PyProof.Rows
open L2 (V SqL SqT Rd HO upd upd_same upd_ne TE TT TA TS VK Cx PE PT PA PS PSs WX OpR UnR CallR R2 Room)

section
variable {K : KX} {H : L2.Hp} {bt : Gh} {h : Hp}
theorem RepL.rep {ws : List W} {vs : List V} (r : RepL K H bt h ws vs) : ∀ k : Nat, RepL K H bt h (List.replicate k ws).flatten (List.replicate k vs).flatten
  | 0 => rfl
  | k + 1 => by
    rw [List.replicate_succ, List.replicate_succ, List.flatten_cons, List.flatten_cons]
    exact r.append (RepL.rep r k)
theorem RepL.atI {ws : List W} {vs : List V} {i : Int} {w : W} (r : RepL K H bt h ws vs) (e : L2.atI ws i = some w) : ∃ v, L2.atI vs i = some v ∧ Rep K H bt h w v := by
  unfold L2.atI at e ⊢
  rw [← r.length]
  cases q : L2.ixN ws.length i with
  | none => rw [q] at e; cases e
  | some j =>
    rw [q] at e
    exact r.get e
theorem RepL.cut' {ws : List W} {vs : List V} (lo hi : Option Int) (r : RepL K H bt h ws vs) : RepL K H bt h (cutW ws lo hi) (L2.cutV vs lo hi) := by
  unfold cutW L2.cutV
  rw [← r.length]
  exact (r.drop _).take _
end

section
variable {X : Cx}
def rMulA (K : KX) : R2 := fun x y H Q => ((L2.rI L2.CMul (fun i j => .int (i * j)) x y H Q ∨ L2.rRepT K x y H Q) ∨ L2.rRep x y H Q) ∨ SetF.rRep1 K x y H Q
theorem op_mulA : OpR X (binaryOp .Mult) (rMulA (kx X)) := ((L2.op_mul.or L2.op_repT).or L2.op_rep).or SetF.op_rep1
theorem rd_mul : RdOk (kx X) .mul (rd2 (rMulA (kx X))) := RdOk.of2 rfl (fun H bt h a b x y w Q ok r1 r2 e q => by
  have e : pMul a b = some w := e
  cases a <;> cases b <;> first
    | cases e
    | skip
  · cases r1; cases r2
    simp only [pMul] at e
    split at e
    · cases e
      rename_i c
      simp only [small64, Bool.or_eq_true, decide_eq_true_eq] at c
      exact .inl (.inl (.inl ⟨_, _, rfl, rfl, c, q _ _ (post_flat rfl fun _ z => by cases z)⟩))
    · cases e
  · obtain ⟨a1, xs, rfl, h1, l1⟩ := repT_tup r1
    cases r2
    simp only [pMul] at e
    split at e
    · cases e
      rename_i c
      simp only [Bool.and_eq_true, Bool.not_eq_true', decide_eq_true_eq, List.isEmpty_eq_false_iff] at c
      have hl := l1.length
      rename_i us k
      have hne : xs ≠ [] := fun z => c.1 (by
        subst z
        exact List.length_eq_zero_iff.mp hl)
      by_cases h2 : 2 ≤ k
      · exact .inl (.inl (.inr ⟨a1, k, xs, rfl, rfl, h1, hne, h2, c.2.2.1, by have := c.2.2.2; omega, fun p n => q _ _ (post_newT ok n (l1.rep _))⟩))
      · by_cases h3 : k = 1
        · subst h3
          refine .inr ⟨a1, xs, rfl, h1, .inl ⟨rfl, q _ _ (post_flat ?_ fun _ z => by cases z)⟩⟩
          have e1 : (List.replicate (Int.toNat 1) us).flatten = us := by simp
          rw [e1]
          exact ⟨a1, xs, rfl, h1, l1⟩
        · have e1 : (List.replicate k.toNat us).flatten = [] := by
            rw [show k.toNat = 0 by omega]
            rfl
          rw [e1] at q
          exact .inr ⟨a1, xs, rfl, h1, .inr ⟨k, rfl, c.2.1, by omega, hne, fun p n => q _ _ (post_newT ok n (vs := []) rfl)⟩⟩
    · cases e
  · obtain ⟨a1, xs, rfl, h1, l1⟩ := repT_lst r1
    cases r2
    simp only [pMul] at e
    split at e
    · cases e
      rename_i c
      have c := of_decide_eq_true c
      have hl := l1.length
      exact .inl (.inr ⟨a1, _, xs, rfl, rfl, h1, c.2.1, c.2.2, by rw [← hl]; exact c.1, fun p n => q _ _ (post_newL n (l1.rep _))⟩)
    · cases e) (two_of (fun a => by cases a <;> rfl) (by decide) (by decide) (fun _ _ => by simp) (by decide) (by decide))

/-! is None -/
theorem isNon_rep {K : KX} {H : L2.Hp} {bt : Gh} {h : Hp} {w : W} {v : V} (r : Rep K H bt h w v) : isNon w = decide (v = .non) := by
  cases w with
  | non => cases r; rfl
  | bl _ => cases r; rfl
  | int _ => cases r; rfl
  | str _ => cases r; rfl
  | tup _ => obtain ⟨_, _, rfl, _⟩ := r; rfl
  | lst _ => obtain ⟨_, _, rfl, _⟩ := r; rfl
  | slst _ => obtain ⟨_, _, rfl, _⟩ := r; rfl
  | ref _ => obtain ⟨_, rfl⟩ := r; rfl
  | ty _ => cases r; rfl
  | set _ => exact r.elim
  | dic _ _ => exact r.elim
  | cls _ => exact r.elim
  | exc _ _ => exact r.elim
def rdIsN (f : Bool → Bool) : List V → L2.Hp → VK → Prop := rd1 fun x H Q => Q (.bl (f (decide (x = .non)))) H
theorem raw_one {p : Prim} {g : Bool → Bool} (raw : p.raw = true) (fr : p.fresh = false) (e0 : ∀ ws w, primF p ws = some w → ∃ a, ws = [a] ∧ w = .bl (g (isNon a))) : RdOk (kx X) p (rdIsN g) := by
  intro H bt h ws vs w Q ok rl e q
  obtain ⟨a, rfl, rfl⟩ := e0 ws w e
  rw [raw] at rl
  obtain ⟨x, t, rfl, r1, e⟩ := rl
  cases (show t = [] from e)
  rw [isNon_rep r1] at q
  exact q _ _ (post_flat rfl fun _ z => by cases z)
theorem rd_isN : RdOk (kx X) .isN (rdIsN id) := raw_one rfl rfl fun ws w e => by
  match ws, e with
  | [a], e => cases e; exact ⟨a, rfl, rfl⟩
theorem rd_notN : RdOk (kx X) .notN (rdIsN not) := raw_one rfl rfl fun ws w e => by
  match ws, e with
  | [a], e => cases e; exact ⟨a, rfl, rfl⟩
theorem pe_isN {a : Expr} {ts : List TE} {j pos pos' : _} (h : PL X [a] ts) (hm : behindInMarks .Is (.Constant .none j pos') = false) : PE X (.Compare a [.Is] [.Constant .none j pos'] pos) (tP ts (rdIsN id)) := by
  obtain ⟨ta, rfl, ha⟩ := h.one
  refine PE.imp (L2.pe_cmpR L2.op_isN ha L2.pe_non hm) fun σ H Q q => ?_
  exact (show L2.tOp _ ta (L2.tC .non) σ H Q from by
    unfold L2.tOp L2.tC
    simp only [true_and]
    exact q)
theorem pe_notN {a : Expr} {ts : List TE} {j pos pos' : _} (h : PL X [a] ts) (hm : behindInMarks .IsNot (.Constant .none j pos') = false) : PE X (.Compare a [.IsNot] [.Constant .none j pos'] pos) (tP ts (rdIsN not)) := by
  obtain ⟨ta, rfl, ha⟩ := h.one
  refine PE.imp (L2.pe_cmpR L2.op_notN ha L2.pe_non hm) fun σ H Q q => ?_
  exact (show L2.tOp _ ta (L2.tC .non) σ H Q from by
    unfold L2.tOp L2.tC
    simp only [true_and]
    exact q)

/-! x in xs -/
theorem flat_rep {K : KX} {H : L2.Hp} {bt : Gh} {h : Hp} {w : W} {v : V} (f : flatW w = true) (r : RepT K H bt h w v) : L2.flatV v = true ∧ ∀ (w' : W) (v' : V), flatW w' = true → RepT K H bt h w' v' → L2.eqV v v' = eqF w w' := by
  cases w <;> first | (cases f; done) | (cases r; exact ⟨rfl, fun w' v' f' r' => by cases w' <;> first | (cases f'; done) | (cases r'; rfl)⟩)
theorem Rep.ofFlat {K : KX} {H : L2.Hp} {bt : Gh} {h : Hp} {w : W} {v : V} (f : flatW w = true) (r : Rep K H bt h w v) : RepT K H bt h w v := by
  cases w <;> first | (cases f; done) | exact r
theorem flat_any {K : KX} {H : L2.Hp} {bt : Gh} {h : Hp} {x : W} {v : V} (f : flatW x = true) (r : RepT K H bt h x v) : ∀ {ws : List W} {vs : List V}, ws.all flatW = true → RepL K H bt h ws vs → vs.all L2.flatV = true ∧ (vs.any fun y => L2.eqV y v) = ws.any fun y => eqF y x
  | [], _, _, l => by cases (show _ = [] from l); exact ⟨rfl, rfl⟩
  | w :: ws, _, g, l => by
    obtain ⟨u, t, rfl, r1, r2⟩ := l
    rw [List.all_cons, Bool.and_eq_true] at g
    obtain ⟨h1, h2⟩ := flat_rep g.1 (r1.ofFlat g.1)
    obtain ⟨h3, h4⟩ := flat_any f r g.2 r2
    exact ⟨by rw [List.all_cons, h1, h3]; rfl, by rw [List.any_cons, List.any_cons, h4, h2 x v f r]⟩
def rMemA (K : KX) : R2 := fun x y H Q => ((∃ i j, x = .str i ∧ y = .str j ∧ Q (.bl (!(Builtin.Str.occurrences j i 0 j.length 1).isEmpty)) H) ∨ L2.rIn K false x y H Q) ∨ L2.rInD K x y H Q
def rNmemA (K : KX) : R2 := fun x y H Q => ((∃ i j, x = .str i ∧ y = .str j ∧ Q (.bl (!(!(Builtin.Str.occurrences j i 0 j.length 1).isEmpty))) H) ∨ L2.rIn K true x y H Q) ∨ L2.rNotInD K x y H Q
theorem op_memA (hu : X.A.units + 65 < cLine) : OpR X (compareOp .In) (rMemA (kx X)) := (L2.op_in_str.or L2.op_in_seq).or (L2.op_inD hu)
theorem op_nmemA (hu : X.A.units + 65 < cLine) : OpR X (compareOp .NotIn) (rNmemA (kx X)) := (L2.op_notin_str.or L2.op_notIn_seq).or (L2.op_notInD hu)
theorem pMem_cases {a b : W} {c : Bool} (e : pMem a b = some c) : (∃ x z, a = .str x ∧ b = .str z ∧ c = !(Builtin.Str.occurrences z x 0 z.length 1).isEmpty) ∨ (∃ ws, items b = some ws ∧ pMemF a ws = some c) ∨ ∃ ws, b = .lst ws ∧ pMemD a ws = some c := by
  unfold pMem at e
  split at e
  · cases e; exact .inl ⟨_, _, rfl, rfl, rfl⟩
  · split at e
    · cases e; exact .inr (.inl ⟨_, rfl, by assumption⟩)
    · exact .inr (.inr ⟨_, rfl, e⟩)
  · exact .inr (.inl ⟨_, rfl, e⟩)
  · exact .inr (.inl ⟨_, rfl, e⟩)
  · cases e
theorem mem_core {H : L2.Hp} {bt : Gh} {h : Hp} {a b : W} {x y : V} {c : Bool} (e : pMem a b = some c) (r1 : RepT (kx X) H bt h a x) (r2 : RepT (kx X) H bt h b y) :
    (∃ i j, x = .str i ∧ y = .str j ∧ c = !(Builtin.Str.occurrences j i 0 j.length 1).isEmpty) ∨ (∃ p xs, y = .ref p ∧ (SqL (kx X) H p xs ∨ SqT (kx X) H p xs) ∧ L2.flatV x = true ∧ xs.all L2.flatV = true ∧ c = L2.inV x xs) ∨
      ∃ d ds, L2.Dp (kx X) H x d ∧ L2.Dp (kx X) H y (.list ds) ∧ SeqAt.shaped d = true ∧ SeqAt.shaped (.list ds) = true ∧ c = ds.any fun z => PyData.eqv z d := by
  rcases pMem_cases e with ⟨x', z, rfl, rfl, rfl⟩ | ⟨ws, ei, e2⟩ | ⟨ws, rfl, e2⟩
  · cases r1; cases r2
    exact .inl ⟨_, _, rfl, rfl, rfl⟩
  · obtain ⟨p, ys, rfl, sq, l⟩ := items_seq r2 ei
    unfold pMemF at e2
    split at e2
    · cases e2
      rename_i c
      rw [Bool.and_eq_true] at c
      obtain ⟨h1, h2⟩ := flat_any c.1 r1 c.2 l
      exact .inr (.inl ⟨p, ys, rfl, sq, (flat_rep c.1 r1).1, h1, h2.symm⟩)
    · cases e2
  · unfold pMemD at e2
    split at e2
    · cases e2
      rename_i c
      simp only [Bool.and_eq_true] at c
      obtain ⟨⟨⟨c1, c2⟩, c3⟩, c4⟩ := c
      refine .inr (.inr ⟨_, ws.map toD, r1.dp c1, ?_, c3, c4, ?_⟩)
      · have := r2.dp (w := .lst ws) (by simp only [isD]; exact c2)
        simpa only [toD] using this
      · rw [List.any_map]; rfl
    · cases e2
theorem rd_mem : RdOk (kx X) .mem (rd2 (rMemA (kx X))) := RdOk.of2 rfl (fun H bt h a b x y w Q ok r1 r2 e q => by
  have e : (pMem a b).map W.bl = some w := e
  cases e1 : pMem a b with
  | none => rw [e1] at e; cases e
  | some c =>
    rw [e1] at e
    cases e
    have q := q _ _ (post_flat (w := .bl c) rfl fun _ z => by cases z)
    rcases mem_core e1 r1 r2 with ⟨i, j, rfl, rfl, rfl⟩ | ⟨p, xs, rfl, sq, f1, f2, rfl⟩ | ⟨d, ds, d1, d2, s1, s2, rfl⟩
    · exact .inl (.inl ⟨_, _, rfl, rfl, q⟩)
    · exact .inl (.inr ⟨p, xs, rfl, sq, f1, f2, q⟩)
    · exact .inr ⟨d, ds, d1, d2, s1, s2, q⟩) (two_of (fun a => by cases a <;> rfl) (by decide) (by decide) (fun _ _ => by simp) (by decide) (by decide))
theorem rd_nmem : RdOk (kx X) .nmem (rd2 (rNmemA (kx X))) := RdOk.of2 rfl (fun H bt h a b x y w Q ok r1 r2 e q => by
  have e : ((pMem a b).map fun c => W.bl (!c)) = some w := e
  cases e1 : pMem a b with
  | none => rw [e1] at e; cases e
  | some c =>
    rw [e1] at e
    cases e
    have q := q _ _ (post_flat (w := .bl (!c)) rfl fun _ z => by cases z)
    rcases mem_core e1 r1 r2 with ⟨i, j, rfl, rfl, rfl⟩ | ⟨p, xs, rfl, sq, f1, f2, rfl⟩ | ⟨d, ds, d1, d2, s1, s2, rfl⟩
    · exact .inl (.inl ⟨_, _, rfl, rfl, q⟩)
    · exact .inl (.inr ⟨p, xs, rfl, sq, f1, f2, q⟩)
    · exact .inr ⟨d, ds, d1, d2, s1, s2, q⟩) (two_of (fun a => by cases a <;> rfl) (by decide) (by decide) (fun _ _ => by simp) (by decide) (by decide))

/-! x[i] -/
theorem post_any {K : KX} {H : L2.Hp} {bt : Gh} {h : Hp} {w : W} {v : V} (r : Rep K H bt h w v) : Post K false H H bt h w v := (show L2.Same H H ∧ Rep K H bt h w v from ⟨L2.Same.refl H, r⟩)
theorem rd_idx : RdOk (kx X) .idx (rd2 (L2.rIx (kx X))) := RdOk.of2 rfl (fun H bt h a b x y w Q ok r1 r2 e q => by
  have e : pIdx a b = some w := e
  have sq : ∀ ws p xs, RepL (kx X) H bt h ws xs → ∀ i, b = .int i → (SqL (kx X) H p xs ∨ SqT (kx X) H p xs) → atW ws i = some w → L2.rIx (kx X) (.ref p) y H Q := fun ws p xs l i eb s ea => by
    subst eb
    cases r2
    obtain ⟨v, ev, rv⟩ := l.atI ea
    rcases s with s | s
    · exact .inl ⟨p, xs, i, v, rfl, rfl, s, ev, q _ _ (post_any rv)⟩
    · exact .inr (.inl ⟨p, xs, i, v, rfl, rfl, s, ev, q _ _ (post_any rv)⟩)
  cases a <;> cases b <;> first
    | (cases e; done)
    | skip
  · cases r1; cases r2
    simp only [pIdx] at e
    split at e
    · cases e1 : L2.atI (Str.cps _).toList _ with
      | none => rw [e1] at e; cases e
      | some c =>
        rw [e1] at e
        cases e
        exact .inr (.inr ⟨_, _, c, rfl, rfl, okLen_le (by assumption), e1, q _ _ (post_any rfl)⟩)
    · cases e
  · obtain ⟨a1, xs, rfl, h1, l1⟩ := repT_tup r1
    exact sq _ _ _ l1 _ rfl (.inr h1) e
  · obtain ⟨a1, xs, rfl, h1, l1⟩ := repT_lst r1
    exact sq _ _ _ l1 _ rfl (.inl (.of h1)) e
  · obtain ⟨a1, xs, rfl, h1, l1⟩ := r1
    exact sq _ _ _ l1 _ rfl (.inl h1.sq) e) (two_of (fun a => by cases a <;> rfl) (by decide) (by decide) (fun _ _ => by simp) (by decide) (by decide))

/-! displays -/
def rdTup : List V → L2.Hp → VK → Prop := fun xs H Q => xs.length ≤ sizeLine ∧ ∀ p, H p = none → Q (.ref p) (upd H p (.tup xs))
def rdLst : List V → L2.Hp → VK → Prop := fun xs H Q => xs.length ≤ sizeLine ∧ ∀ p, H p = none → Q (.ref p) (upd H p (.lst xs))
theorem rd_tupd : RdOk (kx X) .tupd rdTup := by
  intro H bt h ws vs w Q ok rl e q
  have rl : RepL (kx X) H bt h ws vs := rl
  simp only [primF] at e
  split at e
  · cases e
    exact ⟨by rw [← rl.length]; exact okLen_le (by assumption), fun p n => q _ _ (post_newT ok n rl)⟩
  · cases e
theorem rd_lstd : RdOk (kx X) .lstd rdLst := by
  intro H bt h ws vs w Q ok rl e q
  have rl : RepL (kx X) H bt h ws vs := rl
  simp only [primF] at e
  split at e
  · cases e
    exact ⟨by rw [← rl.length]; exact okLen_le (by assumption), fun p n => q _ _ (post_newL n rl)⟩
  · cases e
theorem pe_tupL {es : List Expr} {ts : List TE} {x1 pos} (h : PL X es ts) (n : es.all ns = true) : PE X (.Tuple es x1 pos) (tP ts rdTup) := L2.pe_tup (h.pa n)
theorem pe_lstL {es : List Expr} {ts : List TE} {pos} (h : PL X es ts) (n : es.all ns = true) : PE X (.List es pos) (tP ts rdLst) := L2.pe_lst (h.pa n)

/-! two ints -/
def rdI2 (g : Int → Int → Int) : List V → L2.Hp → VK → Prop := fun xs H Q => ∃ i j, xs = [.int i, .int j] ∧ Q (.int (g i j)) H
theorem rdI2_ok {p : Prim} {g : Int → Int → Int} (raw : p.raw = false) (n : ∀ ws, primF p ws ≠ none → ∃ a b, ws = [a, b]) (e0 : ∀ a b w, primF p [a, b] = some w → ∃ i j, a = .int i ∧ b = .int j ∧ w = .int (g i j)) : RdOk (kx X) p (rdI2 g) := by
  intro H bt h ws vs w Q ok rl e q
  obtain ⟨a, b, rfl⟩ := n ws (by rw [e]; simp)
  obtain ⟨i, j, rfl, rfl, rfl⟩ := e0 _ _ _ e
  rw [raw] at rl
  obtain ⟨x, y, rfl, r1, r2⟩ := RepTL.two rl
  cases r1; cases r2
  exact ⟨i, j, rfl, q _ _ (post_flat rfl fun _ z => by cases z)⟩
theorem rd_min2 : RdOk (kx X) .min2 (rdI2 fun i j => if j < i then j else i) := rdI2_ok rfl (two_of (fun a => by cases a <;> rfl) (by decide) (by decide) (fun _ _ => by simp) (by decide) (by decide)) fun a b w e => by
  cases a <;> cases b <;> cases e
  exact ⟨_, _, rfl, rfl, rfl⟩
theorem rd_max2 : RdOk (kx X) .max2 (rdI2 fun i j => if j > i then j else i) := rdI2_ok rfl (two_of (fun a => by cases a <;> rfl) (by decide) (by decide) (fun _ _ => by simp) (by decide) (by decide)) fun a b w e => by
  cases a <;> cases b <;> cases e
  exact ⟨_, _, rfl, rfl, rfl⟩

/-! sorted -/
theorem sorted_uniq : ∀ {as bs : List Int}, as.Perm bs → as.Pairwise (· ≤ ·) → bs.Pairwise (· ≤ ·) → as = bs := fun p a b => p.eq_of_pairwise (fun x y _ _ h1 h2 => Int.le_antisymm h1 h2) a b
theorem sort_ints (ns : List Int) : (ns.mergeSort fun a b => decide (a ≤ b)).Perm ns ∧ (ns.mergeSort fun a b => decide (a ≤ b)).Pairwise (· ≤ ·) := ⟨List.mergeSort_perm _ _, by
  have := List.pairwise_mergeSort (le := fun (a b : Int) => decide (a ≤ b)) (fun a b c h1 h2 => by simp only [decide_eq_true_eq] at *; omega) (fun a b => by simp only [Bool.or_eq_true, decide_eq_true_eq]; omega) ns
  exact this.imp fun h => of_decide_eq_true h⟩
theorem RepL.ints {K : KX} {H : L2.Hp} {bt : Gh} {h : Hp} : ∀ (ns : List Int), RepL K H bt h (ns.map W.int) (ns.map V.int)
  | [] => rfl
  | n :: ns => ⟨.int n, _, rfl, rfl, RepL.ints ns⟩
theorem lst_seq {K : KX} {H : L2.Hp} {bt : Gh} {h : Hp} {a : W} {x : V} {ws : List W} (r : RepT K H bt h a x) (e : a = .lst ws ∨ a = .slst ws) : ∃ p ys, x = .ref p ∧ SqL K H p ys ∧ RepL K H bt h ws ys := by
  rcases e with rfl | rfl
  · obtain ⟨a1, vs, rfl, h1, l1⟩ := repT_lst r
    exact ⟨_, vs, rfl, .of h1, l1⟩
  · obtain ⟨a1, vs, rfl, h1, l1⟩ := r
    exact ⟨_, vs, rfl, h1.sq, l1⟩
/-! isinstance -/
def Tk.nm : Tk → String
  | .tup => "tuple"
  | .lst => "list"
  | .str => "str"
  | .bool => "bool"
  | .int => "int"
def rdIsi (K : KX) (T : Tk) : List V → L2.Hp → VK → Prop := rd1 fun x H Q => L2.rIsi K [x, .ty T.nm] H Q
theorem isi_tab : (∀ T, L2.kitB "NoneType" T.nm = isiF T .non) ∧ (∀ T, L2.kitB "bool" T.nm = isiF T (.bl true)) ∧ (∀ T, L2.kitB "int" T.nm = isiF T (.int 0)) ∧ (∀ T, L2.kitB "str" T.nm = isiF T (.str "")) ∧ (∀ T, L2.kitB "tuple" T.nm = isiF T (.tup [])) ∧ (∀ T, L2.kitB "list" T.nm = isiF T (.lst [])) := by
  refine ⟨fun T => ?_, fun T => ?_, fun T => ?_, fun T => ?_, fun T => ?_, fun T => ?_⟩ <;> cases T <;> decide +kernel
theorem isi_n (T : Tk) : ∀ ws, primF (.isi T) ws ≠ none → ∃ a, ws = [a] := one_of (fun a b => by cases a <;> cases b <;> rfl) (by simp) (by simp) (fun _ _ => by simp)
theorem isi_e (T : Tk) : ∀ a, primF (.isi T) [a] = pOne (.isi T) a := fun _ => rfl
theorem rd_isi (T : Tk) : RdOk (kx X) (.isi T) (rdIsi (kx X) T) := rd_one rfl (fun H bt h a x w Q ok r1 e q => by
  have e : (isiF T a).map W.bl = some w := e
  cases e1 : isiF T a with
  | none => rw [e1] at e; cases e
  | some c =>
    rw [e1] at e
    cases e
    have q := q _ _ (post_flat (w := .bl c) rfl fun _ z => by cases z)
    have fin : ∀ t : String, L2.TyX (kx X) H x (.type t) → L2.kitB t T.nm = some c → L2.rIsi (kx X) [x, .ty T.nm] H Q := fun t ty k => ⟨x, .ty T.nm, .type t, .type T.nm, c, rfl, L2.ClsV.ty T.nm, ty, L2.kit_ty k, q⟩
    obtain ⟨t1, t2, t3, t4, t5, t6⟩ := isi_tab
    cases a with
    | non => cases r1; exact fin "NoneType" (.base .non) ((t1 T).trans e1)
    | bl y => cases r1; exact fin "bool" (.base (.bl _)) ((t2 T).trans (Eq.trans (by cases T <;> rfl) e1))
    | int _ => cases r1; exact fin "int" (.base (.int _)) ((t3 T).trans (Eq.trans (by cases T <;> rfl) e1))
    | str _ => cases r1; exact fin "str" (.base (.str _)) ((t4 T).trans (Eq.trans (by cases T <;> rfl) e1))
    | tup _ =>
      obtain ⟨a1, xs, rfl, h1, l1⟩ := repT_tup r1
      refine fin "tuple" ?_ ((t5 T).trans (Eq.trans (by cases T <;> rfl) e1))
      rcases h1 with (h1 | ⟨o, h1⟩) | ⟨o, its, n, hk, hc, _⟩
      · exact .base (.tup h1)
      · exact .fTuple h1
      · exact .kTuple hk hc
    | lst _ =>
      obtain ⟨a1, xs, rfl, h1, l1⟩ := repT_lst r1
      exact fin "list" (.base (.lst h1)) ((t6 T).trans (Eq.trans (by cases T <;> rfl) e1))
    | slst _ =>
      obtain ⟨a1, xs, rfl, h1, l1⟩ := r1
      refine fin "list" ?_ ((t6 T).trans (Eq.trans (by cases T <;> rfl) e1))
      rcases h1.sq with (h1 | ⟨o, h1⟩) | ⟨o, its, n, hk, hc, _⟩
      · exact .base (.lst h1)
      · exact .base (.frz h1)
      · exact .kList hk hc
    | set _ => simp [isiF] at e1
    | dic _ _ => simp [isiF] at e1
    | ref _ => simp [isiF] at e1
    | ty _ => simp [isiF] at e1
    | cls _ => simp [isiF] at e1
    | exc _ _ => simp [isiF] at e1) (isi_n T) (isi_e T)
end

end Ow

/-! Ow4c: slices. -/
namespace Ow
open PySem PySem.Spec PyProof.Rows
open L2 (V SqL SqT Rd HO upd upd_same upd_ne TE TT TA TS VK Cx PE PT PA PS PSs WX OpR UnR CallR R2 Room)

/-! slices -/
section
variable {X : Cx}
def rSlX (K : KX) : V → Option Int → Option Int → L2.Hp → VK → Prop := fun x lo hi H Q => (L2.rSlL K x lo hi H Q ∨ L2.rSlA K x lo hi H Q) ∨ L2.rSlS x lo hi H Q
theorem sl_all : L2.SlR X (rSlX (kx X)) := (L2.sl_list.or L2.sl_tupA).or L2.sl_str
/-- the parts among the values -/
def rdSl (K : KX) : Bool → Bool → List V → L2.Hp → VK → Prop
  | true, true, [x, .int l, .int u], H, Q => rSlX K x (some l) (some u) H Q
  | true, false, [x, .int l], H, Q => rSlX K x (some l) none H Q
  | false, true, [x, .int u], H, Q => rSlX K x none (some u) H Q
  | false, false, [x], H, Q => rSlX K x none none H Q
  | _, _, _, _, _ => False
def slF (l u : Option Int) : W → Option W
  | .lst ws => some (.lst (cutW ws l u))
  | .tup ws => some (.tup (cutW ws l u))
  | .str z => if okLen z.length then some (.str (L2.cutS z l u)) else none
  | _ => none
theorem slx_ok {H : L2.Hp} {bt : Gh} {h : Hp} {a : W} {x : V} {l u : Option Int} {w : W} {Q : VK} (ok : HeapOk (kx X) H bt h) (r1 : RepT (kx X) H bt h a x)
    (e : slF l u a = some w) (q : ∀ v H', Post (kx X) true H H' bt h w v → Q v H') : rSlX (kx X) x l u H Q := by
  cases a <;> first | (cases e; done) | skip
  · cases r1
    simp only [slF] at e
    split at e
    · cases e
      exact .inr ⟨_, rfl, okLen_le (by assumption), q _ _ (post_flat rfl fun _ z => by cases z)⟩
    · cases e
  · obtain ⟨a1, xs, rfl, h1, l1⟩ := repT_tup r1
    cases e
    refine .inl (.inr ⟨a1, xs, rfl, h1, fun hw => ?_, fun _ p n => q _ _ (post_newT ok n (l1.cut' l u))⟩)
    have hl := l1.length
    refine q _ _ (post_flat ⟨a1, xs, rfl, h1, ?_⟩ fun _ z => by cases z)
    rename_i ws
    have : cutW ws l u = ws := by
      unfold cutW
      rw [hl, hw.1, hw.2, List.drop_zero, Nat.sub_zero, ← hl, List.take_length]
    rw [this]; exact l1
  · obtain ⟨a1, xs, rfl, h1, l1⟩ := repT_lst r1
    cases e
    exact .inl (.inl ⟨a1, xs, rfl, .of h1, fun p n => q _ _ (post_newL n (l1.cut' l u))⟩)
theorem optI_rep {K : KX} {H : L2.Hp} {bt : Gh} {h : Hp} {lo : Bool} {r r1 : List W} {l : Option Int} {vs : List V} (e : optI lo r = some (l, r1)) (rl : RepTL K H bt h r vs) :
    ∃ vs1, RepTL K H bt h r1 vs1 ∧ ((lo = true ∧ ∃ i, l = some i ∧ vs = .int i :: vs1) ∨ (lo = false ∧ l = none ∧ vs = vs1)) := by
  cases lo with
  | false =>
    simp only [optI, Option.some.injEq, Prod.mk.injEq] at e
    obtain ⟨rfl, rfl⟩ := e
    exact ⟨vs, rl, .inr ⟨rfl, rfl, rfl⟩⟩
  | true =>
    cases r with
    | nil => simp [optI] at e
    | cons a r =>
      obtain ⟨v, t, rfl, r1, rl⟩ := rl
      cases a <;> first | (simp [optI] at e; done) | skip
      simp only [optI, Option.some.injEq, Prod.mk.injEq] at e
      obtain ⟨rfl, rfl⟩ := e
      cases r1
      exact ⟨t, rl, .inl ⟨rfl, _, rfl, rfl⟩⟩
theorem rd_sl (lo hi : Bool) : RdOk (kx X) (.sl lo hi) (rdSl (kx X) lo hi) := by
  intro H bt h ws vs w Q ok rl e q
  have rl : RepTL (kx X) H bt h ws vs := rl
  have e : pSl lo hi ws = some w := e
  have q : ∀ v H', Post (kx X) true H H' bt h w v → Q v H' := q
  cases ws with
  | nil => cases e
  | cons x r =>
    obtain ⟨v, t, rfl, r1, rl⟩ := rl
    simp only [pSl, Option.bind_eq_some_iff] at e
    obtain ⟨⟨l, ra⟩, e1, ⟨u, rb⟩, e2, e⟩ := e
    obtain ⟨va, rla, ca⟩ := optI_rep e1 rl
    obtain ⟨vb, rlb, cb⟩ := optI_rep e2 rla
    have e3 : rb = [] ∧ slF l u x = some w := by
      simp only at e
      split at e
      · exact ⟨rfl, e⟩
      · exact ⟨rfl, e⟩
      · exact ⟨rfl, e⟩
      · cases e
    obtain ⟨rfl, e3⟩ := e3
    cases (show vb = [] from rlb)
    have fin := slx_ok (l := l) (u := u) ok r1 e3 q
    rcases ca with ⟨rfl, i, rfl, rfl⟩ | ⟨rfl, rfl, rfl⟩
    · rcases cb with ⟨rfl, j, rfl, rfl⟩ | ⟨rfl, rfl, rfl⟩
      · exact fin
      · exact fin
    · rcases cb with ⟨rfl, j, rfl, rfl⟩ | ⟨rfl, rfl, rfl⟩
      · exact fin
      · exact fin
/-- a part as a value -/
def oL : Option Expr → List Expr
  | none => []
  | some e => [e]
theorem pe_slL {e : Expr} {lo hi : Option Expr} {ts : List TE} {p2 pos : Pos} (hs : PL X (e :: (oL lo ++ oL hi)) ts) : PE X (.Subscript e (.Slice lo hi none p2) pos) (tP ts (rdSl (kx X) lo.isSome hi.isSome)) := by
  have fin : ∀ (pins : List (Addr × PySem.Obj)) (s3 : Shared) (σ : L2.St) (H3 : L2.Hp) (x : V) (v vl vu : Value) (l u : Option Int) (Q : VK), L2.Inv X pins σ H3 s3 → L2.RelV x v → IsPart vl l → IsPart vu u → rSlX (kx X) x l u H3 Q →
      wpAny (model X.prog X.w) X.A (subscriptTail e (.Slice lo hi none p2) v (.ref s3.heap.objs.size)) (L2.EP X pins σ Q) X.xe { s3 with heap := s3.heap.push { cls := .type "slice", data := .fields #[vl, vu, .none] } } := fun pins s3 σ H3 x v vl vu l u Q I3 r1 pl pu q3 => by
    have I4 : L2.Inv X pins σ H3 { s3 with heap := s3.heap.push { cls := .type "slice", data := .fields #[vl, vu, .none] } } := I3.kept (t' := s3.toks) fun b ob q => Heap.get?_push_of_some _ q
    obtain ⟨T, id, hT, ht, hg⟩ := sl_all pins { s3 with heap := s3.heap.push { cls := .type "slice", data := .fields #[vl, vu, .none] } } σ H3 x v vl vu l u s3.heap.objs.size Q I4 r1 (Heap.IsSliceOf.new ..) pl pu q3
    exact tail_any (ops := [.ref s3.heap.objs.size, v]) ht hT hg (by with_unfolding_all rfl)
  cases lo with
  | none =>
    cases hi with
    | none =>
      obtain ⟨te, rfl, he⟩ := hs.one
      refine ⟨fun pins s σ H Q I h => ?_⟩
      refine Subscript_ (L2.thn (he.run pins s σ H _ I h) fun v s1 ⟨x, H1, I1, r1, q1⟩ => ?_)
      refine wpAny_Slice ?_
      rw [evalPart_none]
      refine wpAny_pure (wpAny_pure (wpAny_pure ?_))
      exact fin pins s1 σ H1 x v .none .none none none Q I1 r1 .none .none q1
    | some b =>
      obtain ⟨te, tb, rfl, he, hb⟩ := PL.two hs
      refine ⟨fun pins s σ H Q I h => ?_⟩
      refine Subscript_ (L2.thn (he.run pins s σ H _ I h) fun v s1 ⟨x, H1, I1, r1, q1⟩ => ?_)
      refine wpAny_Slice ?_
      rw [evalPart_none, evalPart_some]
      refine wpAny_pure (L2.thn (hb.run pins s1 σ H1 _ I1 q1) fun v2 s2 ⟨y, H2, I2, r2, q2⟩ => wpAny_pure ?_)
      cases y <;> first | exact q2.elim | skip
      obtain ⟨t, rfl⟩ := r2
      exact fin pins s2 σ H2 x v .none _ none (some _) Q I2 r1 .none (.int _ t) q2
  | some a =>
    cases hi with
    | none =>
      obtain ⟨te, tb, rfl, he, hb⟩ := PL.two hs
      refine ⟨fun pins s σ H Q I h => ?_⟩
      refine Subscript_ (L2.thn (he.run pins s σ H _ I h) fun v s1 ⟨x, H1, I1, r1, q1⟩ => ?_)
      refine wpAny_Slice ?_
      rw [evalPart_none, evalPart_some]
      refine (L2.thn (hb.run pins s1 σ H1 _ I1 q1) fun v2 s2 ⟨y, H2, I2, r2, q2⟩ => wpAny_pure (wpAny_pure ?_))
      cases y <;> first | exact q2.elim | skip
      obtain ⟨t, rfl⟩ := r2
      exact fin pins s2 σ H2 x v _ .none (some _) none Q I2 r1 (.int _ t) .none q2
    | some b =>
      obtain ⟨te, ta, tb, rfl, he, ha, hb⟩ := PL.three hs
      refine ⟨fun pins s σ H Q I h => ?_⟩
      refine Subscript_ (L2.thn (he.run pins s σ H _ I h) fun v s1 ⟨x, H1, I1, r1, q1⟩ => ?_)
      refine wpAny_Slice ?_
      rw [evalPart_none, evalPart_some, evalPart_some]
      refine (L2.thn (ha.run pins s1 σ H1 _ I1 q1) fun v2 s2 ⟨y, H2, I2, r2, q2⟩ => L2.thn (hb.run pins s2 σ H2 _ I2 q2) fun v3 s3 ⟨z, H3, I3, r3, q3⟩ => wpAny_pure ?_)
      cases y <;> first | exact q3.elim | skip
      cases z <;> first | exact q3.elim | skip
      obtain ⟨t, rfl⟩ := r2
      obtain ⟨t', rfl⟩ := r3
      exact fin pins s3 σ H3 x v _ _ (some _) (some _) Q I3 r1 (.int _ t) (.int _ t') q3
/-! list(range(..)) -/
theorem pe_lrg {a : Expr} {ts : List TE} {p1 pos1 p2 pos2 : Pos} (hc : X.calm = true) (hg : L2.Gl X "list") (hm : X.mg "list" = none) (hg2 : L2.Gl X "range") (hm2 : X.mg "range" = none) (n : ns a = true) (h : PL X [a] ts) :
    PE X (.Call (.Name "list" p1) [.Call (.Name "range" p2) [a] [] pos2] [] pos1) (tP ts (rd1 fun x H Q => ∃ n, x = .int n ∧ L2.RgOk 0 n ∧ ∀ q, H q = none → Q (.ref q) (upd H q (.lst (L2.rgV 0 n))))) := by
  obtain ⟨ta, rfl, ha⟩ := h.one
  exact PE.imp (L2.pe_listRg hc hg hm (L2.prg_1 hg2 hm2 ha (star_ns n _ _))) fun σ H Q q => q
theorem pe_trg {a : Expr} {ts : List TE} {p1 pos1 p2 pos2 : Pos} (hc : X.calm = true) (hg : L2.Gl X "tuple") (hm : X.mg "tuple" = none) (hg2 : L2.Gl X "range") (hm2 : X.mg "range" = none) (n : ns a = true) (h : PL X [a] ts) :
    PE X (.Call (.Name "tuple" p1) [.Call (.Name "range" p2) [a] [] pos2] [] pos1) (tP ts (rd1 fun x H Q => ∃ n, x = .int n ∧ L2.RgOk 0 n ∧ ∀ q, H q = none → Q (.ref q) (upd H q (.tup (L2.rgV 0 n))))) := by
  obtain ⟨ta, rfl, ha⟩ := h.one
  exact PE.imp (L2.pe_tupRg hc hg hm (L2.prg_1 hg2 hm2 ha (star_ns n _ _))) fun σ H Q q => q
end
end Ow

/-! Ow4d: sorted(set(x)), len(set(x)). -/
namespace Ow
open PySem PySem.Spec PyProof.Rows SetF
open L2 (V SqL SqT Rd HO upd upd_same upd_ne TE TT TA TS VK Cx PE PT PA PS PSs WX OpR UnR CallR R2 Room)
section
variable {X : Cx}
theorem CallR.or {f : Value} {r1 r2 : List V → L2.Hp → VK → Prop} (h1 : CallR X f r1) (h2 : CallR X f r2) : CallR X f (fun vs H Q => r1 vs H Q ∨ r2 vs H Q) := by
  intro pins s σ H vs us Q I r h
  rcases h with h | h
  · exact h1 pins s σ H vs us Q I r h
  · exact h2 pins s σ H vs us Q I r h
def rSetA (K : KX) : List V → L2.Hp → VK → Prop := fun vs H Q => rSetRows K K.P K.w vs H Q ∨ rSetInts K K.w vs H Q
theorem cr_setA (hc : X.calm = true) (hu : X.A.units + 64 < cLine) : CallR X (.type "set") (rSetA (kx X)) := CallR.or (cr_setRows hc hu) (cr_setInts hc)
def rSortA (K : KX) : List V → L2.Hp → VK → Prop := fun vs H Q => rSortRows K K.P K.w vs H Q ∨ L2.rSortedSet K.w vs H Q
theorem cr_sortA (hc : X.calm = true) (hu : X.A.units + 64 < cLine) : CallR X (.builtin "sorted") (rSortA (kx X)) := CallR.or (cr_sortRows hc hu) (L2.cr_sortedSet hc)
def rLenS (K : KX) : List V → L2.Hp → VK → Prop := fun vs H Q => rLenRows K.P K.w vs H Q ∨ rLenInts K.w vs H Q
theorem cr_lenA : CallR X (.builtin "len") (rLenS (kx X)) := CallR.or cr_lenRows cr_lenInts
/-- rows as they lie -/
theorem rows_vals {K : KX} {H : L2.Hp} {bt : Gh} {h : Hp} : ∀ {ws : List W} {rs : List (List Int)} {vs : List V}, rowsW ws = some rs → RepL K H bt h ws vs → ∃ ks : List (Addr × List Int), vs = ks.map (fun p => V.ref p.1) ∧ ks.map (·.2) = rs ∧ ∀ p ∈ ks, SqT K H p.1 (p.2.map V.int)
  | [], rs, vs, e, r => by
    cases e
    exact ⟨[], r, rfl, fun p hp => by cases hp⟩
  | w :: ws, rs, vs, e, r => by
    obtain ⟨v, t, rfl, r1, r2⟩ := r
    cases w <;> first | (simp [rowsW] at e; done) | skip
    simp only [rowsW, Option.bind_eq_some_iff, Option.map_eq_some_iff] at e
    obtain ⟨n, e1, rs', e2, rfl⟩ := e
    obtain ⟨ks, rfl, h2, h3⟩ := rows_vals e2 r2
    obtain ⟨a, us, rfl, sq, l⟩ := r1
    cases allInt_vals e1 l
    refine ⟨(a, n) :: ks, rfl, by rw [List.map_cons, h2], fun p hp => ?_⟩
    rcases List.mem_cons.mp hp with rfl | hp
    · exact sq
    · exact h3 p hp
theorem RepL.rows {K : KX} {H : L2.Hp} {bt : Gh} {h : Hp} : ∀ (L : List (Addr × List Int)), (∀ p ∈ L, SqT K H p.1 (p.2.map V.int)) → RepL K H bt h ((L.map (·.2)).map rowW) (L.map fun p => V.ref p.1)
  | [], _ => rfl
  | p :: L, hL => ⟨_, _, rfl, ⟨p.1, _, rfl, hL p (List.mem_cons_self ..), RepL.ints _⟩, RepL.rows L fun q hq => hL q (List.mem_cons_of_mem _ hq)⟩
theorem rows_short {L : List (Addr × List Int)} {ks : List (Addr × List Int)} (hsub : ∀ p ∈ L, p ∈ ks) (hall : ∀ p ∈ ks, p.2 ∈ L.map (·.2)) (hn : (L.map (·.2)).Nodup) (hb : ((ks.map (·.2)).all (fun r => !r.isEmpty) || decide ((uniq (ks.map (·.2))).length ≤ 1)) = true) : (∀ q ∈ L, q.2 ≠ []) ∨ L.length ≤ 1 := by
  rw [Bool.or_eq_true] at hb
  rcases hb with hb | hb
  · refine .inl fun q hq z => ?_
    have := List.all_eq_true.mp hb q.2 (List.mem_map.mpr ⟨q, hsub q hq, rfl⟩)
    rw [z] at this
    cases this
  · refine .inr ?_
    have p : (L.map (·.2)).Perm (uniq (ks.map (·.2))) := perm_of_same hn (nodup_uniq _) fun r => by
      rw [mem_uniq]
      constructor
      · intro hr
        obtain ⟨q, hq, rfl⟩ := List.mem_map.mp hr
        exact List.mem_map.mpr ⟨q, hsub q hq, rfl⟩
      · intro hr
        obtain ⟨q, hq, rfl⟩ := List.mem_map.mp hr
        exact hall q hq
    have e := p.length_eq
    rw [List.length_map] at e
    rw [e]
    exact of_decide_eq_true hb
theorem same_rows {L : List (Addr × List Int)} {ks : List (Addr × List Int)} (hsub : ∀ p ∈ L, p ∈ ks) (hall : ∀ p ∈ ks, p.2 ∈ L.map (·.2)) (r : List Int) : r ∈ L.map (·.2) ↔ r ∈ ks.map (·.2) := by
  constructor
  · intro hr
    obtain ⟨q, hq, rfl⟩ := List.mem_map.mp hr
    exact List.mem_map.mpr ⟨q, hsub q hq, rfl⟩
  · intro hr
    obtain ⟨q, hq, rfl⟩ := List.mem_map.mp hr
    exact hall q hq
theorem sqT_same {K : KX} {H H' : L2.Hp} {a : Addr} {vs : List V} (s : L2.Same H H') (q : SqT K H a vs) : SqT K H' a vs := by
  rcases q with (q | ⟨o, q⟩) | q
  · exact .inl (.inl (s _ _ q))
  · exact .inl (.inr ⟨o, s _ _ q⟩)
  · exact .inr q
theorem rd_sset : RdOk (kx X) .sset (fun vs H Q => rSetA (kx X) vs H fun v H1 => rSortA (kx X) [v] H1 Q) := rd_one rfl (fun H bt h a x w Q ok r1 e q => by
  have e' : pSset a = some w := e
  clear e
  unfold pSset at e'
  obtain ⟨ws, e1, e2⟩ := Option.bind_eq_some_iff.mp e'
  clear e'
  obtain ⟨p, ys, rfl, sq, l⟩ := items_seq r1 e1
  cases e3 : allInt ws with
  | some ns =>
    rw [e3] at e2
    simp only at e2
    split at e2
    · cases e2
      rename_i hl
      cases allInt_vals e3 l
      refine .inr ⟨p, ns, rfl, sq, by omega, fun a1 c hn hc => .inr ⟨a1, _, c, rfl, upd_same, by omega, fun ms p1 h1 h2 h3 hn1 => ?_⟩⟩
      have em : ms = sortInts ns := sortInts_eq (h1.imp fun h => Int.le_of_lt h) (h1.imp fun h => Int.ne_of_lt h) fun k => by
        rw [h2]
        exact decide_eq_true_iff
      subst em
      have hne : a1 ≠ p1 := fun z => by rw [z, upd_same] at hn1; cases hn1
      have hn2 : H p1 = none := by rw [upd_ne (Ne.symm hne)] at hn1; exact hn1
      exact q _ _ ⟨p1, _, rfl, hn2, upd_same, RepL.ints _, (Same.upd hn).trans (Same.upd hn1)⟩
    · cases e2
  | none =>
    rw [e3] at e2
    simp only at e2
    obtain ⟨rs, e4, e5⟩ := Option.bind_eq_some_iff.mp e2
    split at e5
    · cases e5
      rename_i hl
      obtain ⟨hl, hb⟩ := hl
      obtain ⟨ks, rfl, rfl, hk⟩ := rows_vals e4 l
      refine .inl ⟨p, ks, rfl, sq, hk, by rw [List.length_map] at hl; exact hl, fun a1 L hn hsub hall hnd => .inl ⟨a1, L, rfl, upd_same, fun r hr => ?_, rows_short hsub hall hnd hb, fun L' p1 hL' hm hn1 => ?_⟩⟩
      · exact sqT_same (Same.upd hn) (hk r (hsub r hr))
      · have hne : a1 ≠ p1 := fun z => by rw [z, upd_same] at hn1; cases hn1
        have hn2 : H p1 = none := by rw [upd_ne (Ne.symm hne)] at hn1; exact hn1
        have es : sortRows (ks.map (·.2)) = L'.map (·.2) := by rw [hL']; exact (sortRows_same (same_rows hsub hall)).symm
        rw [es] at q
        exact q _ _ ⟨p1, _, rfl, hn2, upd_same, RepL.rows L' fun r hr => hk r (hsub r (hm r hr)), (Same.upd hn).trans (Same.upd hn1)⟩
    · cases e5) (one_of (fun a b => by cases a <;> cases b <;> rfl) (by decide) (by decide) (fun _ _ => by simp)) (fun _ => rfl)
theorem rd_lset : RdOk (kx X) .lset (fun vs H Q => rSetA (kx X) vs H fun v H1 => rLenS (kx X) [v] H1 Q) := rd_one rfl (fun H bt h a x w Q ok r1 e q => by
  have e' : pLset a = some w := e
  clear e
  unfold pLset at e'
  obtain ⟨ws, e1, e2⟩ := Option.bind_eq_some_iff.mp e'
  clear e'
  obtain ⟨p, ys, rfl, sq, l⟩ := items_seq r1 e1
  cases e3 : allInt ws with
  | some ns =>
    rw [e3] at e2
    simp only at e2
    split at e2
    · cases e2
      rename_i hl
      cases allInt_vals e3 l
      refine .inr ⟨p, ns, rfl, sq, hl, fun a1 c hn hc => .inr ⟨a1, _, c, rfl, upd_same, fun ms h1 h2 h3 => ?_⟩⟩
      have em : ms.Perm (uniq ns) := perm_of_same h1 (nodup_uniq ns) fun k => by
        rw [h2, mem_uniq]
        exact decide_eq_true_iff
      rw [← h3, em.length_eq]
      exact q _ _ ⟨Same.upd hn, rfl⟩
    · cases e2
  | none =>
    rw [e3] at e2
    simp only at e2
    obtain ⟨rs, e4, e5⟩ := Option.bind_eq_some_iff.mp e2
    split at e5
    · cases e5
      rename_i hl
      obtain ⟨ks, rfl, rfl, hk⟩ := rows_vals e4 l
      refine .inl ⟨p, ks, rfl, sq, hk, by rw [List.length_map] at hl; exact hl, fun a1 L hn hsub hall hnd => .inl ⟨a1, L, rfl, upd_same, ?_⟩⟩
      have em : (L.map (·.2)).Perm (uniq (ks.map (·.2))) := perm_of_same hnd (nodup_uniq _) fun r => by rw [mem_uniq]; exact same_rows hsub hall r
      have el := em.length_eq
      rw [List.length_map] at el
      rw [el]
      exact q _ _ ⟨Same.upd hn, rfl⟩
    · cases e5) (one_of (fun a b => by cases a <;> cases b <;> rfl) (by decide) (by decide) (fun _ _ => by simp)) (fun _ => rfl)
def rSortX (K : KX) : List V → L2.Hp → VK → Prop := fun vs H Q => (L2.rSortedI K vs H Q ∨ rSortTI K vs H Q) ∨ rSortL K vs H Q
theorem cr_sortX (hu : X.A.units + 64 < cLine) : CallR X (.builtin "sorted") (rSortX (kx X)) := CallR.or (CallR.or L2.cr_sortedI (cr_sortTI hu)) (cr_sortL hu)
theorem rd_sorted1 : RdOk (kx X) .sorted1 (rSortX (kx X)) := rd_one rfl (fun H bt h a x w Q ok r1 e q => by
  have e' : ((items a).bind pSort).map W.lst = some w := e
  clear e
  obtain ⟨us, e2, rfl⟩ := Option.map_eq_some_iff.mp e'
  clear e'
  obtain ⟨ws, e1, e2⟩ := Option.bind_eq_some_iff.mp e2
  obtain ⟨p, ys, rfl, sq, l⟩ := items_seq r1 e1
  unfold pSort at e2
  cases e3 : allInt ws with
  | some ns =>
    rw [e3] at e2
    cases e2
    cases allInt_vals e3 l
    rcases sq with sq | sq
    · refine .inl (.inl ⟨p, ns, rfl, sq, fun ns' p' h1 h2 n => ?_⟩)
      have e2 : ns' = ns.mergeSort fun a b => decide (a ≤ b) := sorted_uniq (h1.trans (sort_ints ns).1.symm) h2 (sort_ints ns).2
      subst e2
      exact q _ _ (post_newL n (RepL.ints _))
    · exact .inl (.inr ⟨p, ns, rfl, sq, fun p' n => q _ _ (post_newL n (RepL.ints _))⟩)
  | none =>
    rw [e3] at e2
    simp only at e2
    obtain ⟨rs, e4, e5⟩ := Option.bind_eq_some_iff.mp e2
    split at e5
    · rename_i hb
      cases e5
      obtain ⟨ks, rfl, rfl, hk⟩ := rows_vals e4 l
      refine .inr ⟨p, ks, rfl, sq, hk, ?_, fun L' p1 hp hL hn => ?_⟩
      · rw [Bool.or_eq_true] at hb
        rcases hb with hb | hb
        · refine .inl fun r hr z => ?_
          have := List.all_eq_true.mp hb r.2 (List.mem_map.mpr ⟨r, hr, rfl⟩)
          rw [z] at this
          cases this
        · exact .inr (by have := of_decide_eq_true hb; rwa [List.length_map] at this)
      · rw [← hL] at q
        exact q _ _ (post_newL hn (RepL.rows L' fun r hr => hk r (hp.mem_iff.mp hr)))
    · cases e5) (one_of (fun a b => by cases a <;> cases b <;> rfl) (by decide) (by decide) (fun _ _ => by simp)) (fun _ => rfl)
end
end Ow

/-! Ow5: which expression an Ex stands for (Bool checks), and that the run of it says what the evaluator says. -/
namespace Ow
open PySem PySem.Spec PyProof.Rows
open L2 (V SqL SqT Rd HO upd upd_same upd_ne TE TT TA TS VK Cx PE PT PA PS PSs WX OpR UnR CallR R2 Room Gl Sp XK CXT FnOk Binds)

structure MC where
  T : List Def
  N : List Str
  sc : Scope
  os : Scope
def visB (C : MC) (x : Str) : Bool := match C.sc.names.lookup x with
  | some .local => true
  | some .cell => true
  | some .free => true
  | _ => false
def glB (C : MC) (x : Str) : Bool := match C.sc.names.lookup x with
  | some .globalImplicit => true
  | _ => false
def okN (x : Str) : Bool := !(x == ("__debug__" : Str)) && !(x == ("__classdict__" : Str)) && !(x == ("__name__" : Str))
def ownB (C : MC) (x : Str) : Bool := match C.os.names.lookup x with
  | some .local => true
  | some .cell => true
  | _ => false
def binShp (o : Operator) : Expr → Option (List Expr)
  | .BinOp a o' b _ => if o' = o then some [a, b] else none
  | _ => none
def cmpShp (o : CmpOp) : Expr → Option (List Expr)
  | .Compare a [o'] [b] _ => if o' = o ∧ behindInMarks o' b = false then some [a, b] else none
  | _ => none
def isShp (o : CmpOp) : Expr → Option (List Expr)
  | .Compare a [o'] [.Constant .none _ _] _ => if o' = o then some [a] else none
  | _ => none
def callShp1 (C : MC) (x : Str) : Expr → Option (List Expr)
  | .Call (.Name y _) [a] [] _ => if y = x ∧ glB C x = true ∧ ns a = true then some [a] else none
  | _ => none
def callShp2 (C : MC) (x : Str) : Expr → Option (List Expr)
  | .Call (.Name y _) [a, b] [] _ => if y = x ∧ glB C x = true ∧ ns a = true ∧ ns b = true then some [a, b] else none
  | _ => none
def isiShp (C : MC) (T : Tk) : Expr → Option (List Expr)
  | .Call (.Name y _) [a, .Name z _] [] _ => if y = "isinstance" ∧ z = Str.ofString T.nm ∧ glB C "isinstance" = true ∧ glB C (Str.ofString T.nm) = true ∧ ns a = true then some [a] else none
  | _ => none
def rgShp (C : MC) (x : Str) : Expr → Option (List Expr)
  | .Call (.Name y _) [.Call (.Name z _) [a] [] _] [] _ => if y = x ∧ z = "range" ∧ glB C x = true ∧ glB C "range" = true ∧ ns a = true then some [a] else none
  | _ => none
def setShp (C : MC) (x : Str) : Expr → Option (List Expr)
  | .Call (.Name y _) [.Call (.Name z _) [a] [] _] [] _ => if y = x ∧ z = "set" ∧ glB C x = true ∧ glB C "set" = true ∧ ns a = true then some [a] else none
  | _ => none
def plainIxB : Expr → Bool
  | .Name _ _ => true
  | .Constant _ _ _ => true
  | .BinOp _ _ _ _ => true
  | .UnaryOp _ _ _ => true
  | .Call _ _ _ _ => true
  | .Subscript _ _ _ => true
  | _ => false
def ixShp : Expr → Option (List Expr)
  | .Subscript a b _ => if plainIxB b = true then some [a, b] else none
  | _ => none
def slShp (lo hi : Bool) : Expr → Option (List Expr)
  | .Subscript a (.Slice l u none _) _ => if l.isSome = lo ∧ u.isSome = hi then some (a :: (oL l ++ oL u)) else none
  | _ => none
def tupShp : Expr → Option (List Expr)
  | .Tuple es _ _ => if es.all ns = true then some es else none
  | _ => none
def lstShp : Expr → Option (List Expr)
  | .List es _ => if es.all ns = true then some es else none
  | _ => none
def negShp : Expr → Option (List Expr)
  | .UnaryOp .USub a _ => some [a]
  | _ => none
def shp (C : MC) (p : Prim) (e : Expr) : Option (List Expr) := match p with
  | .add => binShp .Add e
  | .sub => binShp .Sub e
  | .mul => binShp .Mult e
  | .mod => binShp .Mod e
  | .fdiv => binShp .FloorDiv e
  | .pow => binShp .Pow e
  | .neg => negShp e
  | .eq => cmpShp .Eq e
  | .ne => cmpShp .NotEq e
  | .lt => cmpShp .Lt e
  | .le => cmpShp .LtE e
  | .gt => cmpShp .Gt e
  | .ge => cmpShp .GtE e
  | .mem => cmpShp .In e
  | .nmem => cmpShp .NotIn e
  | .isN => isShp .Is e
  | .notN => isShp .IsNot e
  | .idx => ixShp e
  | .sl lo hi => slShp lo hi e
  | .tupd => tupShp e
  | .lstd => lstShp e
  | .len => callShp1 C "len" e
  | .int1 => callShp1 C "int" e
  | .abs => callShp1 C "abs" e
  | .str1 => callShp1 C "str" e
  | .list1 => callShp1 C "list" e
  | .tuple1 => callShp1 C "tuple" e
  | .sorted1 => callShp1 C "sorted" e
  | .all1 => callShp1 C "all" e
  | .any1 => callShp1 C "any" e
  | .sum1 => callShp1 C "sum" e
  | .min1 => callShp1 C "min" e
  | .max1 => callShp1 C "max" e
  | .min2 => callShp2 C "min" e
  | .max2 => callShp2 C "max" e
  | .rangeL => rgShp C "list" e
  | .rangeT => rgShp C "tuple" e
  | .isi T => isiShp C T e
  | .sset => setShp C "sorted" e
  | .lset => setShp C "len" e
  | .set1 => none

/-- the built-in names that are used -/
def bltNames : List Str := ["len", "int", "abs", "str", "list", "tuple", "sorted", "all", "any", "sum", "min", "max", "isinstance", "range", "bool", "zip", "enumerate", "set"]

/-! ### the context -/
/-- a def's promise, by the evaluator -/
def spC (K : KX) (T : List Def) (Nw d k np : Nat) : Sp := fun vs H Q E => vs.length = np ∧ ∃ b bt h ws, HeapOk K H bt h ∧ b ≤ h.length ∧ RepL K H bt h ws vs ∧ OkE K (fun c x _ H' => E c x H') [] H bt b h Q (evC T Nw d b k ws h)
structure Ctx (Nw d : Nat) (C : MC) (X : Cx) : Prop where
  hN : X.N = C.N
  nd : C.N.Nodup
  sc : X.env.scope = C.sc
  calm : X.calm = true
  loc : ∀ x, C.os.names.lookup x = some .local → C.sc.names.lookup x = some .local
  cel : ∀ x, C.os.names.lookup x = some .cell → C.sc.names.lookup x = some .cell ∧ X.fn x = true
  room : Room d X.A
  blt : ∀ x ∈ bltNames, X.mg x = none
  fns : ∀ k df, C.T[k]? = some df → ∃ f fd ps, FnOk X.prog X.w X.K X.mg X.base (L2.CX X.prog X.w) d f fd ps (spC (kx X) C.T Nw d k df.np) ∧ X.mg df.name = some (.ref f) ∧ PySem.W.keepIn X.K (.ref f) = true ∧ Binds X.K fd ps []
section
variable {Nw d : Nat} {C : MC} {X : Cx}
theorem Ctx.units (c : Ctx Nw d C X) : X.A.units + 65 < cLine := by have := c.room.un; omega
theorem Ctx.vis (c : Ctx Nw d C X) {x : Str} (h : visB C x = true) : L2.Vis X.env.scope x := by
  unfold L2.Vis
  rw [c.sc]
  unfold visB at h
  split at h <;> first | exact .inl (by assumption) | exact .inr (.inl (by assumption)) | exact .inr (.inr (by assumption)) | cases h
theorem Ctx.gl (c : Ctx Nw d C X) {x : Str} (h : glB C x = true) : Gl X x := by
  show X.env.scope.names.lookup x = _
  rw [c.sc]
  unfold glB at h
  split at h <;> first | assumption | cases h

/-! ### primitives -/
theorem binS {o : Operator} {e : Expr} {es : List Expr} {ts : List TE} {r : R2} (h : binShp o e = some es) (p : PL X es ts) (ho : OpR X (binaryOp o) r) : PE X e (tP ts (rd2 r)) := by
  cases e <;> first | (cases h; done) | skip
  simp only [binShp] at h
  split at h
  · cases h
    rename_i q
    subst q
    exact pe_bin ho p
  · cases h
theorem cmpS {o : CmpOp} {e : Expr} {es : List Expr} {ts : List TE} {r : R2} (h : cmpShp o e = some es) (p : PL X es ts) (ho : OpR X (compareOp o) r) : PE X e (tP ts (rd2 r)) := by
  unfold cmpShp at h
  split at h
  · split at h
    · cases h
      rename_i q
      obtain ⟨rfl, q⟩ := q
      exact pe_cmp ho p q
    · cases h
  · cases h
theorem isS {e : Expr} {es : List Expr} {ts : List TE} (h : isShp .Is e = some es) (p : PL X es ts) : PE X e (tP ts (rdIsN id)) := by
  unfold isShp at h
  split at h
  · split at h
    · cases h
      rename_i q
      subst q
      exact pe_isN p rfl
    · cases h
  · cases h
theorem notS {e : Expr} {es : List Expr} {ts : List TE} (h : isShp .IsNot e = some es) (p : PL X es ts) : PE X e (tP ts (rdIsN not)) := by
  unfold isShp at h
  split at h
  · split at h
    · cases h
      rename_i q
      subst q
      exact pe_notN p rfl
    · cases h
  · cases h
theorem call1B (c : Ctx Nw d C X) {x : Str} {id : String} {e : Expr} {es : List Expr} {ts : List TE} {r : List V → L2.Hp → VK → Prop} (h : callShp1 C x e = some es) (p : PL X es ts) (hc : CallR X (.builtin id) r) (hv : bootBuiltins x = some (.builtin id)) (hx : x ∈ bltNames)
    (hn : x ≠ "__name__" := by decide) (hdb : (x == ("__debug__" : Str)) = false := by decide) : PE X e (tP ts r) := by
  unfold callShp1 at h
  split at h
  · split at h
    · cases h
      rename_i q
      obtain ⟨rfl, q1, q2⟩ := q
      exact L2.pe_callB hc (c.gl q1) (c.blt _ hx) hv (p.pa (by simp [q2])) hn hdb (star_ns q2 _ _) rfl
    · cases h
  · cases h
theorem call1T (c : Ctx Nw d C X) {x : Str} {T : String} {e : Expr} {es : List Expr} {ts : List TE} {r : List V → L2.Hp → VK → Prop} (h : callShp1 C x e = some es) (p : PL X es ts) (hc : CallR X (.type T) r) (hv : bootBuiltins x = some (.type T)) (hx : x ∈ bltNames)
    (hn : x ≠ "__name__" := by decide) (hdb : (x == ("__debug__" : Str)) = false := by decide) : PE X e (tP ts r) := by
  unfold callShp1 at h
  split at h
  · split at h
    · cases h
      rename_i q
      obtain ⟨rfl, q1, q2⟩ := q
      exact L2.pe_callTy hc (c.gl q1) (c.blt _ hx) hv (p.pa (by simp [q2])) hn hdb (star_ns q2 _ _) rfl
    · cases h
  · cases h
theorem call2B (c : Ctx Nw d C X) {x : Str} {id : String} {e : Expr} {es : List Expr} {ts : List TE} {r : List V → L2.Hp → VK → Prop} (h : callShp2 C x e = some es) (p : PL X es ts) (hc : CallR X (.builtin id) r) (hv : bootBuiltins x = some (.builtin id)) (hx : x ∈ bltNames)
    (hn : x ≠ "__name__" := by decide) (hdb : (x == ("__debug__" : Str)) = false := by decide) : PE X e (tP ts r) := by
  unfold callShp2 at h
  split at h
  · split at h
    · cases h
      rename_i q
      obtain ⟨rfl, q1, q2, q3⟩ := q
      exact L2.pe_callB hc (c.gl q1) (c.blt _ hx) hv (p.pa (by simp [q2, q3])) hn hdb (star_ns q2 _ _) (star_all (by simp [q3]) _ _)
    · cases h
  · cases h
theorem ixS {e : Expr} {es : List Expr} {ts : List TE} (h : ixShp e = some es) (p : PL X es ts) : PE X e (tP ts (rd2 (L2.rIx (kx X)))) := by
  unfold ixShp at h
  split at h
  · split at h
    · cases h
      rename_i a b pos q
      refine pe_ixL L2.ix_seq p fun o i => ?_
      cases b <;> first | (cases q; done) | rfl
    · cases h
  · cases h
theorem slS {lo hi : Bool} {e : Expr} {es : List Expr} {ts : List TE} (h : slShp lo hi e = some es) (p : PL X es ts) : PE X e (tP ts (rdSl (kx X) lo hi)) := by
  unfold slShp at h
  split at h
  · split at h
    · cases h
      rename_i q
      obtain ⟨rfl, rfl⟩ := q
      exact pe_slL p
    · cases h
  · cases h
theorem tupS {e : Expr} {es : List Expr} {ts : List TE} (h : tupShp e = some es) (p : PL X es ts) : PE X e (tP ts rdTup) := by
  unfold tupShp at h
  split at h
  · split at h
    · cases h
      exact pe_tupL p (by assumption)
    · cases h
  · cases h
theorem lstS {e : Expr} {es : List Expr} {ts : List TE} (h : lstShp e = some es) (p : PL X es ts) : PE X e (tP ts rdLst) := by
  unfold lstShp at h
  split at h
  · split at h
    · cases h
      exact pe_lstL p (by assumption)
    · cases h
  · cases h
theorem negS {e : Expr} {es : List Expr} {ts : List TE} (h : negShp e = some es) (p : PL X es ts) : PE X e (tP ts (rd1 (L2.rU fun i => .int (-i)))) := by
  unfold negShp at h
  split at h
  · cases h
    obtain ⟨ta, rfl, ha⟩ := p.one
    exact L2.pe_un L2.un_neg ha
  · cases h
theorem rgS (c : Ctx Nw d C X) {e : Expr} {es : List Expr} {ts : List TE} (h : rgShp C "list" e = some es) (p : PL X es ts) : PE X e (tP ts (rd1 fun x H Q => ∃ n, x = .int n ∧ L2.RgOk 0 n ∧ ∀ q, H q = none → Q (.ref q) (upd H q (.lst (L2.rgV 0 n))))) := by
  unfold rgShp at h
  split at h
  · split at h
    · cases h
      rename_i q
      obtain ⟨rfl, rfl, q1, q2, q3⟩ := q
      exact pe_lrg c.calm (c.gl q1) (c.blt _ (by decide)) (c.gl q2) (c.blt _ (by decide)) q3 p
    · cases h
  · cases h
theorem rgST (c : Ctx Nw d C X) {e : Expr} {es : List Expr} {ts : List TE} (h : rgShp C "tuple" e = some es) (p : PL X es ts) : PE X e (tP ts (rd1 fun x H Q => ∃ n, x = .int n ∧ L2.RgOk 0 n ∧ ∀ q, H q = none → Q (.ref q) (upd H q (.tup (L2.rgV 0 n))))) := by
  unfold rgShp at h
  split at h
  · split at h
    · cases h
      rename_i q
      obtain ⟨rfl, rfl, q1, q2, q3⟩ := q
      exact pe_trg c.calm (c.gl q1) (c.blt _ (by decide)) (c.gl q2) (c.blt _ (by decide)) q3 p
    · cases h
  · cases h
theorem RepL.rg {K : KX} {H : L2.Hp} {bt : Gh} {h : Hp} (f : Nat → Int) : ∀ l : List Nat, RepL K H bt h (l.map fun i => W.int (f i)) (l.map fun i => V.int (f i))
  | [] => rfl
  | n :: ns => ⟨_, _, rfl, rfl, RepL.rg f ns⟩
theorem rd_rangeL : RdOk (kx X) .rangeL (rd1 fun x H Q => ∃ n, x = .int n ∧ L2.RgOk 0 n ∧ ∀ q, H q = none → Q (.ref q) (upd H q (.lst (L2.rgV 0 n)))) := RdOk.of1 rfl (fun H bt h a x w Q ok r1 e q => by
  cases a <;> first | (cases e; done) | skip
  cases r1
  rename_i n
  have e : (if n ≤ 16777216 ∧ -(2 ^ 62) ≤ n then some (W.lst ((List.range n.toNat).map fun i => .int (i : Nat))) else none) = some w := e
  split at e
  · cases e
    rename_i hn
    refine ⟨n, rfl, ⟨by omega, by omega, by omega, by omega, by omega⟩, fun p np => q _ _ (post_newL np ?_)⟩
    have := RepL.rg (K := (kx X)) (H := H) (bt := bt) (h := h) (fun i => (0 : Int) + (i : Nat)) (List.range (n - 0).toNat)
    unfold L2.rgV
    simp only [Int.sub_zero] at this ⊢
    simpa using this
  · cases e) (one_of (fun a b => by cases a <;> cases b <;> rfl) (by decide) (by decide) (fun _ _ => by simp))
theorem rd_rangeT : RdOk (kx X) .rangeT (rd1 fun x H Q => ∃ n, x = .int n ∧ L2.RgOk 0 n ∧ ∀ q, H q = none → Q (.ref q) (upd H q (.tup (L2.rgV 0 n)))) := RdOk.of1 rfl (fun H bt h a x w Q ok r1 e q => by
  cases a <;> first | (cases e; done) | skip
  cases r1
  rename_i n
  have e : (if n ≤ 16777216 ∧ -(2 ^ 62) ≤ n then some (W.tup ((List.range n.toNat).map fun i => .int (i : Nat))) else none) = some w := e
  split at e
  · cases e
    rename_i hn
    refine ⟨n, rfl, ⟨by omega, by omega, by omega, by omega, by omega⟩, fun p np => q _ _ (post_newT ok np ?_)⟩
    have := RepL.rg (K := (kx X)) (H := H) (bt := bt) (h := h) (fun i => (0 : Int) + (i : Nat)) (List.range (n - 0).toNat)
    unfold L2.rgV
    simp only [Int.sub_zero] at this ⊢
    simpa using this
  · cases e) (one_of (fun a b => by cases a <;> cases b <;> rfl) (by decide) (by decide) (fun _ _ => by simp))
theorem isiS (c : Ctx Nw d C X) {T : Tk} {e : Expr} {es : List Expr} {ts : List TE} (h : isiShp C T e = some es) (p : PL X es ts) (hT : bootBuiltins (Str.ofString T.nm) = some (.type T.nm)) (hx : Str.ofString T.nm ∈ bltNames) (hn : Str.ofString T.nm ≠ "__name__") (hdb : (Str.ofString T.nm == ("__debug__" : Str)) = false) : PE X e (tP ts (rdIsi (kx X) T)) := by
  unfold isiShp at h
  split at h
  · split at h
    · cases h
      rename_i q
      obtain ⟨rfl, rfl, q1, q2, q3⟩ := q
      obtain ⟨ta, rfl, ha⟩ := p.one
      have hb := fun pos => L2.pe_bltn (X := X) (pos := pos) (c.gl q2) (c.blt _ hx) hT (v := .ty T.nm) rfl hn hdb
      refine PE.imp (L2.pe_callB (t := L2.tCons ta (L2.tCons (L2.tC (.ty T.nm)) L2.tNil)) L2.call_isi (c.gl q1) (c.blt _ (by decide)) PyProof.Rows.boot_isinstance (L2.pa_cons ha (L2.pa_cons (hb _) L2.pa_nil rfl) (star_ns q3 _ _)) (by decide) (by decide) (star_ns q3 _ _) rfl) fun σ H Q q => ?_
      exact q
    · cases h
  · cases h
theorem setS (c : Ctx Nw d C X) {x : Str} {id : String} {e : Expr} {es : List Expr} {ts : List TE} {r1 r2 : List V → L2.Hp → VK → Prop} (h : setShp C x e = some es) (p : PL X es ts) (h1 : CallR X (.type "set") r1) (h2 : CallR X (.builtin id) r2) (hv : bootBuiltins x = some (.builtin id)) (hx : x ∈ bltNames)
    (hn : x ≠ "__name__" := by decide) (hdb : (x == ("__debug__" : Str)) = false := by decide) : PE X e (tP ts fun vs H Q => r1 vs H fun v H1 => r2 [v] H1 Q) := by
  unfold setShp at h
  split at h
  · split at h
    · cases h
      rename_i q
      obtain ⟨rfl, rfl, q1, q2, q3⟩ := q
      refine PE.imp (L2.pe_callB h2 (c.gl q1) (c.blt _ hx) hv (L2.pa_cons (L2.pe_callTy h1 (c.gl q2) (c.blt _ (by decide)) (by decide +kernel) (p.pa (by simp [q3])) (by decide) (by decide) (star_ns q3 _ _) rfl) L2.pa_nil (star_ns rfl _ _)) hn hdb (star_ns rfl _ _) rfl) fun σ H Q q => ?_
      exact q
    · cases h
  · cases h
theorem tk_ok (T : Tk) : bootBuiltins (Str.ofString T.nm) = some (.type T.nm) ∧ Str.ofString T.nm ∈ bltNames ∧ Str.ofString T.nm ≠ "__name__" ∧ (Str.ofString T.nm == ("__debug__" : Str)) = false := by
  cases T <;> exact ⟨by decide +kernel, by decide +kernel, by decide +kernel, by decide +kernel⟩
theorem prim_sound (c : Ctx Nw d C X) : ∀ (p : Prim) (e : Expr) (es : List Expr) (ts : List TE), shp C p e = some es → PL X es ts → ∃ rd, RdOk (kx X) p rd ∧ PE X e (tP ts rd)
  | .add, e, es, ts, h, p => ⟨_, rd_add, binS h p op_addA⟩
  | .sub, e, es, ts, h, p => ⟨_, rd_sub, binS h p L2.op_sub⟩
  | .mul, e, es, ts, h, p => ⟨_, rd_mul, binS h p op_mulA⟩
  | .mod, e, es, ts, h, p => ⟨_, rd_mod, binS h p L2.op_modN⟩
  | .fdiv, e, es, ts, h, p => ⟨_, rd_fdiv, binS h p L2.op_fdivN⟩
  | .pow, e, es, ts, h, p => ⟨_, rd_pow, binS h p L2.op_pow⟩
  | .neg, e, es, ts, h, p => ⟨_, rd_neg, negS h p⟩
  | .eq, e, es, ts, h, p => ⟨_, rd_eq, cmpS h p (op_eqA (by have := c.units; omega))⟩
  | .ne, e, es, ts, h, p => ⟨_, rd_ne, cmpS h p (op_neA (by have := c.units; omega))⟩
  | .lt, e, es, ts, h, p => ⟨_, rd_cmp (f := fun i j => decide (i < j)) rfl (two_of (fun a => by cases a <;> rfl) (by decide) (by decide) (fun _ _ => by simp) (by decide) (by decide)) fun _ _ => rfl, cmpS h p L2.op_lt⟩
  | .le, e, es, ts, h, p => ⟨_, rd_cmp (f := fun i j => decide (i ≤ j)) rfl (two_of (fun a => by cases a <;> rfl) (by decide) (by decide) (fun _ _ => by simp) (by decide) (by decide)) fun _ _ => rfl, cmpS h p L2.op_le⟩
  | .gt, e, es, ts, h, p => ⟨_, rd_cmp (f := fun i j => decide (j < i)) rfl (two_of (fun a => by cases a <;> rfl) (by decide) (by decide) (fun _ _ => by simp) (by decide) (by decide)) fun _ _ => rfl, cmpS h p L2.op_gt⟩
  | .ge, e, es, ts, h, p => ⟨_, rd_cmp (f := fun i j => decide (j ≤ i)) rfl (two_of (fun a => by cases a <;> rfl) (by decide) (by decide) (fun _ _ => by simp) (by decide) (by decide)) fun _ _ => rfl, cmpS h p L2.op_ge⟩
  | .mem, e, es, ts, h, p => ⟨_, rd_mem, cmpS h p (op_memA c.units)⟩
  | .nmem, e, es, ts, h, p => ⟨_, rd_nmem, cmpS h p (op_nmemA c.units)⟩
  | .isN, e, es, ts, h, p => ⟨_, rd_isN, isS h p⟩
  | .notN, e, es, ts, h, p => ⟨_, rd_notN, notS h p⟩
  | .idx, e, es, ts, h, p => ⟨_, rd_idx, ixS h p⟩
  | .sl lo hi, e, es, ts, h, p => ⟨_, rd_sl lo hi, slS h p⟩
  | .tupd, e, es, ts, h, p => ⟨_, rd_tupd, tupS h p⟩
  | .lstd, e, es, ts, h, p => ⟨_, rd_lstd, lstS h p⟩
  | .len, e, es, ts, h, p => ⟨_, rd_len, call1B c h p call_lenA boot_len (by decide)⟩
  | .int1, e, es, ts, h, p => ⟨_, rd_int1, call1T c h p L2.call_int1 (by decide +kernel) (by decide)⟩
  | .abs, e, es, ts, h, p => ⟨_, rd_abs, call1B c h p L2.call_abs (by decide +kernel) (by decide)⟩
  | .str1, e, es, ts, h, p => ⟨_, rd_str1, call1T c h p L2.call_str_int (by decide +kernel) (by decide)⟩
  | .list1, e, es, ts, h, p => ⟨_, rd_list1, call1T c h p L2.call_list_of boot_list (by decide)⟩
  | .tuple1, e, es, ts, h, p => ⟨_, rd_tuple1, call1T c h p L2.call_tuple_of boot_tuple (by decide)⟩
  | .sorted1, e, es, ts, h, p => ⟨_, rd_sorted1, call1B c h p (cr_sortX (by have := c.units; omega)) (by decide +kernel) (by decide)⟩
  | .all1, e, es, ts, h, p => ⟨_, rd_all1, call1B c h p (L2.cr_all c.calm) (by decide +kernel) (by decide)⟩
  | .any1, e, es, ts, h, p => ⟨_, rd_any1, call1B c h p (L2.cr_any c.calm) (by decide +kernel) (by decide)⟩
  | .sum1, e, es, ts, h, p => ⟨_, rd_sum1, call1B c h p (L2.cr_sum c.calm) (by decide +kernel) (by decide)⟩
  | .min1, e, es, ts, h, p => ⟨_, rd_min1, call1B c h p (L2.cr_min c.calm) (by decide +kernel) (by decide)⟩
  | .max1, e, es, ts, h, p => ⟨_, rd_max1, call1B c h p (L2.cr_max c.calm) (by decide +kernel) (by decide)⟩
  | .min2, e, es, ts, h, p => ⟨_, rd_min2, call2B c h p (L2.call_min2 c.calm) (by decide +kernel) (by decide)⟩
  | .max2, e, es, ts, h, p => ⟨_, rd_max2, call2B c h p (L2.call_max2 c.calm) (by decide +kernel) (by decide)⟩
  | .rangeL, e, es, ts, h, p => ⟨_, rd_rangeL, rgS c h p⟩
  | .rangeT, e, es, ts, h, p => ⟨_, rd_rangeT, rgST c h p⟩
  | .isi T, e, es, ts, h, p => ⟨_, rd_isi T, isiS c h p (tk_ok T).1 (tk_ok T).2.1 (tk_ok T).2.2.1 (tk_ok T).2.2.2⟩
  | .sset, e, es, ts, h, p => ⟨_, rd_sset, setS c h p (cr_setA c.calm (by have := c.units; omega)) (cr_sortA c.calm (by have := c.units; omega)) (by decide +kernel) (by decide)⟩
  | .lset, e, es, ts, h, p => ⟨_, rd_lset, setS c h p (cr_setA c.calm (by have := c.units; omega)) cr_lenA (by decide +kernel) (by decide)⟩
  | .set1, _, _, _, h, _ => by cases h
end
end Ow

/-! Ow6: targets and what is walked. -/
namespace Ow
open PySem PySem.Spec PyProof.Rows
open L2 (V SqL SqT Rd HO upd upd_same upd_ne TE TT TA TS VK Cx PE PT PA PS PSs WX OpR UnR CallR R2 Room Gl Sp XK CXT FnOk Binds TG TGs PG PGs It TI PI Inv RelV Vals thn wipe)

/-! ### slots -/
section
variable {K : KX} {σ σ' : L2.St} {H H' : L2.Hp} {bt bt' : Gh} {ρ ρ' : Env} {h h' : Hp}
theorem Stt.set (s : Stt K σ H bt ρ h) {i : Nat} {w : W} {v : V} (r : Rep K H bt h w v) : Stt K (σ.set i (some v)) H bt (ρ.set i (some w)) h := by
  refine ⟨s.hp, fun j u e => ?_, by rw [List.length_set, List.length_set]; exact s.len⟩
  by_cases hi : i = j
  · subst hi
    by_cases hl : i < ρ.length
    · rw [List.getElem?_set_self hl] at e
      cases e
      exact ⟨v, List.getElem?_set_self (by rw [← s.len]; exact hl), r⟩
    · rw [List.getElem?_eq_none (by rw [List.length_set]; omega)] at e
      cases e
  · rw [List.getElem?_set_ne hi] at e
    obtain ⟨v', e', r'⟩ := s.sl j u e
    exact ⟨v', by rw [List.getElem?_set_ne hi]; exact e', r'⟩
theorem Stt.none (s : Stt K σ H bt ρ h) {i : Nat} {o : Option V} : Stt K (σ.set i o) H bt (ρ.set i Option.none) h := by
  refine ⟨s.hp, fun j u e => ?_, by rw [List.length_set, List.length_set]; exact s.len⟩
  by_cases hi : i = j
  · subst hi
    by_cases hl : i < ρ.length
    · rw [List.getElem?_set_self hl] at e
      cases e
    · rw [List.getElem?_eq_none (by rw [List.length_set]; omega)] at e
      cases e
  · rw [List.getElem?_set_ne hi] at e
    obtain ⟨v', e', r'⟩ := s.sl j u e
    exact ⟨v', by rw [List.getElem?_set_ne hi]; exact e', r'⟩
theorem Stt.wipe (s : Stt K σ H bt ρ h) : ∀ is : List Nat, Stt K (L2.wipe σ is) H bt (wipeE ρ is) h
  | [] => s
  | i :: is => by
    show Stt K ((L2.wipe σ is).set i Option.none) H bt ((wipeE ρ is).set i Option.none) h
    exact (Stt.wipe s is).none
/-- forgotten on our side alone -/
theorem Stt.wipe1 (s : Stt K σ H bt ρ h) : ∀ is : List Nat, Stt K σ H bt (wipeE ρ is) h
  | [] => s
  | i :: is => by
    have t := Stt.wipe1 s is
    show Stt K σ H bt ((wipeE ρ is).set i Option.none) h
    refine ⟨t.hp, fun j u e => ?_, by rw [List.length_set]; exact t.len⟩
    by_cases hi : i = j
    · subst hi
      by_cases hl : i < (wipeE ρ is).length
      · rw [List.getElem?_set_self hl] at e
        cases e
      · rw [List.getElem?_eq_none (by rw [List.length_set]; omega)] at e
        cases e
    · rw [List.getElem?_set_ne hi] at e
      exact t.sl j u e
/-- slots that differ in is alone -/
def Out (is : List Nat) (σ σ' : L2.St) : Prop := σ'.length = σ.length ∧ ∀ i, i ∉ is → σ'[i]? = σ[i]?
theorem Out.refl {is : List Nat} : Out is σ σ := ⟨rfl, fun _ _ => rfl⟩
theorem Out.trans {is : List Nat} {σ2 : L2.St} (a : Out is σ σ') (b : Out is σ' σ2) : Out is σ σ2 := ⟨b.1.trans a.1, fun i hi => (b.2 i hi).trans (a.2 i hi)⟩
theorem Out.mono {is js : List Nat} (a : Out is σ σ') (h : ∀ i ∈ is, i ∈ js) : Out js σ σ' := ⟨a.1, fun i hi => a.2 i fun z => hi (h i z)⟩
theorem Out.set {i : Nat} {o : Option V} : Out [i] σ (σ.set i o) := ⟨by simp, fun j hj => List.getElem?_set_ne fun z => hj (by simp [z])⟩
theorem wipe_get : ∀ (is : List Nat) (σ : L2.St) (i : Nat), (L2.wipe σ is)[i]? = if i ∈ is then σ[i]?.map (fun _ => Option.none) else σ[i]?
  | [], σ, i => by simp [L2.wipe]
  | j :: is, σ, i => by
    show ((L2.wipe σ is).set j Option.none)[i]? = _
    have ih := wipe_get is σ i
    by_cases hi : j = i
    · subst hi
      by_cases hl : j < σ.length
      · rw [List.getElem?_set_self (by rw [L2.wipe_length]; exact hl), if_pos (by simp), List.getElem?_eq_getElem hl]
        rfl
      · rw [List.getElem?_eq_none (by rw [List.length_set, L2.wipe_length]; omega), if_pos (by simp), List.getElem?_eq_none (by omega)]
        rfl
    · rw [List.getElem?_set_ne hi, ih]
      by_cases hm : i ∈ is
      · rw [if_pos hm, if_pos (by simp [hm])]
      · rw [if_neg hm, if_neg (by simp [hm]; exact fun z => hi z.symm)]
theorem Out.wipe {is : List Nat} (a : Out is σ σ') : L2.wipe σ' is = L2.wipe σ is := by
  apply List.ext_getElem?
  intro i
  rw [wipe_get, wipe_get]
  by_cases hi : i ∈ is
  · rw [if_pos hi, if_pos hi]
    have a1 := a.1
    by_cases hl : i < σ.length
    · rw [List.getElem?_eq_getElem hl, List.getElem?_eq_getElem (by rw [a.1]; exact hl)]
      rfl
    · rw [List.getElem?_eq_none (show σ'.length ≤ i by omega), List.getElem?_eq_none (show σ.length ≤ i by omega)]
  · rw [if_neg hi, if_neg hi]
    exact a.2 i hi
theorem Out.wiped {is : List Nat} : Out is σ (L2.wipe σ is) := ⟨L2.wipe_length σ is, fun i hi => by rw [wipe_get, if_neg hi]⟩
end

/-! ### targets -/
mutual
def mT (C : MC) : Tg → Expr → Bool
  | .nm i, .Name x _ => decide (C.N[i]? = some x) && ownB C x
  | .tp ts, .Tuple es _ _ => mTs C ts es
  | _, _ => false
def mTs (C : MC) : List Tg → List Expr → Bool
  | [], [] => true
  | t :: ts, e :: es => ns e && mT C t e && mTs C ts es
  | _, _ => false
end
/-- a target's reading, by the evaluator -/
def gT (K : KX) (t : Tg) : TG := fun v σ H Q => ∃ bt h ρ ρ' w, Stt K σ H bt ρ h ∧ Rep K H bt h w v ∧ bindT t w ρ = some ρ' ∧ ∀ σ', Stt K σ' H bt ρ' h → Out t.names σ σ' → Q σ' H
def gTs (K : KX) (ts : List Tg) : TGs := fun vs σ H Q => ∃ bt h ρ ρ' ws, Stt K σ H bt ρ h ∧ RepL K H bt h ws vs ∧ bindTs ts ws ρ = some ρ' ∧ ∀ σ', Stt K σ' H bt ρ' h → Out (Tg.namesL ts) σ σ' → Q σ' H
theorem assignEach_ns {e : Expr} (h : ns e = true) (es : List Expr) (env : PySem.Env) : assignEach (e :: es) env = (false, assign e env) :: assignEach es env := by
  cases e <;> first | rfl | cases h
theorem assignEach_all : ∀ {ts : List Tg} {es : List Expr} {C : MC} (env : PySem.Env), mTs C ts es = true → (assignEach es env).length = ts.length ∧ (assignEach es env).findIdx? (·.1) = none
  | [], [], _, env, _ => ⟨rfl, rfl⟩
  | [], _ :: _, _, _, h => by cases h
  | _ :: _, [], _, _, h => by cases h
  | t :: ts, e :: es, C, env, h => by
    simp only [mTs, Bool.and_eq_true] at h
    obtain ⟨h1, h2⟩ := assignEach_all (C := C) env h.2
    rw [assignEach_ns h.1.1]
    refine ⟨by rw [List.length_cons, List.length_cons, h1], ?_⟩
    rw [List.findIdx?_cons, h2]
    rfl
theorem PG.imp {X : Cx} {e : Expr} {t t' : TG} (h : PG X e t) (i : ∀ v σ H Q, t' v σ H Q → t v σ H Q) : PG X e t' := ⟨fun pins s σ H v u Q I r q => h.run pins s σ H v u Q I r (i v σ H Q q)⟩
theorem PGs.imp {X : Cx} {e : List Expr} {t t' : TGs} (h : PGs X e t) (i : ∀ v σ H Q, t' v σ H Q → t v σ H Q) : PGs X e t' := ⟨fun pins s σ H v u Q I r q => h.run pins s σ H v u Q I r (i v σ H Q q)⟩
theorem bindTs_len : ∀ {ts : List Tg} {ws : List W} {ρ ρ' : Env}, bindTs ts ws ρ = some ρ' → ws.length = ts.length
  | [], [], _, _, _ => rfl
  | [], _ :: _, _, _, e => by simp [bindTs] at e
  | _ :: _, [], _, _, e => by simp [bindTs] at e
  | t :: ts, w :: ws, ρ, ρ', e => by
    simp only [bindTs, Option.bind_eq_some_iff] at e
    obtain ⟨r, _, e⟩ := e
    rw [List.length_cons, List.length_cons, bindTs_len e]
section
variable {Nw d : Nat} {C : MC} {X : Cx}
mutual
theorem tg_sound (c : Ctx Nw d C X) : ∀ (t : Tg) (e : Expr), mT C t e = true → PG X e (gT (kx X) t)
  | .nm i, e, h => by
    cases e <;> first | (simp [mT] at h; done) | skip
    rename_i x pos
    simp only [mT, Bool.and_eq_true, decide_eq_true_eq] at h
    obtain ⟨h1, h2⟩ := h
    have hl : L2.Loc X.env.scope x ∧ (X.fn x = true ∨ X.env.scope.names.lookup x = some .local) := by
      unfold L2.Loc
      rw [c.sc]
      unfold ownB at h2
      split at h2
      · rename_i q
        exact ⟨.inl (c.loc _ q), .inr (c.loc _ q)⟩
      · rename_i q
        exact ⟨.inr (c.cel _ q).1, .inl (c.cel _ q).2⟩
      · cases h2
    refine PG.imp (L2.pg_name (by rw [c.hN]; exact c.nd) (by rw [c.hN]; exact h1) hl.1 hl.2) fun v σ H Q q => ?_
    obtain ⟨bt, hh, ρ, ρ', w, s, r, e, q⟩ := q
    simp only [bindT] at e
    split at e
    · cases e
      exact q _ (s.set r) Out.set
    · cases e
  | .tp ts, e, h => by
    cases e <;> first | (simp [mT] at h; done) | skip
    rename_i es k pos
    simp only [mT] at h
    obtain ⟨h1, h2⟩ := assignEach_all X.env h
    refine PG.imp (L2.pg_tup c.calm (tgs_sound c ts es h) h1 h2) fun v σ H Q q => ?_
    obtain ⟨bt, hh, ρ, ρ', w, s, r, e, q⟩ := q
    cases w <;> first | (simp [bindT] at e; done) | skip
    rename_i ws
    simp only [bindT] at e
    obtain ⟨a, vs, rfl, sq, l⟩ := r
    refine ⟨a, vs, rfl, sq, ?_, bt, hh, ρ, ρ', ws, s, l, e, q⟩
    rw [← l.length, bindTs_len e]
theorem tgs_sound (c : Ctx Nw d C X) : ∀ (ts : List Tg) (es : List Expr), mTs C ts es = true → PGs X es (gTs (kx X) ts)
  | [], [], _ => PGs.imp L2.pgs_nil fun vs σ H Q q => by
    obtain ⟨bt, hh, ρ, ρ', ws, s, r, e, q⟩ := q
    cases ws with
    | nil =>
      simp only [bindTs, Option.some.injEq] at e
      subst e
      exact ⟨r, q _ s Out.refl⟩
    | cons _ _ => simp [bindTs] at e
  | [], _ :: _, h => by cases h
  | _ :: _, [], h => by cases h
  | t :: ts, e :: es, h => by
    simp only [mTs, Bool.and_eq_true] at h
    refine PGs.imp (L2.pgs_cons (tg_sound c t e h.1.2) (tgs_sound c ts es h.2) (by rw [assignEach_ns h.1.1]; rfl)) fun vs σ H Q q => ?_
    obtain ⟨bt, hh, ρ, ρ', ws, s, r, e, q⟩ := q
    cases ws with
    | nil => simp [bindTs] at e
    | cons w ws =>
      obtain ⟨v, vr, rfl, r1, r2⟩ := r
      simp only [bindTs, Option.bind_eq_some_iff] at e
      obtain ⟨ρ1, e1, e⟩ := e
      refine ⟨v, vr, rfl, bt, hh, ρ, ρ1, w, s, r1, e1, fun σ1 s1 o1 => ?_⟩
      exact ⟨bt, hh, ρ1, ρ', ws, s1, r2, e, fun σ2 s2 o2 => q σ2 s2 ((o1.mono fun i hi => List.mem_append_left _ hi).trans (o2.mono fun i hi => List.mem_append_right _ hi))⟩
end

/-! ### what is walked -/
/-- the walk J gives the items, from any state where the sources are as they were -/
def ItOk (K : KX) (k : ItK) (ws : List W) (vs : List V) (its : List W) (J : It) : Prop :=
  ∀ H bt h, HeapOk K H bt h → RepL K H bt h ws vs → itemsOf k (ws.map (deref h)) = some its →
    (∀ i, i < its.length → J.go i H) ∧ J.stop its.length H ∧ ∀ i w x H', its[i]? = some w → J.yld i H x H' → L2.Same H H' ∧ Rep K H' bt h w x
def iterShp (C : MC) (k : ItK) (tg : Expr) (e : Expr) : Option (List Expr) := match k with
  | .seq => some [e]
  | .rng1 => callShp1 C "range" e
  | .rng2 => callShp2 C "range" e
  | .enum => (match tg with
    | .Tuple _ _ _ => callShp1 C "enumerate" e
    | _ => none)
  | _ => none
/-- the sources are read, then walked -/
def kSrc (K : KX) (k : ItK) (R : It → L2.Hp → Prop) : List V → L2.Hp → Prop := fun vs H1 => ∃ bt h ws its, HeapOk K H1 bt h ∧ RepL K H1 bt h ws vs ∧ itemsOf k (ws.map (deref h)) = some its ∧ ∀ J, ItOk K k ws vs its J → R J H1
theorem OkEs.mono {K : KX} {σ : L2.St} {H : L2.Hp} {bt : Gh} {h : Hp} {Wx : WX} {b : Nat} {m : R (List W)} {Q Q' : List V → L2.Hp → Prop} (q : OkEs K Wx σ H bt b h Q m) (i : ∀ v H', Q v H' → Q' v H') : OkEs K Wx σ H bt b h Q' m := by
  cases m with
  | bad => exact q
  | exc e h1 => exact q
  | ok w h1 => exact fun v H1 bt1 x ok p r => i _ _ (q v H1 bt1 x ok p r)
theorem tEvs.mono {K : KX} {σ : L2.St} {H : L2.Hp} {Wx : WX} {m : Nat → Env → Hp → R (List W)} {Q Q' : List V → L2.Hp → Prop} (q : tEvs K Wx m σ H Q) (i : ∀ v H', Q v H' → Q' v H') : tEvs K Wx m σ H Q' := by
  obtain ⟨b, bt, ρ, h, s, hb, q⟩ := q
  exact ⟨b, bt, ρ, h, s, hb, q.mono i⟩
def on1 (f : V → L2.Hp → Prop) : List V → L2.Hp → Prop
  | [x], H => f x H
  | _, _ => False
theorem PI.imp {tg it : Expr} {t t' : TI} (h : PI X tg it t) (i : ∀ σ H Q, t' σ H Q → t σ H Q) : PI X tg it t' := ⟨fun pins s σ H R I q => h.run pins s σ H R I (i σ H R q)⟩
/-- a list or a tuple -/
theorem pi_seq {tg l : Expr} {tl : TE} (hl : PE X l tl) : PI X tg l (fun σ H R => tl σ H fun x H1 => ∃ a, x = .ref a ∧ (((∃ xs, SqL (kx X) H1 a xs) ∧ R (L2.Itl (kx X) a) H1) ∨ ((∃ xs, SqT (kx X) H1 a xs) ∧ R (L2.Itt (kx X) a) H1))) := by
  refine ⟨fun pins s σ H R I h => ?_⟩
  refine thn (hl.run pins s σ H _ I h) fun v s1 ⟨x, H1, I1, r1, q1⟩ => ?_
  obtain ⟨a, e, ⟨⟨xs, hq⟩, q⟩ | ⟨⟨xs, hq⟩, q⟩⟩ := q1
  · subst e
    cases r1
    obtain ⟨its, rv, p, hz⟩ := I1.list hq
    refine wpAny_pyIter_list p.isList ?_
    refine ⟨s1.heap.objs.size, [s1.heap.objs.size], _, _, H1, rfl, I1.kept (t' := s1.toks) fun b o e => Heap.get?_push_of_some _ e, L2.turn_list a _, ⟨_, Heap.get?_push_size _ rfl, rfl, rfl⟩, fun b hb => ?_, q⟩
    have e : b = s1.heap.objs.size := by simpa using hb
    subst e
    exact I1.fpOk (Nat.le_refl _) (I1.hok.fresh (Nat.le_refl _))
  · subst e
    cases r1
    obtain ⟨its, rv, p, hz⟩ := I1.tuple hq
    refine wpAny_pyIter_tuple (show s1.heap.IsTuple a its.toArray from p) ?_
    refine ⟨s1.heap.objs.size, [s1.heap.objs.size], _, _, H1, rfl, I1.kept (t' := s1.toks) fun b o e => Heap.get?_push_of_some _ e, L2.turn_tuple a _, ⟨_, Heap.get?_push_size _ rfl, rfl, rfl⟩, fun b hb => ?_, q⟩
    have e : b = s1.heap.objs.size := by simpa using hb
    subst e
    exact I1.fpOk (Nat.le_refl _) (I1.hok.fresh (Nat.le_refl _))
theorem itl_ok {K : KX} {H : L2.Hp} {bt : Gh} {h : Hp} {a : Addr} {xs : List V} {its : List W} (sq : SqL K H a xs) (l : RepL K H bt h its xs) :
    (∀ i, i < its.length → (L2.Itl K a).go i H) ∧ (L2.Itl K a).stop its.length H ∧ ∀ i w x H', its[i]? = some w → (L2.Itl K a).yld i H x H' → L2.Same H H' ∧ Rep K H' bt h w x := by
  refine ⟨fun i hi => ?_, ⟨xs, sq, by rw [l.length]; exact Nat.le_refl _⟩, fun i w x H' e y => ?_⟩
  · rw [l.length] at hi
    exact ⟨xs, xs[i], sq, by simp [hi]⟩
  · obtain ⟨rfl, y⟩ := y
    obtain ⟨v, e2, r⟩ := l.get e
    rw [y xs sq] at e2
    cases e2
    exact ⟨L2.Same.refl _, r⟩
theorem itt_ok {K : KX} {H : L2.Hp} {bt : Gh} {h : Hp} {a : Addr} {xs : List V} {its : List W} (sq : SqT K H a xs) (l : RepL K H bt h its xs) :
    (∀ i, i < its.length → (L2.Itt K a).go i H) ∧ (L2.Itt K a).stop its.length H ∧ ∀ i w x H', its[i]? = some w → (L2.Itt K a).yld i H x H' → L2.Same H H' ∧ Rep K H' bt h w x := by
  refine ⟨fun i hi => ?_, ⟨xs, sq, by rw [l.length]; exact Nat.le_refl _⟩, fun i w x H' e y => ?_⟩
  · rw [l.length] at hi
    exact ⟨xs, xs[i], sq, by simp [hi]⟩
  · obtain ⟨rfl, y⟩ := y
    obtain ⟨v, e2, r⟩ := l.get e
    rw [y xs sq] at e2
    cases e2
    exact ⟨L2.Same.refl _, r⟩
/-- a list: not a tuple at any time -/
def lstW : W → Bool
  | .tup _ => false
  | _ => true
theorem seq_J {K : KX} {w : W} {v : V} {its : List W} : ∃ f : Addr → It, ∀ H bt h, HeapOk K H bt h → Rep K H bt h w v → items (deref h w) = some its → ∃ a, v = .ref a ∧ (if lstW w = true then (f a = L2.Itl K a ∧ ∃ xs, SqL K H a xs ∧ RepL K H bt h its xs) else (f a = L2.Itt K a ∧ ∃ xs, SqT K H a xs ∧ RepL K H bt h its xs)) := by
  by_cases hw : lstW w = true
  · refine ⟨fun a => L2.Itl K a, fun H bt h ok r e => ?_⟩
    simp only [hw, if_true, true_and]
    have rt := r.t ok
    cases w <;> first | (simp [deref, items] at e; done) | (cases hw; done) | skip
    · obtain ⟨p, ys, rfl, sq, l⟩ := lst_seq rt (.inl rfl)
      simp only [deref, items, Option.some.injEq] at e
      subst e
      exact ⟨p, rfl, ys, sq, l⟩
    · obtain ⟨p, ys, rfl, sq, l⟩ := lst_seq rt (.inr rfl)
      simp only [deref, items, Option.some.injEq] at e
      subst e
      exact ⟨p, rfl, ys, sq, l⟩
    · rename_i n
      cases q : h[n]? with
      | none => simp [deref, q, items] at e
      | some o =>
        cases o <;> first | (simp [deref, q, items] at e; done) | skip
        simp only [deref, q] at rt e
        simp only [items, Option.some.injEq] at e
        subst e
        obtain ⟨p, ys, rfl, sq, l⟩ := lst_seq rt (.inl rfl)
        exact ⟨p, rfl, ys, sq, l⟩
  · refine ⟨fun a => L2.Itt K a, fun H bt h ok r e => ?_⟩
    simp only [hw, if_false, true_and]
    cases w <;> first | (exact absurd rfl hw) | skip
    simp only [deref, items, Option.some.injEq] at e
    subst e
    obtain ⟨a, vs, rfl, sq, l⟩ := r
    exact ⟨a, rfl, vs, sq, l⟩
theorem RepL.one' {K : KX} {H : L2.Hp} {bt : Gh} {h : Hp} {w : W} {vs : List V} (l : RepL K H bt h [w] vs) : ∃ v, vs = [v] ∧ Rep K H bt h w v := by
  obtain ⟨v, t, rfl, r1, e⟩ := l
  cases (show t = [] from e)
  exact ⟨v, rfl, r1⟩
theorem RepL.two' {K : KX} {H : L2.Hp} {bt : Gh} {h : Hp} {w u : W} {vs : List V} (l : RepL K H bt h [w, u] vs) : ∃ v x, vs = [v, x] ∧ Rep K H bt h w v ∧ Rep K H bt h u x := by
  obtain ⟨v, t, rfl, r1, r2⟩ := l
  obtain ⟨x, rfl, r3⟩ := RepL.one' r2
  exact ⟨v, x, rfl, r1, r3⟩
theorem itr_ok {K : KX} {H : L2.Hp} {bt : Gh} {h : Hp} {lo : Int} {n : Nat} :
    let its := (List.range n).map fun i => W.int (lo + (i : Nat))
    (∀ i, i < its.length → (L2.Itr lo n).go i H) ∧ (L2.Itr lo n).stop its.length H ∧ ∀ i w x H', its[i]? = some w → (L2.Itr lo n).yld i H x H' → L2.Same H H' ∧ Rep K H' bt h w x := by
  refine ⟨fun i hi => by simpa [L2.Itr] using hi, by simp [L2.Itr], fun i w x H' e y => ?_⟩
  obtain ⟨rfl, rfl⟩ := y
  rw [List.getElem?_map] at e
  cases q : (List.range n)[i]? with
  | none => rw [q] at e; cases e
  | some j =>
    rw [q] at e
    cases e
    obtain ⟨hj, ej⟩ := List.getElem?_eq_some_iff.mp q
    rw [List.getElem_range] at ej
    subst ej
    exact ⟨L2.Same.refl _, rfl⟩
theorem io_seq {us its : List W} (e : itemsOf .seq us = some its) : ∃ x, us = [x] ∧ items x = some its := by
  unfold itemsOf at e
  split at e <;> rename_i z <;> first | (cases z; done) | skip
  · exact ⟨_, rfl, e⟩
  · cases e
theorem inR_ok {i : Int} (h : inR i = true) : -(2 ^ 62) ≤ i ∧ i < 2 ^ 62 := of_decide_eq_true h
theorem io_rng1 {us its : List W} (e : itemsOf .rng1 us = some its) : ∃ n, us = [.int n] ∧ inR n = true ∧ its = (List.range n.toNat).map fun i => W.int (i : Nat) := by
  unfold itemsOf at e
  split at e <;> rename_i z <;> first | (cases z; done) | skip
  · split at e
    · cases e; exact ⟨_, rfl, by assumption, rfl⟩
    · cases e
  · cases e
theorem io_rng2 {us its : List W} (e : itemsOf .rng2 us = some its) : ∃ n m, us = [.int n, .int m] ∧ (inR n = true ∧ inR m = true) ∧ its = (List.range (m - n).toNat).map fun i => W.int (n + (i : Nat)) := by
  unfold itemsOf at e
  split at e <;> rename_i z <;> first | (cases z; done) | skip
  · split at e
    · cases e
      rename_i q
      rw [Bool.and_eq_true] at q
      exact ⟨_, _, rfl, q, rfl⟩
    · cases e
  · cases e
theorem io_enum {us its : List W} (e : itemsOf .enum us = some its) : ∃ x ys, us = [x] ∧ items x = some ys ∧ its = enumW 0 ys := by
  unfold itemsOf at e
  split at e <;> rename_i z <;> first | (cases z; done) | skip
  · cases e; exact ⟨_, _, rfl, rfl, rfl⟩
  · cases e; exact ⟨_, _, rfl, rfl, rfl⟩
  · cases e
theorem enumW_len : ∀ (n : Nat) (l : List W), (enumW n l).length = l.length
  | _, [] => rfl
  | n, a :: l => congrArg (· + 1) (enumW_len (n + 1) l)
theorem enumW_get : ∀ (l : List W) (n i : Nat), (enumW n l)[i]? = l[i]?.map fun a => .tup [.int ((n + i : Nat) : Int), a]
  | [], _, _ => by simp [enumW]
  | a :: l, n, 0 => rfl
  | a :: l, n, i + 1 => by
    have := enumW_get l (n + 1) i
    rw [show n + 1 + i = n + (i + 1) by omega] at this
    simpa [enumW] using this
theorem enumW_inj {l r : List W} (h : enumW 0 l = enumW 0 r) : l = r := by
  refine List.ext_getElem? fun i => ?_
  have := congrArg (·[i]?) h
  simp only [enumW_get] at this
  cases hl : l[i]? <;> cases hr : r[i]? <;> rw [hl, hr] at this <;> simp at this ⊢
  exact this
theorem pair_ok {K : KX} {H : L2.Hp} {bt : Gh} {h : Hp} {ys : List W} {xs : List V} (ok : HeapOk K H bt h) (l : RepL K H bt h ys xs) {i : Nat} {w : W} {p : Addr} {x : V} (e : (enumW 0 ys)[i]? = some w) (n : H p = none) (hx : xs[i]? = some x) :
    L2.Same H (upd H p (.tup [.int (i : Nat), x])) ∧ Rep K (upd H p (.tup [.int (i : Nat), x])) bt h w (.ref p) := by
  rw [enumW_get] at e
  cases hy : ys[i]? with
  | none => rw [hy] at e; cases e
  | some y =>
    rw [hy] at e
    cases e
    obtain ⟨v, e2, r⟩ := l.get hy
    rw [hx] at e2
    cases e2
    have rp : RepL K H bt h [.int ((0 + i : Nat) : Int), y] [.int (i : Nat), x] := ⟨_, _, rfl, by rw [Nat.zero_add]; rfl, _, _, rfl, r, rfl⟩
    exact post_newT (f := false) ok n rp
theorem ite_ok {K : KX} {H : L2.Hp} {bt : Gh} {h : Hp} {a : Addr} {xs : List V} {ys : List W} (ok : HeapOk K H bt h) (sq : SqL K H a xs) (l : RepL K H bt h ys xs) :
    (∀ i, i < (enumW 0 ys).length → (L2.Ite K a).go i H) ∧ (L2.Ite K a).stop (enumW 0 ys).length H ∧ ∀ i w x H', (enumW 0 ys)[i]? = some w → (L2.Ite K a).yld i H x H' → L2.Same H H' ∧ Rep K H' bt h w x := by
  refine ⟨fun i hi => ?_, ⟨xs, sq, by rw [enumW_len, l.length]; exact Nat.le_refl _⟩, fun i w x H' e ⟨p, y, h1, h2, h3, h4⟩ => ?_⟩
  · rw [enumW_len, l.length] at hi
    exact ⟨xs, xs[i], sq, by simp [hi]⟩
  · subst h1 h3
    exact pair_ok ok l e h2 (h4 xs sq)
theorem iteT_ok {K : KX} {H : L2.Hp} {bt : Gh} {h : Hp} {a : Addr} {xs : List V} {ys : List W} (ok : HeapOk K H bt h) (sq : SqT K H a xs) (l : RepL K H bt h ys xs) :
    (∀ i, i < (enumW 0 ys).length → (EnT.IteT K a).go i H) ∧ (EnT.IteT K a).stop (enumW 0 ys).length H ∧ ∀ i w x H', (enumW 0 ys)[i]? = some w → (EnT.IteT K a).yld i H x H' → L2.Same H H' ∧ Rep K H' bt h w x := by
  refine ⟨fun i hi => ?_, ⟨xs, sq, by rw [enumW_len, l.length]; exact Nat.le_refl _⟩, fun i w x H' e ⟨p, y, h1, h2, h3, h4⟩ => ?_⟩
  · rw [enumW_len, l.length] at hi
    exact ⟨xs, xs[i], sq, by simp [hi]⟩
  · subst h1 h3
    exact pair_ok ok l e h2 (h4 xs sq)
theorem map_1 {α β : Type} {f : α → β} {l : List α} {b : β} (e : l.map f = [b]) : ∃ a, l = [a] ∧ f a = b := by
  match l, e with
  | [a], e => exact ⟨a, rfl, by simpa using e⟩
theorem map_2 {α β : Type} {f : α → β} {l : List α} {b c : β} (e : l.map f = [b, c]) : ∃ a d, l = [a, d] ∧ f a = b ∧ f d = c := by
  match l, e with
  | [a, d], e => exact ⟨a, d, rfl, by simpa using e⟩
theorem deref_int {h : Hp} {w : W} {n : Int} (e : deref h w = .int n) : w = .int n := by
  cases w <;> first | exact e | (simp [deref] at e; done) | (simp only [deref] at e; split at e <;> cases e)
section
variable {K : KX}
theorem kseq {R : It → L2.Hp → Prop} {vs : List V} {H1 : L2.Hp} (q : kSrc K .seq R vs H1) : on1 (fun x H1 => ∃ a, x = .ref a ∧ (((∃ xs, SqL K H1 a xs) ∧ R (L2.Itl K a) H1) ∨ ((∃ xs, SqT K H1 a xs) ∧ R (L2.Itt K a) H1))) vs H1 := by
  obtain ⟨bt, h, ws, its, ok, l, e, q⟩ := q
  obtain ⟨x, em, ei⟩ := io_seq e
  obtain ⟨w, rfl, rfl⟩ := map_1 em
  · obtain ⟨v, rfl, r⟩ := l.one'
    obtain ⟨f, hf⟩ := seq_J (K := K) (w := w) (v := v) (its := its)
    obtain ⟨a, rfl, g⟩ := hf H1 bt h ok r ei
    refine ⟨a, rfl, ?_⟩
    have key : ∀ J, J = f a → ItOk K .seq [w] [.ref a] its J := fun J hJ H' bt' h' ok' l' e' => by
      obtain ⟨v', ev, r'⟩ := l'.one'
      cases ev
      obtain ⟨x', em', ei'⟩ := io_seq e'
      obtain ⟨w', ew', ed'⟩ := map_1 em'
      cases ew'
      subst ed'
      obtain ⟨a', ea, g'⟩ := hf H' bt' h' ok' r' ei'
      cases ea
      subst hJ
      by_cases hw : lstW w = true
      · rw [if_pos hw] at g'
        obtain ⟨ef, xs, sq, ll⟩ := g'
        rw [ef]; exact itl_ok sq ll
      · rw [if_neg hw] at g'
        obtain ⟨ef, xs, sq, ll⟩ := g'
        rw [ef]; exact itt_ok sq ll
    by_cases hw : lstW w = true
    · rw [if_pos hw] at g
      obtain ⟨ef, xs, sq, ll⟩ := g
      exact .inl ⟨⟨xs, sq⟩, q _ (key _ ef.symm)⟩
    · rw [if_neg hw] at g
      obtain ⟨ef, xs, sq, ll⟩ := g
      exact .inr ⟨⟨xs, sq⟩, q _ (key _ ef.symm)⟩
theorem kenum {R : It → L2.Hp → Prop} {vs : List V} {H1 : L2.Hp} (q : kSrc K .enum R vs H1) : ∃ a, vs = [.ref a] ∧ (((∃ xs, SqL K H1 a xs) ∧ R (L2.Ite K a) H1) ∨ ((∃ xs, SqT K H1 a xs) ∧ R (EnT.IteT K a) H1)) := by
  obtain ⟨bt, h, ws, its, ok, l, e, q⟩ := q
  obtain ⟨x, ys, em, ei, rfl⟩ := io_enum e
  obtain ⟨w, rfl, rfl⟩ := map_1 em
  obtain ⟨v, rfl, r⟩ := l.one'
  obtain ⟨f, hf⟩ := seq_J (K := K) (w := w) (v := v) (its := ys)
  obtain ⟨a, rfl, g⟩ := hf H1 bt h ok r ei
  have key : ∀ J : It, (∀ (H' : L2.Hp) bt' h', HeapOk K H' bt' h' → (lstW w = true → ∃ xs, SqL K H' a xs ∧ RepL K H' bt' h' ys xs) → (lstW w = false → ∃ xs, SqT K H' a xs ∧ RepL K H' bt' h' ys xs) → (∀ i, i < (enumW 0 ys).length → J.go i H') ∧ J.stop (enumW 0 ys).length H' ∧ ∀ i w x H2, (enumW 0 ys)[i]? = some w → J.yld i H' x H2 → L2.Same H' H2 ∧ Rep K H2 bt' h' w x) → ItOk K .enum [w] [.ref a] (enumW 0 ys) J := fun J hJ H' bt' h' ok' l' e' => by
    obtain ⟨v', ev, r'⟩ := l'.one'
    cases ev
    obtain ⟨x', ys', em', ei', e2⟩ := io_enum e'
    obtain ⟨w', ew', ed'⟩ := map_1 em'
    cases ew'
    subst ed'
    have ey : ys' = ys := enumW_inj e2.symm
    subst ey
    obtain ⟨a', ea, g'⟩ := hf H' bt' h' ok' r' ei'
    cases ea
    refine hJ H' bt' h' ok' (fun hw => ?_) fun hw => ?_
    · rw [if_pos hw] at g'
      exact g'.2
    · rw [if_neg (by rw [hw]; decide)] at g'
      exact g'.2
  by_cases hw : lstW w = true
  · rw [if_pos hw] at g
    obtain ⟨_, xs, sq, ll⟩ := g
    exact ⟨a, rfl, .inl ⟨⟨xs, sq⟩, q _ (key _ fun H' bt' h' ok' g1 _ => by
      obtain ⟨xs, sq, ll⟩ := g1 hw
      exact ite_ok ok' sq ll)⟩⟩
  · rw [if_neg hw] at g
    obtain ⟨_, xs, sq, ll⟩ := g
    exact ⟨a, rfl, .inr ⟨⟨xs, sq⟩, q _ (key _ fun H' bt' h' ok' _ g2 => by
      obtain ⟨xs, sq, ll⟩ := g2 (by simpa using hw)
      exact iteT_ok ok' sq ll)⟩⟩
theorem krng1 {R : It → L2.Hp → Prop} {vs : List V} {H1 : L2.Hp} (q : kSrc K .rng1 R vs H1) : ∃ j : Int, vs = [.int j] ∧ -(2 ^ 62) ≤ j ∧ j < 2 ^ 62 ∧ R (L2.Itr 0 j.toNat) H1 := by
  obtain ⟨bt, h, ws, its, ok, l, e, q⟩ := q
  obtain ⟨n, em, hn, rfl⟩ := io_rng1 e
  obtain ⟨w, rfl, ed⟩ := map_1 em
  cases deref_int ed
  obtain ⟨v, rfl, r⟩ := l.one'
  cases r
  refine ⟨n, rfl, (inR_ok hn).1, (inR_ok hn).2, q _ fun H' bt' h' ok' l' e' => ?_⟩
  have := itr_ok (K := K) (H := H') (bt := bt') (h := h') (lo := 0) (n := n.toNat)
  simpa using this
theorem krng2 {R : It → L2.Hp → Prop} {vs : List V} {H1 : L2.Hp} (q : kSrc K .rng2 R vs H1) : ∃ i j : Int, vs = [.int i, .int j] ∧ (-(2 ^ 62) ≤ i ∧ i < 2 ^ 62 ∧ -(2 ^ 62) ≤ j ∧ j < 2 ^ 62) ∧ R (L2.Itr i (j - i).toNat) H1 := by
  obtain ⟨bt, h, ws, its, ok, l, e, q⟩ := q
  obtain ⟨n, m, em, hn, rfl⟩ := io_rng2 e
  obtain ⟨w, u, rfl, ed, ed2⟩ := map_2 em
  cases deref_int ed
  cases deref_int ed2
  obtain ⟨v, x, rfl, r, r2⟩ := l.two'
  cases r; cases r2
  refine ⟨n, m, rfl, ⟨(inR_ok hn.1).1, (inR_ok hn.1).2, (inR_ok hn.2).1, (inR_ok hn.2).2⟩, q _ fun H' bt' h' ok' l' e' => ?_⟩
  exact itr_ok (K := K) (H := H') (bt := bt') (h := h') (lo := n) (n := (m - n).toNat)
end
section
variable {Nw d : Nat} {C : MC} {X : Cx} {Wx : WX} {call : Nat → Nat → List W → Hp → R W}
theorem iter_sound (c : Ctx Nw d C X) : ∀ (k : ItK) (tg e : Expr) (es : List Expr) (srcs : List Ex), iterShp C k tg e = some es → PL X es (srcs.map fun a => tEv (kx X) Wx (fun b ρ h => evE call b ρ a h)) →
    PI X tg e (fun σ H R => tEvs (kx X) Wx (fun b ρ h => evEs call b ρ srcs h) σ H (kSrc (kx X) k R))
  | .seq, tg, e, es, srcs, h, p => by
    cases h
    obtain ⟨ta, et, ha⟩ := p.one
    refine PI.imp (pi_seq ha) fun σ H R q => ?_
    have q2 := tl_of srcs σ H _ (q.mono fun vs H1 z => kseq z)
    rw [et] at q2
    exact q2
  | .rng1, tg, e, es, srcs, h, p => by
    have h : callShp1 C "range" e = some es := h
    unfold callShp1 at h
    split at h
    · split at h
      · cases h
        rename_i q
        obtain ⟨rfl, q1, q2⟩ := q
        refine PI.imp (L2.pi_range1 (c.gl q1) (c.blt _ (by decide)) (p.pa (by simp [q2])) (by rw [star_ns q2]; rfl)) fun σ H R q => ?_
        exact tl_of srcs σ H _ (q.mono fun vs H1 z => krng1 z)
      · cases h
    · cases h
  | .rng2, tg, e, es, srcs, h, p => by
    have h : callShp2 C "range" e = some es := h
    unfold callShp2 at h
    split at h
    · split at h
      · cases h
        rename_i q
        obtain ⟨rfl, q1, q2, q3⟩ := q
        refine PI.imp (L2.pi_range2 (c.gl q1) (c.blt _ (by decide)) (p.pa (by simp [q2, q3])) (by rw [star_ns q2, star_ns q3]; rfl) (by rw [star_ns q3]; rfl)) fun σ H R q => ?_
        exact tl_of srcs σ H _ (q.mono fun vs H1 z => krng2 z)
      · cases h
    · cases h
  | .zip, _, _, _, _, h, _ => by cases h
  | .enum, tg, e, es, srcs, h, p => by
    simp only [iterShp] at h
    split at h
    · unfold callShp1 at h
      split at h
      · split at h
        · cases h
          rename_i q
          obtain ⟨rfl, q1, q2⟩ := q
          refine PI.imp (EnT.pi_en (c.gl q1) (c.blt _ (by decide)) (p.pa (by simp [q2])) (by rw [star_ns q2]; rfl)) fun σ H R q => ?_
          exact tl_of srcs σ H _ (q.mono fun vs H1 z => kenum z)
        · cases h
      · cases h
    · cases h
  | .chars, _, _, _, _, h, _ => by cases h
end
end
end Ow

/-! Ow7: comprehensions' loops. -/
namespace Ow
open PySem PySem.Spec PyProof.Rows
open L2 (V SqL SqT Rd HO upd upd_same upd_ne TE TT TA TS VK Cx PE PT PA PS PSs WX OpR UnR CallR R2 Room Gl Sp XK CXT FnOk Binds TG TGs PG PGs It TI PI Inv RelV Vals thn wipe)

mutual
theorem below_mono {m n : Nat} (hm : m ≤ n) : ∀ w : W, below m w = true → below n w = true
  | .non, _ => by simp [below]
  | .bl _, _ => by simp [below]
  | .int _, _ => by simp [below]
  | .str _, _ => by simp [below]
  | .ty _, _ => by simp [below]
  | .cls _, _ => by simp [below]
  | .tup ws, z => by simp only [below] at *; exact belowL_mono' hm ws z
  | .lst ws, z => by simp only [below] at *; exact belowL_mono' hm ws z
  | .slst ws, z => by simp only [below] at *; exact belowL_mono' hm ws z
  | .set ws, z => by simp only [below] at *; exact belowL_mono' hm ws z
  | .exc _ ws, z => by simp only [below] at *; exact belowL_mono' hm ws z
  | .dic a b, z => by simp only [below, Bool.and_eq_true] at *; exact ⟨belowL_mono' hm a z.1, belowL_mono' hm b z.2⟩
  | .ref k, z => by simp only [below, decide_eq_true_eq] at *; omega
theorem belowL_mono' {m n : Nat} (hm : m ≤ n) : ∀ ws : List W, belowL m ws = true → belowL n ws = true
  | [], _ => by simp [belowL]
  | w :: ws, z => by
    simp only [belowL, Bool.and_eq_true] at *
    exact ⟨below_mono hm w z.1, belowL_mono' hm ws z.2⟩
end
theorem belowL_mono {c : Nat} : ∀ l : List W, belowL 0 l = true → belowL c l = true := fun l z => belowL_mono' (Nat.zero_le c) l z
theorem sameAt_map {h h' : Hp} : ∀ {ws : List W}, sameAt h h' ws → ws.map (deref h') = ws.map (deref h)
  | [], _ => rfl
  | w :: ws, s => by
    have key : deref h' w = deref h w ∧ sameAt h h' ws := by
      cases w <;> first | exact ⟨rfl, s⟩ | (obtain ⟨e, s⟩ := s; exact ⟨by simp only [deref, e], s⟩)
    rw [List.map_cons, List.map_cons, key.1, sameAt_map key.2]
section
variable {K : KX} {H H' : L2.Hp} {bt bt' : Gh} {h h' : Hp}
theorem truth_rep (ok : HeapOk K H bt h) {w : W} {v : V} {k : Bool} (r : Rep K H bt h w v) (e : truthW h w = some k) : L2.TruV K v H k := by
  have rt := r.t ok
  unfold truthW at e
  cases q : deref h w <;> rw [q] at e rt <;> first | (cases e; done) | skip
  · cases rt; cases e; rfl
  · cases rt; cases e; rfl
  · cases rt; cases e; rfl
  · cases rt
    simp only at e
    split at e
    · cases e; exact ⟨okLen_le (by assumption), rfl⟩
    · cases e
  · obtain ⟨a, vs, rfl, sq, l⟩ := repT_tup rt
    cases e
    refine .inr (.inl ⟨vs, sq, ?_⟩)
    have := l.length
    rename_i ws
    cases ws <;> cases vs <;> first | rfl | (simp at this)
  · obtain ⟨a, vs, rfl, sq, l⟩ := repT_lst rt
    cases e
    refine .inl ⟨vs, .of sq, ?_⟩
    have := l.length
    rename_i ws
    cases ws <;> cases vs <;> first | rfl | (simp at this)
end

/-- one turn's end -/
def TurnOk (K : KX) (b : Nat) (H : L2.Hp) (bt : Gh) (h : Hp) (N0 : L2.Hp → Prop) (N1 : V → L2.Hp → Prop) : R (Option W) → Prop
  | .ok none h' => ∀ H' bt', Exs H bt h H' bt' h' → HeapOk K H' bt' h' → Pres b h h' → N0 H'
  | .ok (some w) h' => ∀ v H' bt', Exs H bt h H' bt' h' → HeapOk K H' bt' h' → Pres b h h' → Rep K H' bt' h' w v → N1 v H'
  | _ => False
/-- a turn's reading: the target, the tests, the item -/
def tTurn (g : TG) (tt : TT) (te : TE) (σ : L2.St) (vs : List Nat) (x : V) (H' : L2.Hp) (N0 : L2.Hp → Prop) (N1 : V → L2.Hp → Prop) : Prop :=
  g x (L2.wipe σ vs) H' fun σ2 H2 => L2.wipe σ2 vs = L2.wipe σ vs ∧ tt σ2 H2 fun b H3 => if b = true then te σ2 H3 N1 else N0 H3
def FinOk (K : KX) (b : Nat) (H : L2.Hp) (bt : Gh) (h : Hp) (Q : VK) : R (List W) → Prop
  | .ok ys h' => ∀ v H' bt', Exs H bt h H' bt' h' → HeapOk K H' bt' h' → Pres b h h' → Rep K H' bt' h' (.lst ys) v → Q v H'
  | .exc _ _ => True
  | .bad => False
def FinOkM (K : KX) (b : Nat) (H : L2.Hp) (bt : Gh) (h : Hp) (Q : VK) : R W → Prop
  | .ok w h' => ∀ v H' bt', Exs H bt h H' bt' h' → HeapOk K H' bt' h' → Pres b h h' → Rep K H' bt' h' w v → Q v H'
  | .exc _ _ => True
  | .bad => False
section
variable {K : KX} {H1 : L2.Hp} {bt1 : Gh} {h1 : Hp} {b : Nat} {Q : VK} {σ : L2.St} {k : ItK} {ws : List W} {vs0 : List V} {its : List W} {J : It} {g : TG} {tt : TT} {te : TE} {vs : List Nat}
open Classical in
/-- the whole loop, the list not to be changed behind it -/
theorem lc_run (ok1 : HeapOk K H1 bt1 h1) (rw0 : RepL K H1 bt1 h1 ws vs0) (ei : itemsOf k (ws.map (deref h1)) = some its) (hJ : ItOk K k ws vs0 its J) {body : W → Hp → R (Option W)}
    (hbody : ∀ (Hc : L2.Hp) btc hc w x N0 N1, HeapOk K Hc btc hc → Exs H1 bt1 h1 Hc btc hc → Rep K Hc btc hc w x → TurnOk K b Hc btc hc N0 N1 (body w hc) → b ≤ hc.length → tTurn g tt te σ vs x Hc N0 N1)
    (hb : b ≤ h1.length) (fin : FinOk K b H1 bt1 h1 Q (lcLoop body (fun h2 => sameAt h1 h2 ws) its [] h1)) {D : Addr} (hD : H1 D = none) :
    ∃ W : Nat → Nat → L2.Hp → Prop, (∃ m, W 0 m (upd H1 D (.lst []))) ∧ ∀ i m H, W i m H →
      (J.stop i H ∧ Q (.ref D) H) ∨ (J.go i H ∧ ∃ Nx : L2.Hp → Prop, (∀ H', Nx H' → ∃ m', m' < m ∧ W (i + 1) m' H') ∧ ∀ x H', J.yld i H x H' → g x (L2.wipe σ vs) H' fun σ2 H2 => L2.wipe σ2 vs = L2.wipe σ vs ∧ tt σ2 H2 fun b H3 =>
        if b = true then te σ2 H3 fun y H4 => ∃ acc, H4 D = some (.lst acc) ∧ acc.length < sizeLine ∧ Nx (upd H4 D (.lst (acc ++ [y]))) else Nx H3) := by
  have nD : D ∉ bt1.g := fun z => by
    obtain ⟨u, q⟩ := ok1.gl D z
    rw [hD] at q; cases q
  refine ⟨fun i m Hc => m = its.length - i ∧ i ≤ its.length ∧ ∃ btc hc acc us, HeapOk K Hc btc hc ∧ Exs H1 bt1 h1 Hc btc hc ∧ Pres b h1 hc ∧ D ∈ btc.g ∧ Hc D = some (.lst us) ∧ RepL K Hc btc hc acc us ∧ ws.map (deref hc) = ws.map (deref h1) ∧
    FinOk K b H1 bt1 h1 Q (lcLoop body (fun h2 => sameAt h1 h2 ws) (its.drop i) acc hc), ⟨_, rfl, Nat.zero_le _, ?_⟩, ?_⟩
  · obtain ⟨okg, xg⟩ := ok1.ghostX (vs := []) hD
    exact ⟨_, h1, [], [], okg, xg, Pres.refl, List.mem_cons_self, upd_same, rfl, rfl, fin⟩
  · rintro i m Hc ⟨rfl, hi, btc, hc, acc, us, okc, xc, pc, gD, eD, ra, sm, fin⟩
    obtain ⟨J1, J2, J3⟩ := hJ Hc btc hc okc (rw0.ext ok1 xc.toExt) (by rw [sm]; exact ei)
    by_cases hlt : i < its.length
    · have ed : its.drop i = its[i] :: its.drop (i + 1) := List.drop_eq_getElem_cons hlt
      rw [ed] at fin
      refine .inr ⟨J1 i hlt, fun Hn => i + 1 ≤ its.length ∧ ∃ btc hc acc us, HeapOk K Hn btc hc ∧ Exs H1 bt1 h1 Hn btc hc ∧ Pres b h1 hc ∧ D ∈ btc.g ∧ Hn D = some (.lst us) ∧ RepL K Hn btc hc acc us ∧ ws.map (deref hc) = ws.map (deref h1) ∧
        FinOk K b H1 bt1 h1 Q (lcLoop body (fun h2 => sameAt h1 h2 ws) (its.drop (i + 1)) acc hc), fun Hn z => ⟨_, by omega, rfl, z.1, z.2⟩, fun x H' y => ?_⟩
      obtain ⟨s, rx⟩ := J3 i _ x H' (List.getElem?_eq_getElem hlt) y
      obtain ⟨ok', x'⟩ := okc.sameX s
      refine hbody H' btc hc _ x _ _ ok' (xc.trans x') rx ?_ (Nat.le_trans hb xc.len)
      unfold lcLoop at fin
      cases eb : body its[i] hc with
      | bad => rw [eb] at fin; exact fin
      | exc e h5 => rw [eb] at fin; exact fin
      | ok o h5 =>
        rw [eb] at fin
        simp only at fin
        split at fin
        · rename_i kp
          cases o with
          | none =>
            intro H5 bt5 x5 ok5 p5
            simp only at fin
            have xx := (xc.trans x').trans x5
            exact ⟨hlt, bt5, h5, acc, us, ok5, xx, pc.trans p5, (x5.gk D gD).1, (x5.gk D gD).2 _ (s D _ eD), (ra.ext okc x'.toExt).ext ok' x5.toExt, sameAt_map kp, fin⟩
          | some w =>
            intro v H5 bt5 x5 ok5 p5 r5
            simp only at fin
            split at fin
            · rename_i hz
              have xx := (xc.trans x').trans x5
              have e5 : H5 D = some (.lst us) := (x5.gk D gD).2 _ (s D _ eD)
              have r5a : RepL K H5 bt5 h5 acc us := (ra.ext okc x'.toExt).ext ok' x5.toExt
              obtain ⟨okn, xn, wn⟩ := ok5.growX (vs := us ++ [v]) xx (x5.gk D gD).1 nD
              refine ⟨us, e5, by rw [← r5a.length]; exact hz, hlt, bt5, h5, acc ++ [w], us ++ [v], okn, xn, pc.trans p5, (x5.gk D gD).1, upd_same, (r5a.append (.one r5)).ext ok5 wn, sameAt_map kp, fin⟩
            · exact fin.elim
        · exact fin.elim
    · have e : i = its.length := by omega
      subst e
      rw [List.drop_length] at fin
      unfold lcLoop at fin
      obtain ⟨okd, xd, wd, fz⟩ := okc.doneX xc nD gD
      exact .inl ⟨J2, fin _ _ _ xd okd pc ⟨D, us, rfl, ⟨eD, fz⟩, ra.ext okc wd⟩⟩
open Classical in
/-- .. the list an object from the beginning -/
theorem lc_runM (ok1 : HeapOk K H1 bt1 h1) (rw0 : RepL K H1 bt1 h1 ws vs0) (ei : itemsOf k (ws.map (deref h1)) = some its) (hJ : ItOk K k ws vs0 its J) {body : W → Hp → R (Option W)}
    (hbody : ∀ (Hc : L2.Hp) btc hc w x N0 N1, HeapOk K Hc btc hc → Exs H1 bt1 h1 Hc btc hc → Rep K Hc btc hc w x → TurnOk K b Hc btc hc N0 N1 (body w hc) → b ≤ hc.length → tTurn g tt te σ vs x Hc N0 N1)
    (hb : b ≤ h1.length) (fin : FinOkM K b H1 bt1 h1 Q (lcLoopM body (fun h2 => sameAt h1 h2 ws) h1.length its [] (h1 ++ [.lst []]))) {D : Addr} (hD : H1 D = none) :
    ∃ W : Nat → Nat → L2.Hp → Prop, (∃ m, W 0 m (upd H1 D (.lst []))) ∧ ∀ i m H, W i m H →
      (J.stop i H ∧ Q (.ref D) H) ∨ (J.go i H ∧ ∃ Nx : L2.Hp → Prop, (∀ H', Nx H' → ∃ m', m' < m ∧ W (i + 1) m' H') ∧ ∀ x H', J.yld i H x H' → g x (L2.wipe σ vs) H' fun σ2 H2 => L2.wipe σ2 vs = L2.wipe σ vs ∧ tt σ2 H2 fun b H3 =>
        if b = true then te σ2 H3 fun y H4 => ∃ acc, H4 D = some (.lst acc) ∧ acc.length < sizeLine ∧ Nx (upd H4 D (.lst (acc ++ [y]))) else Nx H3) := by
  have sm0 : ws.map (deref (h1 ++ [.lst []])) = ws.map (deref h1) := by
    refine List.map_congr_left fun w hw => ?_
    have rb := RepL.below _ _ rw0
    have key : ∀ {l : List W}, belowL h1.length l = true → w ∈ l → below h1.length w = true := fun {l} => by
      induction l with
      | nil => intro _ z; cases z
      | cons a l ih =>
        intro z m
        simp only [belowL, Bool.and_eq_true] at z
        rcases List.mem_cons.mp m with rfl | m
        · exact z.1
        · exact ih z.2 m
    have kb := key rb hw
    cases w <;> first | rfl | skip
    rename_i n
    simp only [below, decide_eq_true_eq] at kb
    simp only [deref, List.getElem?_append_left kb]
  refine ⟨fun i m Hc => m = its.length - i ∧ i ≤ its.length ∧ ∃ btc hc acc, HeapOk K Hc btc hc ∧ Exs H1 bt1 h1 Hc btc hc ∧ Pres b h1 hc ∧ btc.at_ h1.length = D ∧ hc[h1.length]? = some (.lst acc) ∧ ws.map (deref hc) = ws.map (deref h1) ∧
    FinOkM K b H1 bt1 h1 Q (lcLoopM body (fun h2 => sameAt h1 h2 ws) h1.length (its.drop i) acc hc), ⟨_, rfl, Nat.zero_le _, ?_⟩, ?_⟩
  · obtain ⟨okg, xg⟩ := ok1.newX (ws := []) (vs := []) (Same.upd hD) hD upd_same rfl
    exact ⟨_, _, [], okg, xg, Pres.new hb, Gh.add_self, by simp, sm0, fin⟩
  · rintro i m Hc ⟨rfl, hi, btc, hc, acc, okc, xc, pc, aD, eN, sm, fin⟩
    obtain ⟨J1, J2, J3⟩ := hJ Hc btc hc okc (rw0.ext ok1 xc.toExt) (by rw [sm]; exact ei)
    by_cases hlt : i < its.length
    · have ed : its.drop i = its[i] :: its.drop (i + 1) := List.drop_eq_getElem_cons hlt
      rw [ed] at fin
      refine .inr ⟨J1 i hlt, fun Hn => i + 1 ≤ its.length ∧ ∃ btc hc acc, HeapOk K Hn btc hc ∧ Exs H1 bt1 h1 Hn btc hc ∧ Pres b h1 hc ∧ btc.at_ h1.length = D ∧ hc[h1.length]? = some (.lst acc) ∧ ws.map (deref hc) = ws.map (deref h1) ∧
        FinOkM K b H1 bt1 h1 Q (lcLoopM body (fun h2 => sameAt h1 h2 ws) h1.length (its.drop (i + 1)) acc hc), fun Hn z => ⟨_, by omega, rfl, z.1, z.2⟩, fun x H' y => ?_⟩
      obtain ⟨s, rx⟩ := J3 i _ x H' (List.getElem?_eq_getElem hlt) y
      obtain ⟨ok', x'⟩ := okc.sameX s
      refine hbody H' btc hc _ x _ _ ok' (xc.trans x') rx ?_ (Nat.le_trans hb xc.len)
      have hnl : h1.length < hc.length := (List.getElem?_eq_some_iff.mp eN).1
      unfold lcLoopM at fin
      cases eb : body its[i] hc with
      | bad => rw [eb] at fin; exact fin
      | exc e h5 => rw [eb] at fin; exact fin
      | ok o h5 =>
        rw [eb] at fin
        simp only at fin
        split at fin
        · rename_i kp
          obtain ⟨kp, kn⟩ := kp
          cases o with
          | none =>
            intro H5 bt5 x5 ok5 p5
            simp only at fin
            have xx := (xc.trans x').trans x5
            exact ⟨hlt, bt5, h5, acc, ok5, xx, pc.trans p5, (x5.agree _ hnl).trans aD, kn, sameAt_map kp, fin⟩
          | some w =>
            intro v H5 bt5 x5 ok5 p5 r5
            simp only at fin
            split at fin
            · rename_i hz
              have xx := (xc.trans x').trans x5
              have a5 : bt5.at_ h1.length = D := (x5.agree _ hnl).trans aD
              obtain ⟨us, e5, r5a⟩ := ok5.objs _ _ kn
              rw [a5] at e5
              obtain ⟨okn, xn⟩ := ok5.putX kn (by simp) (r5a.append (.one r5))
              rw [a5] at okn xn
              have hl5 : h1.length < h5.length := (List.getElem?_eq_some_iff.mp kn).1
              have sm2 : ws.map (deref (h5.set h1.length (.lst (acc ++ [w])))) = ws.map (deref h1) := by
                rw [← sameAt_map kp]
                refine List.map_congr_left fun u hu => ?_
                have rb := RepL.below _ _ rw0
                have key : ∀ {l : List W}, belowL h1.length l = true → u ∈ l → below h1.length u = true := fun {l} => by
                  induction l with
                  | nil => intro _ z; cases z
                  | cons a l ih =>
                    intro z m
                    simp only [belowL, Bool.and_eq_true] at z
                    rcases List.mem_cons.mp m with rfl | m
                    · exact z.1
                    · exact ih z.2 m
                have kb := key rb hu
                cases u <;> first | rfl | skip
                rename_i n
                simp only [below, decide_eq_true_eq] at kb
                simp only [deref]
                rw [List.getElem?_set_ne (by omega)]
              refine ⟨us, e5, by rw [← r5a.length]; exact hz, hlt, bt5, _, acc ++ [w], okn, xx.trans xn, (pc.trans p5).trans (Pres.put (.inl hb) fun c z => ?_), a5, ?_, sm2, fin⟩
              · have key : ∀ l : List W, belowL 0 l = true → belowL c l = true := belowL_mono
                exact key _ z
              · rw [List.getElem?_set_self hl5]
            · exact fin.elim
        · exact fin.elim
    · have e : i = its.length := by omega
      subst e
      rw [List.drop_length] at fin
      unfold lcLoopM at fin
      exact .inl ⟨J2, fin _ _ _ xc okc pc ⟨(List.getElem?_eq_some_iff.mp eN).1, by rw [aD]⟩⟩
end
end Ow

/-! Ow8: methods. -/
namespace Ow
open PySem PySem.Spec PyProof.Rows
open L2 (V SqL SqT Rd HO upd upd_same upd_ne TE TT TA TS VK Cx PE PT PA PS PSs WX OpR UnR CallR R2 Room Gl Sp XK CXT FnOk Binds TG TGs PG PGs It TI PI Inv RelV Vals thn wipe)

def Mth.nm : Mth → Str
  | .append => "append"
  | .pop => "pop"
  | .popAt => "pop"
  | .insert => "insert"
  | .reverse => "reverse"
  | .clear => "clear"
  | .join => "join"
def Mth.ar : Mth → Nat
  | .append => 1
  | .pop => 0
  | .popAt => 1
  | .insert => 2
  | .reverse => 0
  | .clear => 0
  | .join => 1
def Mth.ty : Mth → String
  | .join => "str"
  | _ => "list"
def baseB : Expr → Bool
  | .Name _ _ => true
  | .Constant _ _ _ => true
  | .Subscript _ _ _ => true
  | _ => false
def mthShp (m : Mth) : Expr → Option (Expr × List Expr)
  | .Call (.Attribute o nm apos) es [] cpos => if nm = m.nm ∧ baseB o = true ∧ (apos.endLine == cpos.line) = true ∧ es.length = m.ar ∧ es.all ns = true then some (o, es) else none
  | _ => none
section
variable {K : KX} {σ : L2.St} {H H' : L2.Hp} {bt bt' : Gh} {h h' : Hp}
theorem Pres.putL {b n : Nat} {us us' : List W} {w : W} (e : h[n]? = some (.lst us)) (mp : mayPut b n w = true) (c : ∀ c, belowL c us = true → below c w = true → belowL c us' = true) : Pres b h (h.set n (.lst us')) := by
  refine Pres.put2 e fun c' hc hn z => ?_
  simp only [mayPut, Bool.or_eq_true, decide_eq_true_eq] at mp
  rcases mp with mp | mp
  · omega
  · exact c c' z (below_mono (Nat.zero_le _) w mp)
theorem Pres.putS {b n : Nat} {us us' : List W} (e : h[n]? = some (.lst us)) (c : ∀ c, belowL c us = true → belowL c us' = true) : Pres b h (h.set n (.lst us')) := Pres.put2 e fun c' hc hn z => c c' z
theorem belowL_app {c : Nat} : ∀ {as bs : List W}, belowL c (as ++ bs) = (belowL c as && belowL c bs)
  | [], bs => by simp [belowL]
  | a :: as, bs => by rw [List.cons_append]; simp only [belowL, belowL_app (as := as), Bool.and_assoc]
theorem belowL_mem {c : Nat} : ∀ {as : List W}, belowL c as = true ↔ ∀ a ∈ as, below c a = true
  | [] => by simp [belowL]
  | a :: as => by simp only [belowL, Bool.and_eq_true, belowL_mem (as := as), List.mem_cons, forall_eq_or_imp]
/-- what is asked of a method's rule -/
def MRd (K : KX) (m : Mth) (r : V → List V → L2.Hp → VK → Prop) : Prop :=
  ∀ (σ : L2.St) (H : L2.Hp) (bt : Gh) (h : Hp) (b : Nat) (Wx : WX) (ow : W) (ws : List W) (x : V) (xs : List V) (Q : VK), HeapOk K H bt h → Rep K H bt h ow x → RepL K H bt h ws xs → b ≤ h.length → OkE K Wx σ H bt b h Q (runMth b m ow ws h) → r x xs H Q
/-- a list that is rewritten -/
theorem put_run {Q : VK} {b n : Nat} {us us' : List W} {vs' : List V} {w : W} {v : V} (ok : HeapOk K H bt h) (e : h[n]? = some (.lst us)) (p : Pres b h (h.set n (.lst us'))) (r' : RepL K H bt h us' vs') (rw' : Rep K H bt h w v) {Wx : WX}
    (q : OkE K Wx σ H bt b h Q (.ok w (h.set n (.lst us')))) : Q v (upd H (bt.at_ n) (.lst vs')) := by
  obtain ⟨ok1, x1⟩ := ok.putX e (by simp) r'
  exact q v _ bt x1 ok1 p (rw'.ext ok x1.toExt)
theorem RepL.dropLast {us : List W} {vs : List V} (l1 : RepL K H bt h us vs) : RepL K H bt h us.dropLast vs.dropLast := by
  rw [List.dropLast_eq_take, List.dropLast_eq_take, ← l1.length]
  exact l1.take _
theorem ref_obj (ok : HeapOk K H bt h) {n : Nat} {us : List W} {x : V} (r : Rep K H bt h (.ref n) x) (e : h[n]? = some (.lst us)) : x = .ref (bt.at_ n) ∧ ∃ vs, H (bt.at_ n) = some (.lst vs) ∧ RepL K H bt h us vs :=
  ⟨r.2, ok.objs n _ e⟩
theorem lst_of {h : Hp} {n : Nat} {α : Type} {f : List W → R α} (e : (match h[n]? with
    | some (.lst ws) => f ws
    | _ => .bad) ≠ .bad) : ∃ ws, h[n]? = some (.lst ws) := by
  cases q : h[n]? with
  | none => rw [q] at e; exact absurd rfl e
  | some o =>
    cases o <;> first | exact ⟨_, rfl⟩ | (rw [q] at e; exact absurd rfl e)
theorem RepL.len1 {ws : List W} {v : V} (l : RepL K H bt h ws [v]) : ∃ w, ws = [w] ∧ Rep K H bt h w v := by
  match ws, l with
  | [w], l => obtain ⟨v', e, r⟩ := l.one'; cases e; exact ⟨w, rfl, r⟩
  | w :: u :: ws, l =>
    have := l.length
    simp at this
theorem mrd_append : MRd K .append L2.rAppend := by
  intro σ H bt h b Wx ow ws x xs Q ok r l hb q
  unfold runMth at q
  split at q <;> rename_i hm <;> first | (cases hm; done) | skip
  · split at q
    · rename_i us e
      split at q
      · rename_i c
        simp only [Bool.and_eq_true, decide_eq_true_eq] at c
        obtain ⟨rfl, vs, e1, l1⟩ := ref_obj ok r e
        obtain ⟨v, rfl, rv⟩ := l.one'
        exact ⟨_, vs, v, rfl, rfl, e1, by rw [← l1.length]; exact c.2, put_run (w := .non) (v := .non) ok e (Pres.putL e c.1 fun c' z1 z2 => by rw [belowL_app]; simp [z1, z2, belowL]) (l1.append (.one rv)) rfl q⟩
      · exact q.elim
    · exact q.elim
  · exact q.elim
theorem mrd_pop : MRd K .pop L2.rPop := by
  intro σ H bt h b Wx ow ws x xs Q ok r l hb q
  unfold runMth at q
  split at q <;> rename_i hm <;> first | (cases hm; done) | skip
  · split at q
    · rename_i us e
      split at q
      · rename_i w ew
        obtain ⟨rfl, vs, e1, l1⟩ := ref_obj ok r e
        cases (show xs = [] from l)
        have eg : us[us.length - 1]? = some w := by rw [← List.getLast?_eq_getElem?]; exact ew
        obtain ⟨v, ev, rv⟩ := l1.get eg
        refine ⟨_, vs, v, rfl, rfl, e1, by rw [← l1.length]; exact ev, put_run ok e (Pres.putS e fun c z => ?_) l1.dropLast rv q⟩
        exact belowL_mem.mpr fun a ha => belowL_mem.mp z a ((List.dropLast_sublist us).subset ha)
      · exact q.elim
    · exact q.elim
  · exact q.elim
theorem mrd_reverse : MRd K .reverse L2.rReverse := by
  intro σ H bt h b Wx ow ws x xs Q ok r l hb q
  unfold runMth at q
  split at q <;> rename_i hm <;> first | (cases hm; done) | skip
  · split at q
    · rename_i us e
      obtain ⟨rfl, vs, e1, l1⟩ := ref_obj ok r e
      cases (show xs = [] from l)
      refine ⟨_, vs, rfl, rfl, e1, put_run (w := .non) (v := .non) ok e (Pres.putS e fun c z => ?_) l1.reverse rfl q⟩
      exact belowL_mem.mpr fun a ha => belowL_mem.mp z a (List.mem_reverse.mp ha)
    · exact q.elim
  · exact q.elim
theorem mrd_clear : MRd K .clear L2.rClear := by
  intro σ H bt h b Wx ow ws x xs Q ok r l hb q
  unfold runMth at q
  split at q <;> rename_i hm <;> first | (cases hm; done) | skip
  · split at q
    · rename_i us e
      obtain ⟨rfl, vs, e1, l1⟩ := ref_obj ok r e
      cases (show xs = [] from l)
      exact ⟨_, vs, rfl, rfl, e1, put_run (us' := []) (w := .non) (v := .non) ok e (Pres.putS e fun c z => by simp [belowL]) rfl rfl q⟩
    · exact q.elim
  · exact q.elim
theorem mrd_popAt : MRd K .popAt L2.rPopAt := by
  intro σ H bt h b Wx ow ws x xs Q ok r l hb q
  unfold runMth at q
  split at q <;> rename_i hm <;> first | (cases hm; done) | skip
  · split at q
    · rename_i us e
      split at q
      · rename_i j ej
        split at q
        · rename_i w ew
          split at q
          · rename_i c
            obtain ⟨rfl, vs, e1, l1⟩ := ref_obj ok r e
            obtain ⟨v, rfl, rv⟩ := l.one'
            cases rv
            obtain ⟨v, ev, rv⟩ := l1.get ew
            obtain ⟨s1, s2, s3, s4⟩ := L2.ixN_seq (show L2.ixN us.length _ = some j from ej)
            refine ⟨_, vs, _, j, v, rfl, rfl, e1, c.1, c.2, by rw [← l1.length]; exact s1, ev, put_run ok e (Pres.putS e fun c z => ?_) (l1.eraseIdx j) rv q⟩
            exact belowL_mem.mpr fun a ha => belowL_mem.mp z a (List.mem_of_mem_eraseIdx ha)
          · exact q.elim
        · exact q.elim
      · exact q.elim
    · exact q.elim
  · exact q.elim
theorem mrd_insert : MRd K .insert (fun x vs H Q => ∃ (l : Addr) (xs : List V) (i : Int) (y : V), x = .ref l ∧ vs = [.int i, y] ∧ H l = some (.lst xs) ∧ xs.length < sizeLine ∧ 0 ≤ i ∧ i < 2 ^ 63 ∧
    Q .non (upd H l (.lst (xs.take i.toNat ++ [y] ++ xs.drop i.toNat)))) := by
  intro σ H bt h b Wx ow ws x xs Q ok r l hb q
  unfold runMth at q
  split at q <;> rename_i hm <;> first | (cases hm; done) | skip
  · split at q
    · rename_i us e
      split at q
      · rename_i c
        simp only [Bool.and_eq_true, decide_eq_true_eq] at c
        obtain ⟨⟨c1, c2⟩, c3, c4⟩ := c
        obtain ⟨rfl, vs, e1, l1⟩ := ref_obj ok r e
        obtain ⟨v, y, rfl, rv, ry⟩ := l.two'
        cases rv
        have hl : (sizeLine : Nat) < 2 ^ 63 := L2.line63
        refine ⟨_, vs, _, y, rfl, rfl, e1, by rw [← l1.length]; exact c2, c3, by omega, ?_⟩
        rw [List.append_assoc]
        refine put_run (w := .non) (v := .non) ok e (Pres.putL e c1 fun c' z1 z2 => ?_) ((l1.take _).append ((RepL.one ry).append (l1.drop _))) rfl q
        refine belowL_mem.mpr fun a ha => ?_
        rcases List.mem_append.mp ha with ha | ha
        · exact belowL_mem.mp z1 a (List.mem_of_mem_take ha)
        · rcases List.mem_cons.mp ha with rfl | ha
          · exact z2
          · exact belowL_mem.mp z1 a (List.mem_of_mem_drop ha)
      · exact q.elim
    · exact q.elim
  · exact q.elim
theorem mrd_join : MRd K .join (fun x xs H Q => ∃ a p, ∃ ys : List Str, x = .str a ∧ xs = [.ref p] ∧ (SqL K H p (ys.map V.str) ∨ SqT K H p (ys.map V.str)) ∧
    (ys.map (·.length)).sum + ys.length * a.length ≤ 16777216 ∧ Q (.str (Txt.join a ys)) H) := by
  intro σ H bt h b Wx ow ws x xs Q ok r l hb q
  unfold runMth at q
  split at q <;> rename_i hm <;> first | (cases hm; done) | skip
  · rename_i z y
    split at q
    · rename_i w e
      simp only [Option.bind_eq_some_iff] at e
      obtain ⟨us, e1, e2⟩ := e
      obtain ⟨v, rfl, rv⟩ := l.one'
      obtain ⟨p, ys, rfl, sq, l1⟩ := items_seq (rv.t ok) e1
      unfold pJoin at e2
      simp only [Option.bind_eq_some_iff] at e2
      obtain ⟨ss, e3, e2⟩ := e2
      split at e2
      · cases e2
        cases allStr_vals e3 l1
        cases r
        exact ⟨_, p, ss, rfl, rfl, sq, by assumption, q _ _ bt Exs.refl ok Pres.refl rfl⟩
      · cases e2
    · exact q.elim
  · exact q.elim
end

section
variable {X : Cx}
theorem few1 {a : Expr} (n : ns a = true) (pos : Pos) (env : PySem.Env) : ((backTo pos (starEach [a] env)).all (fun x => !x.1) && (backToKw pos (keywordEach [] env)).all (fun x => x.1.isSome)
      && decide ([a].length + ([] : List Keyword).length + (if ([] : List Keyword).isEmpty then 0 else 1) < 30)) = true := by
  rw [star_ns n]; rfl
theorem few2 {a b : Expr} (n : ns a = true) (n2 : ns b = true) (pos : Pos) (env : PySem.Env) : ((backTo pos (starEach [a, b] env)).all (fun x => !x.1) && (backToKw pos (keywordEach [] env)).all (fun x => x.1.isSome)
      && decide ([a, b].length + ([] : List Keyword).length + (if ([] : List Keyword).isEmpty then 0 else 1) < 30)) = true := by
  rw [star_ns n, star_ns n2]; rfl
theorem base_ok {o : Expr} (h : baseB o = true) (nm : Str) (env : PySem.Env) : attributeBase o nm env (eval o env) = eval o env := by
  cases o <;> first | (cases h; done) | rfl
/-- a method's call: the receiver is of its type, then the arguments -/
def tM (K : KX) (m : Mth) (r : V → List V → L2.Hp → VK → Prop) (to : TE) (ts : List TE) : TE := fun σ H Q => to σ H fun x H1 => L2.tyV K m.ty x H1 ∧ tL ts σ H1 fun xs H2 => r x xs H2 Q
theorem mth0 {id : String} {m : Mth} {e o : Expr} {es : List Expr} {to : TE} {ts : List TE} {r : V → List V → L2.Hp → VK → Prop} (h : mthShp m e = some (o, es)) (har : m.ar = 0) (pa : PlainAttrs m.ty) (slot : Slot m.ty m.nm id) (hty : typeOf (.builtin id) = pure (.type "method_descriptor")) (hm : L2.MtR X id r) (ho : PE X o to) (p : PL X es ts) : PE X e (tM (kx X) m r to ts) := by
  unfold mthShp at h
  split at h
  · split at h
    · cases h
      rename_i q
      obtain ⟨rfl, q1, q2, q3, q4⟩ := q
      rw [har] at q3
      cases List.length_eq_zero_iff.mp q3
      cases p
      exact L2.pe_bm0 pa slot hty hm ho (base_ok q1 _ _) q2
    · cases h
  · cases h
theorem mth1 {id : String} {m : Mth} {e o : Expr} {es : List Expr} {to : TE} {ts : List TE} {r : V → List V → L2.Hp → VK → Prop} (h : mthShp m e = some (o, es)) (har : m.ar = 1) (pa : PlainAttrs m.ty) (slot : Slot m.ty m.nm id) (hty : typeOf (.builtin id) = pure (.type "method_descriptor")) (hm : L2.MtR X id r) (ho : PE X o to) (p : PL X es ts) : PE X e (tM (kx X) m r to ts) := by
  unfold mthShp at h
  split at h
  · split at h
    · cases h
      rename_i q
      obtain ⟨rfl, q1, q2, q3, q4⟩ := q
      rw [har] at q3
      match es, q3, q4, p with
      | [a], q3, q4, p =>
        have n : ns a = true := by simpa using q4
        exact L2.pe_bm pa slot hty hm ho (p.pa q4) (base_ok q1 _ _) (few1 n _ _) q2 (star_ns n _ _) rfl
    · cases h
  · cases h
theorem mth2 {id : String} {m : Mth} {e o : Expr} {es : List Expr} {to : TE} {ts : List TE} {r : V → List V → L2.Hp → VK → Prop} (h : mthShp m e = some (o, es)) (har : m.ar = 2) (pa : PlainAttrs m.ty) (slot : Slot m.ty m.nm id) (hty : typeOf (.builtin id) = pure (.type "method_descriptor")) (hm : L2.MtR X id r) (ho : PE X o to) (p : PL X es ts) : PE X e (tM (kx X) m r to ts) := by
  unfold mthShp at h
  split at h
  · split at h
    · cases h
      rename_i q
      obtain ⟨rfl, q1, q2, q3, q4⟩ := q
      rw [har] at q3
      match es, q3, q4, p with
      | [a, b], q3, q4, p =>
        have n : ns a = true ∧ ns b = true := by simpa using q4
        exact L2.pe_bm pa slot hty hm ho (p.pa q4) (base_ok q1 _ _) (few2 n.1 n.2 _ _) q2 (star_ns n.1 _ _) (star_all (by simpa using n.2) _ _)
    · cases h
  · cases h
theorem mth_sound : ∀ (m : Mth) (e o : Expr) (es : List Expr) (to : TE) (ts : List TE), mthShp m e = some (o, es) → PE X o to → PL X es ts → ∃ r, MRd (kx X) m r ∧ PE X e (tM (kx X) m r to ts)
  | .append, e, o, es, to, ts, h, ho, p => ⟨_, mrd_append, mth1 h rfl PySem.F.plainAttrs_list PySem.F.slot_list_append PySem.F.type_list_append L2.mt_append ho p⟩
  | .pop, e, o, es, to, ts, h, ho, p => ⟨_, mrd_pop, mth0 h rfl PySem.F.plainAttrs_list PySem.F.slot_list_pop PySem.F.type_list_pop L2.mt_pop ho p⟩
  | .popAt, e, o, es, to, ts, h, ho, p => ⟨_, mrd_popAt, mth1 h rfl PySem.F.plainAttrs_list PySem.F.slot_list_pop PySem.F.type_list_pop L2.mt_popAt ho p⟩
  | .insert, e, o, es, to, ts, h, ho, p => ⟨_, mrd_insert, mth2 h rfl PySem.F.plainAttrs_list PySem.F.slot_list_insert PySem.F.type_list_insert L2.mt_insert ho p⟩
  | .reverse, e, o, es, to, ts, h, ho, p => ⟨_, mrd_reverse, mth0 h rfl PySem.F.plainAttrs_list PySem.F.slot_list_reverse PySem.F.type_list_reverse L2.mt_reverse ho p⟩
  | .clear, e, o, es, to, ts, h, ho, p => ⟨_, mrd_clear, mth0 h rfl PySem.F.plainAttrs_list PySem.F.slot_list_clear PySem.F.type_list_clear L2.mt_clear ho p⟩
  | .join, e, o, es, to, ts, h, ho, p => ⟨_, mrd_join, mth1 h rfl PySem.F.plainAttrs_str PySem.F.slot_str_join PySem.F.type_str_join L2.mt_join ho p⟩
theorem recv_ty {K : KX} {H : L2.Hp} {bt : Gh} {h : Hp} (ok : HeapOk K H bt h) {m : Mth} {ow : W} {x : V} (r : Rep K H bt h ow x) (e : recvOk m ow h = true) : L2.tyV K m.ty x H := by
  have lst : (match ow with
    | .ref n => match h[n]? with
      | some (.lst _) => true
      | _ => false
    | _ => false) = true → m.ty = "list" → L2.tyV K m.ty x H := fun e t => by
    cases ow <;> first | (cases e; done) | skip
    simp only at e
    split at e
    · rename_i us q
      obtain ⟨rfl, vs, e1, _⟩ := ref_obj ok r q
      rw [t]
      exact .inl ⟨rfl, vs, .of e1⟩
    · cases e
  cases m <;> first
    | exact lst (by cases ow <;> exact e) rfl
    | skip
  cases ow <;> first | (cases e; done) | skip
  cases r
  rfl
end
end Ow

/-! Ow9: expressions. -/
namespace Ow
open PySem PySem.Spec PyProof.Rows
open L2 (V SqL SqT Rd HO upd upd_same upd_ne TE TT TA TS VK Cx PE PT PA PS PSs WX OpR UnR CallR R2 Room Gl Sp XK CXT FnOk Binds TG TGs PG PGs It TI PI Inv RelV Vals thn wipe)

def plainTestB : Expr → Bool
  | .Name _ _ => true
  | .Call _ _ _ _ => true
  | .Subscript _ _ _ => true
  | .BinOp _ _ _ _ => true
  | _ => false
def nsetB : Expr → Bool
  | .Set _ _ _ => false
  | _ => true
def cstB : W → Expr → Bool
  | .non, .Constant .none _ _ => true
  | .bl b, .Constant (.bool c) _ _ => b == c
  | .int i, .Constant (.int j) _ _ => decide (i = j)
  | .str s, .Constant (.str z) _ _ => decide (s = z)
  | _, _ => false
def ownOf (N : List Str) (is : List Nat) : List (Str × Nat) := is.map fun i => (N[i]?.getD "", i)
theorem ownOf_snd {N : List Str} {is : List Nat} : (ownOf N is).map (·.2) = is := by
  unfold ownOf
  rw [List.map_map]
  exact List.map_id is
/-- a test that is asked for its truth -/
def tB : Ex → Expr → Bool
  | .and_ a b, .BoolOp .And (x :: y :: rest) pos => tB a x && tB b (if rest.isEmpty then y else .BoolOp .And (y :: rest) pos)
  | .or_ a b, .BoolOp .Or (x :: y :: rest) pos => tB a x && tB b (if rest.isEmpty then y else .BoolOp .Or (y :: rest) pos)
  | .not_ a, .UnaryOp .Not x _ => tB a x
  | .pr false _ _, .Compare _ [_] [_] _ => true
  | _, e => plainTestB e
mutual
def mE (C : MC) : Ex → Expr → Bool
  | .var i, .Name x _ => decide (C.N[i]? = some x) && visB C x && okN x
  | .cst w, e => cstB w e
  | .pr _ p args, e => match shp C p e with
    | some es => mEs C args es
    | none => false
  | .lc _ t k srcs tests e, .ListComp elt [⟨tg, iter, ifs, 0⟩] scope _ => L2.blkC C.N C.sc scope (ownOf C.N t.names) && nsetB iter && (match iterShp C k tg iter with
      | some es => mEs C srcs es
      | none => false) && mT { C with sc := L2.relS scope C.sc, os := scope } t tg && mE { C with sc := L2.relS scope C.sc, os := scope } e elt && mEs { C with sc := L2.relS scope C.sc, os := scope } tests ifs &&
        (match tests, ifs with
          | [], [] => true
          | [c], [d] => tB c d
          | _, _ => false)
  | .and_ a b, .BoolOp .And (x :: y :: rest) pos => mE C a x && mE C b (if rest.isEmpty then y else .BoolOp .And (y :: rest) pos)
  | .or_ a b, .BoolOp .Or (x :: y :: rest) pos => mE C a x && mE C b (if rest.isEmpty then y else .BoolOp .Or (y :: rest) pos)
  | .not_ a, .UnaryOp .Not x _ => mE C a x
  | .ite c a b, .IfExp c' a' b' _ => mE C c c' && tB c c' && mE C a a' && mE C b b'
  | .call k args, .Call (.Name x _) (e :: es) [] _ => (match C.T[k]? with
      | some df => decide (df.name = x)
      | none => false) && glB C x && okN x && (e :: es).all ns && mEs C args (e :: es)
  | .mth m o args, e => match mthShp m e with
    | some (o', es) => mE C o o' && mEs C args es
    | none => false
  | .frz a, e => mE C a e
  | .opq, _ => true
  | _, _ => false
def mEs (C : MC) : List Ex → List Expr → Bool
  | [], [] => true
  | a :: as, e :: es => mE C a e && mEs C as es
  | _, _ => false
end

section
variable {K : KX} {σ : L2.St} {H H' : L2.Hp} {bt bt' : Gh} {h h' : Hp} {Wx : WX}
theorem tEv.of {m : Nat → Env → Hp → R W} {b : Nat} {ρ : Env} {Q : VK} (s : Stt K σ H bt ρ h) (hb : b ≤ h.length) (q : OkE K Wx σ H bt b h Q (m b ρ h)) : tEv K Wx m σ H Q := ⟨b, bt, ρ, h, s, hb, q⟩
theorem OkE.imp2 {b : Nat} {m : R W} {Q Q' : VK} (q : OkE K Wx σ H bt b h Q m) (i : ∀ w h' v H' bt', m = .ok w h' → Exs H bt h H' bt' h' → HeapOk K H' bt' h' → Pres b h h' → Rep K H' bt' h' w v → Q v H' → Q' v H') : OkE K Wx σ H bt b h Q' m := by
  cases m with
  | bad => exact q
  | exc e h1 => exact q
  | ok w h1 => exact fun v H1 bt1 x ok p r => i _ _ _ _ _ rfl x ok p r (q v H1 bt1 x ok p r)
/-- the same from a later state -/
theorem OkE.later {b : Nat} {m : R W} {Q : VK} {H1 : L2.Hp} {bt1 : Gh} {h1 : Hp} (x : Exs H bt h H1 bt1 h1) (p : Pres b h h1) (q : OkE K Wx σ H bt b h Q m) : OkE K Wx σ H1 bt1 b h1 Q m := by
  cases m with
  | bad => exact q
  | exc e h2 => exact OkX.trans x p q
  | ok w h2 => exact fun v H2 bt2 x2 ok2 p2 r2 => q v H2 bt2 (x.trans x2) ok2 (p.trans p2) r2
/-- a test's result, from its value's -/
theorem OkT.ofE {b : Nat} {m : R W} {Q : Bool → L2.Hp → Prop} (q : OkT K Wx σ H bt b h Q m) : OkE K Wx σ H bt b h (fun v H1 => ∃ k, L2.TruV K v H1 k ∧ Q k H1) m := by
  cases m with
  | bad => exact q
  | exc e h1 => exact q
  | ok w h1 =>
    obtain ⟨k, e, q⟩ := q
    exact fun v H1 bt1 x ok p r => ⟨k, truth_rep ok r e, q H1 bt1 x ok p⟩
end
section
variable {Nw d : Nat} {C : MC} {X : Cx} {Wx : WX}
theorem takesF {X : Cx} : L2.Takes X (fun _ _ _ _ => False) := L2.takes0
theorem Ctx.blk (c : Ctx Nw d C X) {scope : Scope} (s : Shared) (H : L2.Hp) (Ca : Addr) (cl : List (Str × Addr)) (fp : List Addr) : Ctx Nw d { C with sc := L2.relS scope C.sc, os := scope } (X.blk s H scope (compEnvC scope cl Ca X.env) fp) where
  hN := c.hN
  nd := c.nd
  sc := by
    show L2.relS scope X.env.scope = _
    rw [c.sc]
  calm := c.calm
  loc := fun x e => L2.lookup_relS_keep (by simp) e
  cel := fun x e => ⟨L2.lookup_relS_keep (by simp) e, by
    have e : scope.names.lookup x = some .cell := e
    show (scope.names.lookup x == some NameKind.cell) = true
    rw [e]; rfl⟩
  room := ⟨c.room.hd, c.room.dp, c.room.un⟩
  blt := c.blt
  fns := c.fns
theorem evC_len {T : List Def} {N d b k : Nat} {ws : List W} {h : Hp} {df : Def} (e : T[k]? = some df) (n : evC T N d b k ws h ≠ .bad) : ws.length = df.np := by
  cases d with
  | zero => exact absurd rfl n
  | succ d =>
    unfold evC at n
    rw [e] at n
    simp only at n
    by_cases hl : ws.length = df.np
    · exact hl
    · rw [if_neg hl] at n
      exact absurd rfl n
theorem OkE.ne {K : KX} {σ : L2.St} {H : L2.Hp} {bt : Gh} {h : Hp} {b : Nat} {m : R W} {Q : VK} (q : OkE K Wx σ H bt b h Q m) : m ≠ .bad := by
  intro e
  rw [e] at q
  exact q
theorem OkE.flat {K : KX} {σ : L2.St} {H : L2.Hp} {bt : Gh} {h : Hp} {b : Nat} {m : R W} {Q : VK} (q : OkE K Wx σ H bt b h Q m) : OkE K (fun c x _ H' => L2.WE Wx σ c x H') [] H bt b h Q m := by
  cases m <;> exact q
theorem blkOk {N : List Str} {sc scope : Scope} {own : List (Str × Nat)} (h : L2.blkC N sc scope own = true) : L2.BlkOk N sc scope own := L2.blkOk_by h
noncomputable def lcB (call : Nat → Nat → List W → Hp → R W) (b : Nat) (ρ : Env) (t : Tg) (tests : List Ex) (e : Ex) : W → Hp → R (Option W) := fun w hc => match bindT t w (wipeE ρ t.names) with
  | none => .bad
  | some r2 => match tests with
    | [] => (evE call b r2 e hc).bind fun y h3 => .ok (some y) h3
    | c :: _ => (evE call b r2 c hc).bind fun cw h3 => match truthW h3 cw with
      | some true => (evE call b r2 e h3).bind fun y h4 => .ok (some y) h4
      | some false => .ok none h3
      | none => .bad
/-- a turn of a comprehension -/
theorem turn_sound {K : KX} {call : Nat → Nat → List W → Hp → R W} {σ : L2.St} {Hc : L2.Hp} {bt : Gh} {ρ : Env} {hc : Hp} {b : Nat} {t : Tg} {tests : List Ex} {e : Ex} {tt : TT} (s : Stt K σ Hc bt ρ hc) (hb : b ≤ hc.length)
    (htt : (tests = [] ∧ tt = L2.tYes) ∨ ∃ c r, tests = c :: r ∧ tt = tTv K (fun _ _ _ _ => False) fun b ρ h => evE call b ρ c h) {w : W} {x : V} {N0 : L2.Hp → Prop} {N1 : V → L2.Hp → Prop} (r : Rep K Hc bt hc w x)
    (q : TurnOk K b Hc bt hc N0 N1 (lcB call b ρ t tests e w hc)) :
    tTurn (gT K t) tt (tEv K (fun _ _ _ _ => False) fun b ρ h => evE call b ρ e h) σ t.names x Hc N0 N1 := by
  unfold lcB at q
  cases eb : bindT t w (wipeE ρ t.names) with
  | none => rw [eb] at q; exact q.elim
  | some r2 =>
    rw [eb] at q
    simp only at q
    refine ⟨bt, hc, _, r2, w, s.wipe t.names, r, eb, fun σ2 s2 o2 => ⟨(Out.wiped.trans o2).wipe, ?_⟩⟩
    have item : ∀ (H3 : L2.Hp) bt3 h3, Stt K σ2 H3 bt3 r2 h3 → b ≤ h3.length → (∀ v H' bt' w h', Exs H3 bt3 h3 H' bt' h' → HeapOk K H' bt' h' → Pres b h3 h' → Rep K H' bt' h' w v → evE call b r2 e h3 = .ok w h' → N1 v H') → (∃ w h', evE call b r2 e h3 = .ok w h') → tEv K (fun _ _ _ _ => False) (fun b ρ h => evE call b ρ e h) σ2 H3 N1 := fun H3 bt3 h3 s3 hb3 g ⟨w', h', e'⟩ => by
      refine tEv.of s3 hb3 ?_
      show OkE K _ σ2 H3 bt3 b h3 N1 (evE call b r2 e h3)
      rw [e']
      exact fun v H' bt' x ok p r => g v H' bt' _ _ x ok p r e'
    rcases htt with ⟨rfl, rfl⟩ | ⟨c, rr, rfl, rfl⟩
    · show tEv K _ _ σ2 Hc N1
      simp only at q
      cases ee : evE call b r2 e hc with
      | bad => rw [ee] at q; exact q.elim
      | exc _ _ => rw [ee] at q; exact q.elim
      | ok y h3 =>
        rw [ee] at q
        refine item Hc bt hc s2 hb (fun v H' bt' w h' x ok p r e' => ?_) ⟨_, _, ee⟩
        rw [ee] at e'
        cases e'
        exact q v H' bt' x ok p r
    · simp only at q
      refine ⟨b, bt, r2, hc, s2, hb, ?_⟩
      show OkT K _ σ2 Hc bt b hc _ (evE call b r2 c hc)
      cases ec : evE call b r2 c hc with
      | bad => rw [ec] at q; exact q.elim
      | exc _ _ => rw [ec] at q; exact q.elim
      | ok cw h3 =>
        rw [ec] at q
        simp only [R.bind_ok] at q
        cases et : truthW h3 cw with
        | none => rw [et] at q; exact q.elim
        | some k =>
          rw [et] at q
          refine ⟨k, et, fun H3 bt3 x3 ok3 p3 => ?_⟩
          cases k with
          | false => exact q H3 bt3 x3 ok3 p3
          | true =>
            simp only at q
            rw [if_pos rfl]
            cases ee : evE call b r2 e h3 with
            | bad => rw [ee] at q; exact q.elim
            | exc _ _ => rw [ee] at q; exact q.elim
            | ok y h4 =>
              rw [ee] at q
              refine item H3 bt3 h3 (s2.ext x3 ok3) (Nat.le_trans hb x3.len) (fun v H' bt' w h' x ok p r e' => ?_) ⟨_, _, ee⟩
              rw [ee] at e'
              cases e'
              exact q v H' bt' (x3.trans x) ok (p3.trans p) r
theorem ifOne {op : BoolOp} {y : Expr} {rest : List Expr} {pos : Pos} {t : TE} (h : PE X (if rest.isEmpty = true then y else .BoolOp op (y :: rest) pos) t) : PE X (.BoolOp op (y :: rest) pos) t := by
  cases rest with
  | nil => exact L2.pe_one h
  | cons z zs => exact h
/-- a test by its value's truth -/
theorem tst {e : Ex} {x : Expr} {call : Nat → Nat → List W → Hp → R W} (pe : PE X x (tEv (kx X) Wx fun b ρ h => evE call b ρ e h)) (he : ∀ whole, isTrue x X.env whole = (do let v ← whole; standAt x.pos; holding [v] (truthy v))) : PT X x (tTv (kx X) Wx fun b ρ h => evE call b ρ e h) :=
  PT.imp (L2.pt_truth pe he) fun σ H Q q => by
    obtain ⟨b, bt, ρ, h, s, hb, q⟩ := q
    exact tEv.of s hb (OkT.ofE q)
theorem plain_test {x : Expr} {env : PySem.Env} (h : plainTestB x = true) : ∀ whole, isTrue x env whole = (do let v ← whole; standAt x.pos; holding [v] (truthy v)) := by
  cases x <;> first | (cases h; done) | (intro _; rfl)
/-- a comparison as a test -/
def cmpOf : Prim → Option CmpOp
  | .eq => some .Eq
  | .ne => some .NotEq
  | .lt => some .Lt
  | .le => some .LtE
  | .gt => some .Gt
  | .ge => some .GtE
  | .mem => some .In
  | .nmem => some .NotIn
  | .isN => some .Is
  | .notN => some .IsNot
  | _ => none
theorem pt_isN {a : Expr} {ts : List TE} {j pos pos' : _} (h : PL X [a] ts) (hm : behindInMarks .Is (.Constant .none j pos') = false) : PT X (.Compare a [.Is] [.Constant .none j pos'] pos) (tPt ts (rdIsN id)) := by
  obtain ⟨ta, rfl, ha⟩ := h.one
  refine PT.imp (L2.pt_cmpR L2.op_isN ha L2.pe_non hm) fun σ H Q q => ?_
  exact (show L2.tTest (L2.tOp _ ta (L2.tC .non)) σ H Q from by
    unfold L2.tTest L2.tOp L2.tC
    simp only [true_and]
    exact q)
theorem pt_notN {a : Expr} {ts : List TE} {j pos pos' : _} (h : PL X [a] ts) (hm : behindInMarks .IsNot (.Constant .none j pos') = false) : PT X (.Compare a [.IsNot] [.Constant .none j pos'] pos) (tPt ts (rdIsN not)) := by
  obtain ⟨ta, rfl, ha⟩ := h.one
  refine PT.imp (L2.pt_cmpR L2.op_notN ha L2.pe_non hm) fun σ H Q q => ?_
  exact (show L2.tTest (L2.tOp _ ta (L2.tC .non)) σ H Q from by
    unfold L2.tTest L2.tOp L2.tC
    simp only [true_and]
    exact q)
theorem cmpT {o : CmpOp} {e : Expr} {es : List Expr} {ts : List TE} {r : R2} (h : cmpShp o e = some es) (p : PL X es ts) (ho : OpR X (compareOp o) r) : PT X e (tPt ts (rd2 r)) := by
  unfold cmpShp at h
  split at h
  · split at h
    · cases h
      rename_i q
      obtain ⟨rfl, q⟩ := q
      exact pt_cmp ho p q
    · cases h
  · cases h
theorem isT {e : Expr} {es : List Expr} {ts : List TE} (h : isShp .Is e = some es) (p : PL X es ts) : PT X e (tPt ts (rdIsN id)) := by
  unfold isShp at h
  split at h
  · split at h
    · cases h
      rename_i q
      subst q
      exact pt_isN p rfl
    · cases h
  · cases h
theorem notT {e : Expr} {es : List Expr} {ts : List TE} (h : isShp .IsNot e = some es) (p : PL X es ts) : PT X e (tPt ts (rdIsN not)) := by
  unfold isShp at h
  split at h
  · split at h
    · cases h
      rename_i q
      subst q
      exact pt_notN p rfl
    · cases h
  · cases h
theorem prim_soundT (c : Ctx Nw d C X) {a : Expr} {o : CmpOp} {b : Expr} {pos : Pos} {es : List Expr} {ts : List TE} : ∀ (p : Prim), shp C p (.Compare a [o] [b] pos) = some es → PL X es ts → ∃ rd, RdOk (kx X) p rd ∧ (cmpOf p).isSome = true ∧ PT X (.Compare a [o] [b] pos) (tPt ts rd)
  | .eq, h, p => ⟨_, rd_eq, rfl, cmpT h p (op_eqA (by have := c.units; omega))⟩
  | .ne, h, p => ⟨_, rd_ne, rfl, cmpT h p (op_neA (by have := c.units; omega))⟩
  | .lt, h, p => ⟨_, rd_cmp (f := fun i j => decide (i < j)) rfl (two_of (fun a => by cases a <;> rfl) (by decide) (by decide) (fun _ _ => by simp) (by decide) (by decide)) fun _ _ => rfl, rfl, cmpT h p L2.op_lt⟩
  | .le, h, p => ⟨_, rd_cmp (f := fun i j => decide (i ≤ j)) rfl (two_of (fun a => by cases a <;> rfl) (by decide) (by decide) (fun _ _ => by simp) (by decide) (by decide)) fun _ _ => rfl, rfl, cmpT h p L2.op_le⟩
  | .gt, h, p => ⟨_, rd_cmp (f := fun i j => decide (j < i)) rfl (two_of (fun a => by cases a <;> rfl) (by decide) (by decide) (fun _ _ => by simp) (by decide) (by decide)) fun _ _ => rfl, rfl, cmpT h p L2.op_gt⟩
  | .ge, h, p => ⟨_, rd_cmp (f := fun i j => decide (j ≤ i)) rfl (two_of (fun a => by cases a <;> rfl) (by decide) (by decide) (fun _ _ => by simp) (by decide) (by decide)) fun _ _ => rfl, rfl, cmpT h p L2.op_ge⟩
  | .mem, h, p => ⟨_, rd_mem, rfl, cmpT h p (op_memA c.units)⟩
  | .nmem, h, p => ⟨_, rd_nmem, rfl, cmpT h p (op_nmemA c.units)⟩
  | .isN, h, p => ⟨_, rd_isN, rfl, isT h p⟩
  | .notN, h, p => ⟨_, rd_notN, rfl, notT h p⟩
  | .add, h, _ | .sub, h, _ | .mul, h, _ | .mod, h, _ | .fdiv, h, _ | .pow, h, _ | .neg, h, _ | .idx, h, _ | .sl _ _, h, _ | .tupd, h, _ | .lstd, h, _ | .len, h, _ | .int1, h, _ | .abs, h, _ | .str1, h, _ | .list1, h, _ | .tuple1, h, _ | .sorted1, h, _
  | .all1, h, _ | .any1, h, _ | .sum1, h, _ | .min1, h, _ | .max1, h, _ | .min2, h, _ | .max2, h, _ | .rangeL, h, _ | .rangeT, h, _ | .isi _, h, _ | .sset, h, _ | .lset, h, _ | .set1, h, _ => by cases h
theorem prim_bl {p : Prim} (h : (cmpOf p).isSome = true) : ∀ ws w, primF p ws = some w → ∃ k, w = .bl k := by
  intro ws w e
  have m1 : ∀ {o : Option Bool} {f : Bool → Bool}, o.map (fun c => W.bl (f c)) = some w → ∃ k, w = .bl k := fun {o f} e => by
    cases o with
    | none => cases e
    | some c => cases e; exact ⟨_, rfl⟩
  have m2 : ∀ {f : Int → Int → Bool} {a b : W}, pCmp f a b = some w → ∃ k, w = .bl k := fun {f a b} e => by
    cases a <;> cases b <;> cases e
    exact ⟨_, rfl⟩
  match ws with
  | [] => cases p <;> first | (cases h; done) | cases e
  | [a] => cases p <;> first | (cases h; done) | (cases e; exact ⟨_, rfl⟩) | (cases a <;> cases e)
  | [a, b] =>
    cases p <;> first
      | (cases h; done)
      | (cases e; done)
      | exact m1 (f := id) e
      | exact m1 (f := not) e
      | exact m2 e
  | a :: b :: c :: r => cases p <;> first | (cases h; done) | cases e
theorem okT_bl {K : KX} {σ : L2.St} {H : L2.Hp} {bt : Gh} {h : Hp} {b : Nat} {m : R W} {Q : Bool → L2.Hp → Prop} (hbl : ∀ w h', m = .ok w h' → ∃ k, w = .bl k) (q : OkT K Wx σ H bt b h Q m) : OkE K Wx σ H bt b h (fun x H' => ∃ k, x = .bl k ∧ Q k H') m := by
  cases m with
  | bad => exact q
  | exc e h1 => exact q
  | ok w h1 =>
    obtain ⟨k, rfl⟩ := hbl w h1 rfl
    obtain ⟨k', e, q⟩ := q
    have e : some k = some k' := e
    cases e
    exact fun v H1 bt1 x ok p r => ⟨k, r, q H1 bt1 x ok p⟩
/-- a comparison's run as a test -/
theorem cmp_test (c : Ctx Nw d C X) {p : Prim} {args : List Ex} {x : Expr} {es : List Expr} (hs : shp C p x = some es) (pl : PL X es (args.map fun a => tEv (kx X) Wx fun b ρ h => evE (evC C.T Nw d) b ρ a h))
    (pe : PE X x (tEv (kx X) Wx fun b ρ h => evE (evC C.T Nw d) b ρ (.pr false p args) h)) (z : tB (.pr false p args) x = true) : PT X x (tTv (kx X) Wx fun b ρ h => evE (evC C.T Nw d) b ρ (.pr false p args) h) := by
  by_cases hp : plainTestB x = true
  · exact tst pe (plain_test hp)
  · have hx : ∃ a o b pos, x = .Compare a [o] [b] pos := by
      unfold tB at z
      split at z <;> first | exact ⟨_, _, _, _, rfl⟩ | exact absurd z hp | (rename_i q; cases q)
    obtain ⟨a, o, b, pos, rfl⟩ := hx
    obtain ⟨rd, hr, hc, pt⟩ := prim_soundT c p hs pl
    refine PT.imp pt fun σ H Q q => ?_
    obtain ⟨b, bt, ρ, h, s, hb, q⟩ := q
    simp only [evE] at q
    have q2 := okT_bl (fun w h' e => by
      cases e1 : evEs (evC C.T Nw d) b ρ args h with
      | bad => rw [e1] at e; cases e
      | exc _ _ => rw [e1] at e; cases e
      | ok ws h1 =>
        rw [e1] at e
        have e : runPrim false p ws h1 = .ok w h' := e
        unfold runPrim at e
        split at e
        · cases e
        · rename_i w' e2
          simp only [Bool.false_eq_true, if_false] at e
          cases e
          exact prim_bl hc _ _ e2) q
    refine tl_of args σ H _ ⟨b, bt, ρ, h, s, hb, (OkEs.bind q2).mono fun vs H1 z => ?_⟩
    obtain ⟨ws, h1, bt1, _, x1, ok1, p1, r1, q1⟩ := z
    refine prim_run (σ := σ) (b := b) (m := false) hr ok1 (Nat.le_trans hb x1.len) r1 ?_
    revert q1
    cases e1 : runPrim false p ws h1 with
    | bad => exact _root_.id
    | exc e2 h2 => exact absurd e1 (runPrim_noexc e2 h2)
    | ok w2 h2 => exact _root_.id
def bopB : Expr → Bool
  | .BoolOp _ _ _ => true
  | _ => false
theorem PW.imp {e : Expr} {t t' : TT} (h : L2.PW X e t) (i : ∀ σ H Q, t' σ H Q → t σ H Q) : L2.PW X e t' := ⟨fun wh pins s σ H Q I q => h.run wh pins s σ H Q I (i σ H Q q)⟩
theorem ifOneT {op : BoolOp} {y : Expr} {rest : List Expr} {pos : Pos} {t : TT} (h : PT X (if rest.isEmpty = true then y else .BoolOp op (y :: rest) pos) t ∧ (bopB (if rest.isEmpty = true then y else .BoolOp op (y :: rest) pos) = true → L2.PW X (if rest.isEmpty = true then y else .BoolOp op (y :: rest) pos) t)) : L2.PW X (.BoolOp op (y :: rest) pos) t := by
  cases rest with
  | nil =>
    cases op with
    | And => exact L2.pw_and1 h.1
    | Or => exact L2.pw_or1 h.1
  | cons z zs => exact h.2 rfl
theorem noB {x : Expr} {t : TT} (h : PT X x t) (n : bopB x = false) : PT X x t ∧ (bopB x = true → L2.PW X x t) := ⟨h, fun z => by rw [n] at z; cases z⟩
theorem plain_nb {x : Expr} (h : plainTestB x = true) : bopB x = false := by
  cases x <;> first | rfl | cases h
theorem OkT.bind {K : KX} {σ : L2.St} {H : L2.Hp} {bt : Gh} {h : Hp} {b : Nat} {m : R W} {f : W → Hp → R W} {Q : Bool → L2.Hp → Prop} {Q' : Bool → L2.Hp → Prop} (q : OkT K Wx σ H bt b h Q (m.bind f)) (hn : ∀ w h1, truthW h1 w = none → f w h1 = .bad)
    (g : ∀ w h1 H1 bt1 k, truthW h1 w = some k → Exs H bt h H1 bt1 h1 → HeapOk K H1 bt1 h1 → Pres b h h1 → OkT K Wx σ H1 bt1 b h1 Q (f w h1) → Q' k H1) : OkT K Wx σ H bt b h Q' m := by
  cases m with
  | bad => exact q
  | exc e h1 => exact q
  | ok w h1 =>
    have q : OkT K Wx σ H bt b h Q (f w h1) := q
    cases et : truthW h1 w with
    | none => rw [hn w h1 et] at q; exact q.elim
    | some k =>
      refine ⟨k, et, fun H1 bt1 x ok p => g w h1 H1 bt1 k et x ok p ?_⟩
      cases e : f w h1 with
      | bad => rw [e] at q; exact q
      | exc e2 h2 => rw [e] at q; exact OkX.trans x p q
      | ok w2 h2 =>
        rw [e] at q
        obtain ⟨k2, e2, q⟩ := q
        exact ⟨k2, e2, fun H2 bt2 x2 ok2 p2 => q H2 bt2 (x.trans x2) ok2 (p.trans p2)⟩
theorem OkT.bindE {K : KX} {σ : L2.St} {H : L2.Hp} {bt : Gh} {h : Hp} {b : Nat} {m : R W} {f : W → Hp → R W} {Q : VK} {Q' : Bool → L2.Hp → Prop} (q : OkE K Wx σ H bt b h Q (m.bind f)) (hn : ∀ w h1, truthW h1 w = none → f w h1 = .bad)
    (g : ∀ w h1 H1 bt1 k, truthW h1 w = some k → Exs H bt h H1 bt1 h1 → HeapOk K H1 bt1 h1 → Pres b h h1 → OkE K Wx σ H1 bt1 b h1 Q (f w h1) → Q' k H1) : OkT K Wx σ H bt b h Q' m := by
  cases m with
  | bad => exact q
  | exc e h1 => exact q
  | ok w h1 =>
    have q : OkE K Wx σ H bt b h Q (f w h1) := q
    cases et : truthW h1 w with
    | none => rw [hn w h1 et] at q; exact q.elim
    | some k => exact ⟨k, et, fun H1 bt1 x ok p => g w h1 H1 bt1 k et x ok p (q.later x p)⟩
mutual
theorem sE (Nw d : Nat) : ∀ (e : Ex) (C : MC) (X : Cx) (Wx : WX) (x : Expr), Ctx Nw d C X → L2.Takes X Wx → mE C e x = true →
    PE X x (tEv (kx X) Wx fun b ρ h => evE (evC C.T Nw d) b ρ e h) ∧ (tB e x = true → PT X x (tTv (kx X) Wx fun b ρ h => evE (evC C.T Nw d) b ρ e h) ∧ (bopB x = true → L2.PW X x (tTv (kx X) Wx fun b ρ h => evE (evC C.T Nw d) b ρ e h)))
  | .var i, C, X, Wx, x, c, tk, m => by
    cases x <;> first | (simp [mE] at m; done) | skip
    rename_i nm pos
    simp only [mE, Bool.and_eq_true, decide_eq_true_eq] at m
    obtain ⟨⟨m1, m2⟩, m3⟩ := m
    simp only [okN, Bool.and_eq_true, Bool.not_eq_true'] at m3
    have pe : PE X (.Name nm pos) (tEv (kx X) Wx fun b ρ h => evE (evC C.T Nw d) b ρ (.var i) h) := PE.imp (L2.pe_var (by rw [c.hN]; exact m1) (c.vis m2) m3.1.1 m3.1.2) fun σ H Q q => by
      obtain ⟨b, bt, ρ, h, s, hb, q⟩ := q
      simp only [evE] at q
      split at q
      · rename_i w e
        obtain ⟨v, e1, r⟩ := s.sl i w e
        exact ⟨v, e1, q v H bt Exs.refl s.hp Pres.refl r⟩
      · exact q.elim
    exact ⟨pe, fun _ => noB (tst pe (fun _ => rfl)) rfl⟩
  | .cst w, C, X, Wx, x, c, tk, m => by
    simp only [mE] at m
    have fin : ∀ (v : V), PE X x (L2.tC v) → (∀ H bt h, Rep (kx X) H bt h w v) → PE X x (tEv (kx X) Wx fun b ρ h => evE (evC C.T Nw d) b ρ (.cst w) h) := fun v p r => PE.imp p fun σ H Q q => by
      obtain ⟨b, bt, ρ, h, s, hb, q⟩ := q
      simp only [evE] at q
      exact q v H bt Exs.refl s.hp Pres.refl (r H bt h)
    unfold cstB at m
    split at m
    · exact ⟨fin _ L2.pe_non fun _ _ _ => rfl, fun z => by simp [tB, plainTestB] at z⟩
    · cases eq_of_beq m
      exact ⟨fin _ L2.pe_bl fun _ _ _ => rfl, fun z => by simp [tB, plainTestB] at z⟩
    · cases of_decide_eq_true m
      exact ⟨fin _ L2.pe_int fun _ _ _ => rfl, fun z => by simp [tB, plainTestB] at z⟩
    · cases of_decide_eq_true m
      exact ⟨fin _ L2.pe_str fun _ _ _ => rfl, fun z => by simp [tB, plainTestB] at z⟩
    · cases m
  | .pr mu p args, C, X, Wx, x, c, tk, m => by
    simp only [mE] at m
    split at m
    · rename_i es hs
      have pl := sEs Nw d args C X Wx es c tk m
      obtain ⟨rd, hr, pe⟩ := prim_sound c p x es _ hs pl
      have run : ∀ σ H Q, (tEv (kx X) Wx fun b ρ h => evE (evC C.T Nw d) b ρ (.pr mu p args) h) σ H Q → tP (args.map fun a => tEv (kx X) Wx fun b ρ h => evE (evC C.T Nw d) b ρ a h) rd σ H Q := fun σ H Q q => by
        obtain ⟨b, bt, ρ, h, s, hb, q⟩ := q
        simp only [evE] at q
        refine tl_of args σ H _ ⟨b, bt, ρ, h, s, hb, (OkEs.bind q).mono fun vs H1 z => ?_⟩
        obtain ⟨ws, h1, bt1, _, x1, ok1, p1, r1, q1⟩ := z
        refine prim_run (σ := σ) (b := b) (m := mu) hr ok1 (Nat.le_trans hb x1.len) r1 ?_
        revert q1
        cases e1 : runPrim mu p ws h1 with
        | bad => exact id
        | exc e2 h2 => exact absurd e1 (runPrim_noexc e2 h2)
        | ok w2 h2 => exact id
      refine ⟨PE.imp pe run, fun z => ?_⟩
      cases mu with
      | false =>
        refine noB (cmp_test c hs pl (PE.imp pe run) z) ?_
        cases x <;> first | rfl | (simp [tB, plainTestB] at z)
      | true =>
        have z : plainTestB x = true := by cases x <;> exact z
        exact noB (tst (PE.imp pe run) (plain_test z)) (plain_nb z)
    · cases m
  | .lc mu t k srcs tests e, C, X, Wx, x, c, tk, m => by
    unfold mE at m
    split at m <;> rename_i hx <;> first | (cases hx; done) | skip
    · rename_i elt tg iter ifs scope pos
      cases hx
      simp only [Bool.and_eq_true] at m
      obtain ⟨⟨⟨⟨⟨⟨m1, m2⟩, m3⟩, m4⟩, m5⟩, m6⟩, m7⟩ := m
      split at m3
      · rename_i es hes
        have pi := iter_sound (call := evC C.T Nw d) (Wx := Wx) c k tg iter es srcs hes (sEs Nw d srcs C X Wx es c tk m3)
        have hB : ∀ (s : Shared) (H : L2.Hp) (Ca : Addr) (cl : List (Str × Addr)) (fp : List Addr), Ctx Nw d { C with sc := L2.relS scope C.sc, os := scope } (X.blk s H scope (compEnvC scope cl Ca X.env) fp) := fun s H Ca cl fp => c.blk s H Ca cl fp
        have he : ∀ (s : Shared) (H : L2.Hp) (Ca : Addr) (cl : List (Str × Addr)) (fp : List Addr), PE (X.blk s H scope (compEnvC scope cl Ca X.env) fp) elt (tEv (kx X) (fun _ _ _ _ => False) fun b ρ h => evE (evC C.T Nw d) b ρ e h) := fun s H Ca cl fp => (sE Nw d e _ _ (fun _ _ _ _ => False) elt (hB s H Ca cl fp) takesF m5).1
        have ht : ∃ tt, ((tests = [] ∧ tt = L2.tYes) ∨ ∃ c r, tests = c :: r ∧ tt = tTv (kx X) (fun _ _ _ _ => False) fun b ρ h => evE (evC C.T Nw d) b ρ c h) ∧ ∀ (s : Shared) (H : L2.Hp) (Ca : Addr) (cl : List (Str × Addr)) (fp : List Addr), L2.PTs (X.blk s H scope (compEnvC scope cl Ca X.env) fp) ifs tt := by
          match tests, ifs, m6, m7 with
          | [], [], m6, m7 => exact ⟨_, .inl ⟨rfl, rfl⟩, fun _ _ _ _ _ => L2.pts_nil⟩
          | [q], [y], m6, m7 =>
            simp only [mEs, Bool.and_eq_true] at m6
            exact ⟨_, .inr ⟨_, _, rfl, rfl⟩, fun s H Ca cl fp => L2.pts_one ((sE Nw d q _ _ (fun _ _ _ _ => False) y (hB s H Ca cl fp) takesF m6.1).2 m7).1⟩
        obtain ⟨tt, htt, ht⟩ := ht
        have hsn : ∀ x, foldedSetIterable iter X.env x = pure x := by
          intro x
          cases iter <;> first | (cases m2; done) | rfl
        have hgt : ∀ (s : Shared) (H : L2.Hp) (Ca : Addr) (cl : List (Str × Addr)) (fp : List Addr), PG (X.blk s H scope (compEnvC scope cl Ca X.env) fp) tg (gT (kx X) t) := fun s H Ca cl fp => tg_sound (hB s H Ca cl fp) t tg m4
        have pe := L2.pe_lc (pos := pos) c.calm (by rw [c.hN]; exact c.nd) pi (blkOk (by rw [c.hN, c.sc]; exact m1)) hgt ht he hsn
        refine ⟨PE.imp pe fun σ H Q q => ?_, fun z => by simp [tB, plainTestB] at z⟩
        obtain ⟨b, bt, ρ, h, s, hb, q⟩ := q
        simp only [evE] at q
        rw [ownOf_snd]
        refine ⟨b, bt, ρ, h, s, hb, (OkEs.bind q).mono fun vs H1 z => ?_⟩
        obtain ⟨ws, h1, bt1, _, x1, ok1, p1, r1, q1⟩ := z
        split at q1
        · exact q1.elim
        · rename_i its ei
          refine ⟨bt1, h1, ws, its, ok1, r1, ei, fun J hJ D hD => ?_⟩
          have hb1 : b ≤ h1.length := Nat.le_trans hb x1.len
          cases mu with
          | false =>
            simp only [Bool.false_eq_true, if_false] at q1
            have q1 : OkE (kx X) Wx σ H1 bt1 b h1 Q ((lcLoop (lcB (evC C.T Nw d) b ρ t tests e) (fun h2 => sameAt h1 h2 ws) its [] h1).bind fun ys h2 => .ok (.lst ys) h2) := q1
            refine lc_run (b := b) (body := lcB (evC C.T Nw d) b ρ t tests e) ok1 r1 ei hJ (fun Hc btc hc w x N0 N1 okc xc rw' q2 hbc => ?_) hb1 ?_ hD
            · exact turn_sound ((s.ext x1 ok1).ext xc okc) hbc htt rw' q2
            · revert q1
              generalize lcLoop _ _ its [] h1 = r
              intro q1
              cases r with
              | bad => exact q1
              | exc _ _ => exact True.intro
              | ok ys h2 => exact q1
          | true =>
            simp only [if_true] at q1
            have q1 : OkE (kx X) Wx σ H1 bt1 b h1 Q (lcLoopM (lcB (evC C.T Nw d) b ρ t tests e) (fun h2 => sameAt h1 h2 ws) h1.length its [] (h1 ++ [.lst []])) := q1
            refine lc_runM (b := b) (body := lcB (evC C.T Nw d) b ρ t tests e) ok1 r1 ei hJ (fun Hc btc hc w x N0 N1 okc xc rw' q2 hbc => ?_) hb1 ?_ hD
            · exact turn_sound ((s.ext x1 ok1).ext xc okc) hbc htt rw' q2
            · revert q1
              generalize lcLoopM _ _ _ its [] _ = r
              intro q1
              cases r with
              | bad => exact q1
              | exc _ _ => exact True.intro
              | ok ys h2 => exact q1
      · cases m3
    · cases m
  | .and_ a b, C, X, Wx, x, c, tk, m => by
    unfold mE at m
    split at m <;> rename_i hx <;> first | (cases hx; done) | skip
    · rename_i y z rest pos
      cases hx
      simp only [Bool.and_eq_true] at m
      obtain ⟨pa, ta⟩ := sE Nw d a C X Wx y c tk m.1
      obtain ⟨pb, tb⟩ := sE Nw d b C X Wx _ c tk m.2
      refine ⟨PE.imp (L2.pe_andT pa (ifOne pb)) fun σ H Q q => ?_, fun w => ?_⟩
      · obtain ⟨b0, bt, ρ, h, s, hb, q⟩ := q
        simp only [evE] at q
        refine ⟨b0, bt, ρ, h, s, hb, (OkE.bind q).mono fun v H1 z => ?_⟩
        obtain ⟨w, h1, bt1, _, x1, ok1, p1, r1, q1⟩ := z
        cases et : truthW h1 w with
        | none => rw [et] at q1; exact q1.elim
        | some kk =>
          rw [et] at q1
          refine ⟨kk, truth_rep ok1 r1 et, ?_⟩
          cases kk with
          | true => exact ⟨b0, bt1, ρ, h1, s.ext x1 ok1, Nat.le_trans hb x1.len, q1⟩
          | false => exact q1 v H1 bt1 Exs.refl ok1 Pres.refl r1
      · simp only [tB, Bool.and_eq_true] at w
        have pt := L2.pw_and (pos := pos) (ta w.1).1 (ifOneT (tb w.2))
        refine (fun (z : L2.PW X _ _) => ⟨z.pt, fun _ => z⟩) (PW.imp pt fun σ H Q q => ?_)
        obtain ⟨b0, bt, ρ, h, s, hb, q⟩ := q
        simp only [evE] at q
        refine ⟨b0, bt, ρ, h, s, hb, OkT.bind q (fun w h1 et => by rw [et]) fun w h1 H1 bt1 kk et x1 ok1 p1 q1 => ?_⟩
        rw [et] at q1
        cases kk with
        | true => exact ⟨b0, bt1, ρ, h1, s.ext x1 ok1, Nat.le_trans hb x1.len, q1⟩
        | false =>
          obtain ⟨k2, e2, q1⟩ := q1
          rw [et] at e2
          cases e2
          exact q1 H1 bt1 Exs.refl ok1 Pres.refl
    · cases m
  | .or_ a b, C, X, Wx, x, c, tk, m => by
    unfold mE at m
    split at m <;> rename_i hx <;> first | (cases hx; done) | skip
    · rename_i y z rest pos
      cases hx
      simp only [Bool.and_eq_true] at m
      obtain ⟨pa, ta⟩ := sE Nw d a C X Wx y c tk m.1
      obtain ⟨pb, tb⟩ := sE Nw d b C X Wx _ c tk m.2
      refine ⟨PE.imp (L2.pe_orT pa (ifOne pb)) fun σ H Q q => ?_, fun w => ?_⟩
      · obtain ⟨b0, bt, ρ, h, s, hb, q⟩ := q
        simp only [evE] at q
        refine ⟨b0, bt, ρ, h, s, hb, (OkE.bind q).mono fun v H1 z => ?_⟩
        obtain ⟨w, h1, bt1, _, x1, ok1, p1, r1, q1⟩ := z
        cases et : truthW h1 w with
        | none => rw [et] at q1; exact q1.elim
        | some kk =>
          rw [et] at q1
          refine ⟨kk, truth_rep ok1 r1 et, ?_⟩
          cases kk with
          | true => exact q1 v H1 bt1 Exs.refl ok1 Pres.refl r1
          | false => exact ⟨b0, bt1, ρ, h1, s.ext x1 ok1, Nat.le_trans hb x1.len, q1⟩
      · simp only [tB, Bool.and_eq_true] at w
        have pt := L2.pw_or (pos := pos) (ta w.1).1 (ifOneT (tb w.2))
        refine (fun (z : L2.PW X _ _) => ⟨z.pt, fun _ => z⟩) (PW.imp pt fun σ H Q q => ?_)
        obtain ⟨b0, bt, ρ, h, s, hb, q⟩ := q
        simp only [evE] at q
        refine ⟨b0, bt, ρ, h, s, hb, OkT.bind q (fun w h1 et => by rw [et]) fun w h1 H1 bt1 kk et x1 ok1 p1 q1 => ?_⟩
        rw [et] at q1
        cases kk with
        | false => exact ⟨b0, bt1, ρ, h1, s.ext x1 ok1, Nat.le_trans hb x1.len, q1⟩
        | true =>
          obtain ⟨k2, e2, q1⟩ := q1
          rw [et] at e2
          cases e2
          exact q1 H1 bt1 Exs.refl ok1 Pres.refl
    · cases m
  | .not_ a, C, X, Wx, x, c, tk, m => by
    unfold mE at m
    split at m <;> rename_i hx <;> first | (cases hx; done) | skip
    · rename_i y pos
      cases hx
      obtain ⟨pa, ta⟩ := sE Nw d a C X Wx y c tk m
      refine ⟨PE.imp (L2.pe_notT pa) fun σ H Q q => ?_, fun w => ?_⟩
      · obtain ⟨b0, bt, ρ, h, s, hb, q⟩ := q
        simp only [evE] at q
        refine ⟨b0, bt, ρ, h, s, hb, (OkE.bind q).mono fun v H1 z => ?_⟩
        obtain ⟨w, h1, bt1, _, x1, ok1, p1, r1, q1⟩ := z
        cases et : truthW h1 w with
        | none => rw [et] at q1; exact q1.elim
        | some kk =>
          rw [et] at q1
          exact ⟨kk, truth_rep ok1 r1 et, q1 _ H1 bt1 Exs.refl ok1 Pres.refl rfl⟩
      · simp only [tB] at w
        refine noB (PT.imp (L2.pt_not (ta w).1) fun σ H Q q => ?_) rfl
        obtain ⟨b0, bt, ρ, h, s, hb, q⟩ := q
        simp only [evE] at q
        refine ⟨b0, bt, ρ, h, s, hb, OkT.bind q (fun w h1 et => by rw [et]) fun w h1 H1 bt1 kk et x1 ok1 p1 q1 => ?_⟩
        rw [et] at q1
        obtain ⟨k2, e2, q1⟩ := q1
        have e2 : some (!kk) = some k2 := e2
        cases e2
        exact q1 H1 bt1 Exs.refl ok1 Pres.refl
    · cases m
  | .ite q a b, C, X, Wx, x, c, tk, m => by
    unfold mE at m
    split at m <;> rename_i hx <;> first | (cases hx; done) | skip
    · rename_i y1 y2 y3 pos
      cases hx
      simp only [Bool.and_eq_true] at m
      obtain ⟨⟨⟨m1, m2⟩, m3⟩, m4⟩ := m
      have pq := ((sE Nw d q C X Wx y1 c tk m1).2 m2).1
      have pa := (sE Nw d a C X Wx y2 c tk m3).1
      have pb := (sE Nw d b C X Wx y3 c tk m4).1
      refine ⟨PE.imp (L2.pe_ifExp pq pa pb) fun σ H Q q => ?_, fun z => by simp [tB, plainTestB] at z⟩
      obtain ⟨b0, bt, ρ, h, s, hb, q⟩ := q
      simp only [evE] at q
      refine ⟨b0, bt, ρ, h, s, hb, OkT.bindE q (fun w h1 et => by rw [et]) fun w h1 H1 bt1 kk et x1 ok1 p1 q1 => ?_⟩
      rw [et] at q1
      cases kk with
      | true => exact ⟨b0, bt1, ρ, h1, s.ext x1 ok1, Nat.le_trans hb x1.len, q1⟩
      | false => exact ⟨b0, bt1, ρ, h1, s.ext x1 ok1, Nat.le_trans hb x1.len, q1⟩
    · cases m
  | .chn _ _ _ _ _, C, X, Wx, x, c, tk, m => by simp [mE] at m
  | .call k args, C, X, Wx, x, c, tk, m => by
    unfold mE at m
    split at m <;> rename_i hx <;> first | (cases hx; done) | skip
    · rename_i nm p0 e0 es pos
      cases hx
      simp only [Bool.and_eq_true] at m
      obtain ⟨⟨⟨⟨m1, m2⟩, m3⟩, m4⟩, m5⟩ := m
      split at m1
      · rename_i df edf
        cases of_decide_eq_true m1
        simp only [okN, Bool.and_eq_true, Bool.not_eq_true'] at m3
        have pl := sEs Nw d args C X Wx _ c tk m5
        obtain ⟨f, fd, ps, F, hm, hk, hb⟩ := c.fns k df edf
        have nse := m4
        simp only [List.all_cons, Bool.and_eq_true] at nse
        have pe : PE X (.Call (.Name df.name p0) (e0 :: es) [] pos) (tEv (kx X) Wx fun b ρ h => evE (evC C.T Nw d) b ρ (.call k args) h) := by
          refine PE.imp (L2.pe_callSD (dvs := []) (ds := []) (E := L2.WE Wx) F c.room (c.gl m2) hm hk hb .nil (fun σ => L2.passAt tk σ) (pl.pa m4) m3.1.1 (star_ns nse.1 _ _) (star_all nse.2 _ _)) fun σ H Q q => ?_
          obtain ⟨b0, bt, ρ, h, s, hb, q⟩ := q
          simp only [evE] at q
          refine tl_of args σ H _ ⟨b0, bt, ρ, h, s, hb, (OkEs.bind q).mono fun vs H1 z => ?_⟩
          obtain ⟨ws, h1, bt1, _, x1, ok1, p1, r1, q1⟩ := z
          rw [List.append_nil]
          exact ⟨by rw [← r1.length]; exact evC_len edf q1.ne, b0, bt1, h1, ws, ok1, Nat.le_trans hb x1.len, r1, q1.flat⟩
        exact ⟨pe, fun _ => noB (tst pe (fun _ => rfl)) rfl⟩
      · cases m1
    · cases m
  | .mth mm o args, C, X, Wx, x, c, tk, m => by
    simp only [mE] at m
    split at m
    · rename_i o' es hs
      simp only [Bool.and_eq_true] at m
      have po := (sE Nw d o C X Wx o' c tk m.1).1
      have pl := sEs Nw d args C X Wx es c tk m.2
      obtain ⟨r, hr, pe0⟩ := mth_sound mm x o' es _ _ hs po pl
      have pe : PE X x (tEv (kx X) Wx fun b ρ h => evE (evC C.T Nw d) b ρ (.mth mm o args) h) := by
        refine PE.imp pe0 fun σ H Q q => ?_
        obtain ⟨b0, bt, ρ, h, s, hb, q⟩ := q
        simp only [evE] at q
        refine ⟨b0, bt, ρ, h, s, hb, (OkE.bind q).mono fun v H1 z => ?_⟩
        obtain ⟨w, h1, bt1, _, x1, ok1, p1, r1, q1⟩ := z
        split at q1
        · rename_i hrv
          refine ⟨recv_ty ok1 r1 hrv, ?_⟩
          have hb1 := Nat.le_trans hb x1.len
          refine tl_of args σ H1 _ ⟨b0, bt1, ρ, h1, s.ext x1 ok1, hb1, (OkEs.bind q1).mono fun vs H2 z => ?_⟩
          obtain ⟨ws, h2, bt2, _, x2, ok2, p2, r2, q2⟩ := z
          exact hr σ H2 bt2 h2 b0 Wx w ws v vs Q ok2 (r1.ext ok1 x2.toExt) r2 (Nat.le_trans hb1 x2.len) q2
        · exact q1.elim
      refine ⟨pe, fun z => ?_⟩
      unfold mthShp at hs
      split at hs
      · exact noB (tst pe (fun _ => rfl)) rfl
      · cases hs
    · cases m
  | .frz a, C, X, Wx, x, c, tk, m => by
    simp only [mE] at m
    have pa := (sE Nw d a C X Wx x c tk m).1
    have pe : PE X x (tEv (kx X) Wx fun b ρ h => evE (evC C.T Nw d) b ρ (.frz a) h) := by
      refine PE.imp pa fun σ H Q q => ?_
      obtain ⟨b0, bt, ρ, h, s, hb, q⟩ := q
      simp only [evE] at q
      refine ⟨b0, bt, ρ, h, s, hb, (OkE.bind q).mono fun v H1 z => ?_⟩
      obtain ⟨w, h1, bt1, _, x1, ok1, p1, r1, q1⟩ := z
      cases w <;> first | exact q1.elim | skip
      rename_i n _
      simp only at q1
      split at q1
      · rename_i ws e
        obtain ⟨ok2, x2, r2⟩ := ok1.freezeX e
        rw [r1.2]
        exact q1 _ H1 bt1 x2 ok2 (Pres.put (.inr rfl) fun _ _ => rfl) r2
      · rename_i ks vs e
        exact (ok1.objs n _ e).elim
      · exact q1.elim
    refine ⟨pe, fun z => ?_⟩
    have z : plainTestB x = true := by cases x <;> exact z
    exact noB (tst pe (plain_test z)) (plain_nb z)
  | .opq, C, X, Wx, x, c, tk, m => by
    have pe : PE X x (tEv (kx X) Wx fun b ρ h => evE (evC C.T Nw d) b ρ .opq h) := ⟨fun pins s σ H Q I q => by
      obtain ⟨b, bt, ρ, h, s, hb, q⟩ := q
      simp only [evE] at q
      exact q.elim⟩
    refine ⟨pe, fun z => ?_⟩
    have z : plainTestB x = true := by cases x <;> exact z
    exact noB (tst pe (plain_test z)) (plain_nb z)
theorem sEs (Nw d : Nat) : ∀ (es : List Ex) (C : MC) (X : Cx) (Wx : WX) (xs : List Expr), Ctx Nw d C X → L2.Takes X Wx → mEs C es xs = true →
    PL X xs (es.map fun e => tEv (kx X) Wx fun b ρ h => evE (evC C.T Nw d) b ρ e h)
  | [], C, X, Wx, xs, c, tk, m => by
    cases xs with
    | nil => exact .nil
    | cons _ _ => simp [mEs] at m
  | e :: es, C, X, Wx, xs, c, tk, m => by
    cases xs with
    | nil => simp [mEs] at m
    | cons y ys =>
      simp only [mEs, Bool.and_eq_true] at m
      exact .cons (sE Nw d e C X Wx y c tk m.1).1 (sEs Nw d es C X Wx ys c tk m.2)
end
end
end Ow

/-! Ow10: statements. -/
namespace Ow
open PySem PySem.Spec PyProof.Rows
open L2 (V SqL SqT Rd HO upd upd_same upd_ne TE TT TA TS VK Cx PE PT PA PS PSs WX OpR UnR CallR R2 Room Gl Sp XK CXT FnOk Binds TG TGs PG PGs It TI PI Inv RelV Vals thn wipe Ends)

def lcB? : Expr → Bool
  | .ListComp _ _ _ _ => true
  | .SetComp _ _ _ _ => true
  | .DictComp _ _ _ _ _ => true
  | _ => false
def tupB? : Expr → Bool
  | .Tuple _ _ _ => true
  | _ => false
/-- the name is swapped with the comprehension's value -/
def swB (C : MC) (t : Str) (scope : Scope) (pl vl : Nat) : Bool :=
  (match C.sc.names.lookup t with
    | some .local => true
    | _ => false) && (pl == vl) && !(scope.names.any fun (n, k) => n == t && (k == .local || k == .cell))
def locB (C : MC) (x : Str) : Bool := match C.os.names.lookup x with
  | some .local => true
  | _ => false
def funB (C : MC) : Bool := match C.sc.kind with
  | .function => true
  | _ => false
def asgB (C : MC) : Tg → Expr → Expr → Bool
  | .nm i, .Name x pos, e => if lcB? e then (match e with
      | .ListComp _ _ scope pos' => funB C && locB C x && swB C x scope pos.line pos'.line
      | _ => false) else true
  | .tp _, .Tuple _ _ _, e => !lcB? e && !tupB? e
  | _, _, _ => false
def lcE : Ex → Bool
  | .lc _ _ _ _ _ _ => true
  | _ => false
def subIxB : Expr → Bool
  | .Name _ _ => true
  | .Constant _ _ _ => true
  | .BinOp _ _ _ _ => true
  | .UnaryOp _ _ _ => true
  | .Call _ _ _ _ => true
  | .Subscript _ _ _ => true
  | _ => false
mutual
def mS (C : MC) : St → Stmt → Bool
  | .asg t e, .Assign [tg] x _ => mT C t tg && mE C e x && asgB C t tg x && (!lcB? x || lcE e)
  | .seti o i e, .Assign [.Subscript o' i' _] x _ => mE C e x && mE C o o' && mE C i i' && subIxB i' && !lcB? x
  | .aug i p e, .AugAssign (.Name x _) op y _ => decide (C.N[i]? = some x) && ownB C x && mE C e y && (match p, op with
      | .add, .Add => true
      | .sub, .Sub => true
      | _, _ => false)
  | .exp e, .Expr x _ => mE C e x && !lcB? x
  | .ret e, .Return (some x) _ => mE C e x
  | .ret (.cst .non), .Return none _ => true
  | .iff c a b, .If c' a' b' _ => mE C c c' && tB c c' && mB C a a' && mB C b b'
  | .forr _ t k srcs _ body, .For tg iter body' [] _ => nsetB iter && mT C t tg && (match iterShp C k tg iter with
      | some es => mEs C srcs es
      | none => false) && mB C body body'
  | .whl c _ body, .While c' body' [] _ => mE C c c' && tB c c' && mB C body body'
  | .brk, .Break _ => true
  | .cnt, .Continue _ => true
  | .pass, .Pass _ => true
  | .opq, _ => true
  | _, _ => false
def mB (C : MC) : List St → List Stmt → Bool
  | [], [] => true
  | s :: ss, x :: xs => mS C s x && mB C ss xs
  | _, _ => false
end

/-- what is wanted of a statement's end -/
def OkS (K : KX) (Wx : WX) (H : L2.Hp) (bt : Gh) (b : Nat) (h : Hp) (D : Ends) : RS → Prop
  | .nxt ρ' h' => ∀ σ' H' bt', Exs H bt h H' bt' h' → Pres b h h' → Stt K σ' H' bt' ρ' h' → D.nx σ' H'
  | .brk ρ' h' => ∀ σ' H' bt', Exs H bt h H' bt' h' → Pres b h h' → Stt K σ' H' bt' ρ' h' → D.bk σ' H'
  | .cnt ρ' h' => ∀ σ' H' bt', Exs H bt h H' bt' h' → Pres b h h' → Stt K σ' H' bt' ρ' h' → D.ct σ' H'
  | .ret w h' => ∀ v H' bt', Exs H bt h H' bt' h' → HeapOk K H' bt' h' → Pres b h h' → Rep K H' bt' h' w v → D.rt v H'
  | .exc e ρ' h' => ∀ c d σ' H' bt', Exs H bt h H' bt' h' → Pres b h h' → Stt K σ' H' bt' ρ' h' → RepX H' bt' h' e c d → Wx c d σ' H'
  | .bad => False
def tSv (K : KX) (Wx : WX) (m : Nat → Env → Hp → RS) : TS := fun D σ H => ∃ b bt ρ h, Stt K σ H bt ρ h ∧ b ≤ h.length ∧ OkS K Wx H bt b h D (m b ρ h)
section
variable {K : KX} {σ : L2.St} {H H' : L2.Hp} {bt bt' : Gh} {h h' : Hp} {Wx : WX} {b : Nat} {D : Ends} {ρ : Env}
theorem OkS.later {r : RS} {H1 : L2.Hp} {bt1 : Gh} {h1 : Hp} (x : Exs H bt h H1 bt1 h1) (p : Pres b h h1) (q : OkS K Wx H bt b h D r) : OkS K Wx H1 bt1 b h1 D r := by
  cases r with
  | bad => exact q
  | exc e ρ' h2 => exact fun c d σ' H2 bt2 x2 p2 s2 rx => q c d σ' H2 bt2 (x.trans x2) (p.trans p2) s2 rx
  | nxt ρ' h2 => exact fun σ' H2 bt2 x2 p2 s2 => q σ' H2 bt2 (x.trans x2) (p.trans p2) s2
  | brk ρ' h2 => exact fun σ' H2 bt2 x2 p2 s2 => q σ' H2 bt2 (x.trans x2) (p.trans p2) s2
  | cnt ρ' h2 => exact fun σ' H2 bt2 x2 p2 s2 => q σ' H2 bt2 (x.trans x2) (p.trans p2) s2
  | ret w h2 => exact fun v H2 bt2 x2 ok2 p2 r2 => q v H2 bt2 (x.trans x2) ok2 (p.trans p2) r2
/-- an expression, then the rest -/
theorem oks_R {m : R W} {f : W → Hp → RS} {D : Ends} (s : Stt K σ H bt ρ h) (q : OkS K Wx H bt b h D (ofR m ρ f)) :
    OkE K Wx σ H bt b h (fun v H1 => ∃ w h1 bt1, m = .ok w h1 ∧ Exs H bt h H1 bt1 h1 ∧ HeapOk K H1 bt1 h1 ∧ Pres b h h1 ∧ Rep K H1 bt1 h1 w v ∧ Stt K σ H1 bt1 ρ h1 ∧ OkS K Wx H1 bt1 b h1 D (f w h1)) m := by
  cases m with
  | bad => exact q
  | exc e h1 => exact fun c d H1 bt1 x ok p rx => q c d σ H1 bt1 x p (s.ext x ok) rx
  | ok w h1 => exact fun v H1 bt1 x ok p r => ⟨w, h1, bt1, rfl, x, ok, p, r, s.ext x ok, OkS.later x p q⟩
theorem oks_Rs {m : R (List W)} {f : List W → Hp → RS} {D : Ends} (s : Stt K σ H bt ρ h) (q : OkS K Wx H bt b h D (ofRs m ρ f)) :
    OkEs K Wx σ H bt b h (fun vs H1 => ∃ ws h1 bt1, m = .ok ws h1 ∧ Exs H bt h H1 bt1 h1 ∧ HeapOk K H1 bt1 h1 ∧ Pres b h h1 ∧ RepL K H1 bt1 h1 ws vs ∧ Stt K σ H1 bt1 ρ h1 ∧ OkS K Wx H1 bt1 b h1 D (f ws h1)) m := by
  cases m with
  | bad => exact q
  | exc e h1 => exact fun c d H1 bt1 x ok p rx => q c d σ H1 bt1 x p (s.ext x ok) rx
  | ok w h1 => exact fun v H1 bt1 x ok p r => ⟨w, h1, bt1, rfl, x, ok, p, r, s.ext x ok, OkS.later x p q⟩
/-- a test, then the rest -/
theorem oks_T {m : R W} {f : W → Hp → RS} {D : Ends} (s : Stt K σ H bt ρ h) (q : OkS K Wx H bt b h D (ofR m ρ f)) (hn : ∀ w h1, truthW h1 w = none → f w h1 = .bad) :
    OkT K Wx σ H bt b h (fun k H1 => ∃ w h1 bt1, truthW h1 w = some k ∧ Exs H bt h H1 bt1 h1 ∧ HeapOk K H1 bt1 h1 ∧ Pres b h h1 ∧ Stt K σ H1 bt1 ρ h1 ∧ OkS K Wx H1 bt1 b h1 D (f w h1)) m := by
  cases m with
  | bad => exact q
  | exc e h1 => exact fun c d H1 bt1 x ok p rx => q c d σ H1 bt1 x p (s.ext x ok) rx
  | ok w h1 =>
    have q : OkS K Wx H bt b h D (f w h1) := q
    cases et : truthW h1 w with
    | none => rw [hn w h1 et] at q; exact q.elim
    | some k => exact ⟨k, et, fun H1 bt1 x ok p => ⟨w, h1, bt1, et, x, ok, p, s.ext x ok, OkS.later x p q⟩⟩
end

section
variable {K : KX} {H1 : L2.Hp} {bt1 : Gh} {h1 : Hp} {b : Nat} {k : ItK} {ws : List W} {vs0 : List V} {its : List W} {J : It} {g : TG} {tb : TS} {Wx : WX} {D : Ends} {σ : L2.St} {ρ : Env}
open Classical in
theorem for_run (s1 : Stt K σ H1 bt1 ρ h1) (rw0 : RepL K H1 bt1 h1 ws vs0) (ei : itemsOf k (ws.map (deref h1)) = some its) (hJ : ItOk K k ws vs0 its J) {body : W → Env → Hp → RS} {kill : List Nat}
    (hbody : ∀ (D' : Ends) (σc : L2.St) (Hc : L2.Hp) btc ρc hc w x, Stt K σc Hc btc ρc hc → Rep K Hc btc hc w x → b ≤ hc.length → OkS K Wx Hc btc b hc D' (body w ρc hc) → g x σc Hc fun σ2 H2 => tb D' σ2 H2)
    (hb : b ≤ h1.length) (fin : OkS K Wx H1 bt1 b h1 D (forLoop body kill (fun h2 => sameAt h1 h2 ws) its ρ h1)) :
    ∃ W : Nat → Nat → L2.St → L2.Hp → Prop, (∃ m, W 0 m σ H1) ∧ ∀ i m σ H, W i m σ H →
      (J.stop i H ∧ D.nx σ H) ∨ (J.go i H ∧ ∃ N : L2.St → L2.Hp → Prop, (∀ σ' H', N σ' H' → ∃ m', m' < m ∧ W (i + 1) m' σ' H') ∧ ∀ x H', J.yld i H x H' → g x σ H' fun σ2 H2 => tb { D with nx := N, ct := N, bk := D.nx } σ2 H2) := by
  refine ⟨fun i m σc Hc => m = its.length - i ∧ i ≤ its.length ∧ ∃ btc ρc hc, Stt K σc Hc btc ρc hc ∧ Exs H1 bt1 h1 Hc btc hc ∧ Pres b h1 hc ∧ ws.map (deref hc) = ws.map (deref h1) ∧
    OkS K Wx H1 bt1 b h1 D (forLoop body kill (fun h2 => sameAt h1 h2 ws) (its.drop i) ρc hc), ⟨_, rfl, Nat.zero_le _, bt1, ρ, h1, s1, Exs.refl, Pres.refl, rfl, fin⟩, ?_⟩
  rintro i m σc Hc ⟨rfl, hi, btc, ρc, hc, sc, xc, pc, sm, fin⟩
  obtain ⟨J1, J2, J3⟩ := hJ Hc btc hc sc.hp (rw0.ext s1.hp xc.toExt) (by rw [sm]; exact ei)
  by_cases hlt : i < its.length
  · have ed : its.drop i = its[i] :: its.drop (i + 1) := List.drop_eq_getElem_cons hlt
    rw [ed] at fin
    refine .inr ⟨J1 i hlt, fun σn Hn => i + 1 ≤ its.length ∧ ∃ btc ρc hc, Stt K σn Hn btc ρc hc ∧ Exs H1 bt1 h1 Hn btc hc ∧ Pres b h1 hc ∧ ws.map (deref hc) = ws.map (deref h1) ∧
      OkS K Wx H1 bt1 b h1 D (forLoop body kill (fun h2 => sameAt h1 h2 ws) (its.drop (i + 1)) ρc hc), fun σn Hn z => ⟨_, by omega, rfl, z.1, z.2⟩, fun x H' y => ?_⟩
    obtain ⟨s, rx⟩ := J3 i _ x H' (List.getElem?_eq_getElem hlt) y
    obtain ⟨ok', x'⟩ := sc.hp.sameX s
    have xx' := xc.trans x'
    refine hbody _ σc H' btc (wipeE ρc kill) hc _ x ((sc.ext x' ok').wipe1 kill) rx (Nat.le_trans hb xc.len) ?_
    unfold forLoop at fin
    cases eb : body its[i] (wipeE ρc kill) hc with
    | bad => rw [eb] at fin; exact fin
    | exc e r2 h2 => rw [eb] at fin; exact OkS.later (r := .exc e r2 h2) xx' pc fin
    | ret w h2 => rw [eb] at fin; exact OkS.later (r := .ret w h2) xx' pc fin
    | nxt r2 h2 =>
      rw [eb] at fin
      simp only at fin
      split at fin
      · rename_i kp
        exact fun σ2 H2 bt2 x2 p2 s2 => ⟨hlt, bt2, r2, h2, s2, xx'.trans x2, pc.trans p2, sameAt_map kp, fin⟩
      · exact fin.elim
    | cnt r2 h2 =>
      rw [eb] at fin
      simp only at fin
      split at fin
      · rename_i kp
        exact fun σ2 H2 bt2 x2 p2 s2 => ⟨hlt, bt2, r2, h2, s2, xx'.trans x2, pc.trans p2, sameAt_map kp, fin⟩
      · exact fin.elim
    | brk r2 h2 =>
      rw [eb] at fin
      simp only at fin
      exact fun σ2 H2 bt2 x2 p2 s2 => fin σ2 H2 bt2 (xx'.trans x2) (pc.trans p2) (s2.wipe1 kill)
  · have e : i = its.length := by omega
    subst e
    rw [List.drop_length] at fin
    unfold forLoop at fin
    exact .inl ⟨J2, fin σc Hc btc xc pc (sc.wipe1 kill)⟩
theorem while_run (s1 : Stt K σ H1 bt1 ρ h1) (hb : b ≤ h1.length) {test : Env → Hp → R W} {body : Env → Hp → RS} {kill : List Nat} {N : Nat} {tc : TT}
    (htest : ∀ (σc : L2.St) (Hc : L2.Hp) btc ρc hc (Q : Bool → L2.Hp → Prop), Stt K σc Hc btc ρc hc → b ≤ hc.length → OkT K Wx σc Hc btc b hc Q (test ρc hc) → tc σc Hc Q)
    (hbody : ∀ (D' : Ends) (σc : L2.St) (Hc : L2.Hp) btc ρc hc, Stt K σc Hc btc ρc hc → b ≤ hc.length → OkS K Wx Hc btc b hc D' (body ρc hc) → tb D' σc Hc)
    (fin : OkS K Wx H1 bt1 b h1 D (whileLoop test body kill N ρ h1)) : L2.tWhile tc tb D σ H1 := by
  refine ⟨fun m σc Hc => ∃ btc ρc hc, Stt K σc Hc btc ρc hc ∧ Exs H1 bt1 h1 Hc btc hc ∧ Pres b h1 hc ∧ OkS K Wx H1 bt1 b h1 D (whileLoop test body kill m ρc hc), ⟨N, bt1, ρ, h1, s1, Exs.refl, Pres.refl, fin⟩, ?_⟩
  rintro m σc Hc ⟨btc, ρc, hc, sc, xc, pc, fin⟩
  cases m with
  | zero => exact fin.elim
  | succ m =>
    unfold whileLoop at fin
    have hbc := Nat.le_trans hb xc.len
    have sw := sc.wipe1 kill
    refine htest σc Hc btc _ hc _ sw hbc ?_
    cases er : test (wipeE ρc kill) hc with
    | bad => rw [er] at fin; exact fin
    | exc e h2 => rw [er] at fin; exact fun c d H2 bt2 x ok p rx => fin c d σc H2 bt2 (xc.trans x) (pc.trans p) (sw.ext x ok) rx
    | ok w0 h2 =>
      rw [er] at fin
      simp only [ofR_ok] at fin
      cases et : truthW h2 w0 with
      | none => rw [et] at fin; exact fin.elim
      | some k =>
        rw [et] at fin
        refine ⟨k, et, fun H' bt2 x2 ok2 p2 => ?_⟩
        have s2 := sw.ext x2 ok2
        have xx := xc.trans x2
        have pp := pc.trans p2
        have hb2 := Nat.le_trans hbc x2.len
        cases k with
        | false =>
          exact L2.iteF (fin σc H' bt2 xx pp s2)
        | true =>
          simp only at fin
          refine L2.iteT ⟨fun σn Hn => ∃ btc ρc hc, Stt K σn Hn btc ρc hc ∧ Exs H1 bt1 h1 Hn btc hc ∧ Pres b h1 hc ∧ OkS K Wx H1 bt1 b h1 D (whileLoop test body kill m ρc hc), fun σn Hn z => ⟨m, Nat.lt_succ_self m, z⟩, ?_⟩
          refine hbody _ σc H' bt2 _ h2 s2 hb2 ?_
          cases eb : body (wipeE ρc kill) h2 with
          | bad => rw [eb] at fin; exact fin
          | exc e r2 h3 => rw [eb] at fin; exact OkS.later (r := .exc e r2 h3) xx pp fin
          | ret w h3 => rw [eb] at fin; exact OkS.later (r := .ret w h3) xx pp fin
          | brk r2 h3 =>
            rw [eb] at fin
            exact fun σ2 H2 bt3 x3 p3 s3 => fin σ2 H2 bt3 (xx.trans x3) (pp.trans p3) (s3.wipe1 kill)
          | nxt r2 h3 =>
            rw [eb] at fin
            exact fun σ2 H2 bt3 x3 p3 s3 => ⟨bt3, r2, h3, s3, xx.trans x3, pp.trans p3, fin⟩
          | cnt r2 h3 =>
            rw [eb] at fin
            exact fun σ2 H2 bt3 x3 p3 s3 => ⟨bt3, r2, h3, s3, xx.trans x3, pp.trans p3, fin⟩
theorem endEnv_get {b : Nat} {r : Env} {i : Nat} {w : W} (e : (endEnv b r)[i]? = some (some w)) : r[i]? = some (some w) ∧ below b w = true := by
  unfold endEnv at e
  rw [List.getElem?_map] at e
  cases q : r[i]? with
  | none => rw [q] at e; cases e
  | some o =>
    rw [q] at e
    cases o with
    | none => cases e
    | some u =>
      simp only [Option.map_some, Option.some.injEq] at e
      split at e
      · cases e
        exact ⟨rfl, by assumption⟩
      · cases e
theorem Stt.cut {σ' : L2.St} {H' : L2.Hp} {bt' : Gh} {r4 : Env} {h4 : Hp} {b : Nat} (s : Stt K σ' H' bt' r4 h4) (c : Cl b h4) : Stt K σ' H' bt' (endEnv b r4) (h4.take b) := by
  refine ⟨s.hp.cut c, fun i w e => ?_, by unfold endEnv; rw [List.length_map]; exact s.len⟩
  obtain ⟨e1, e2⟩ := endEnv_get e
  obtain ⟨v, e3, r⟩ := s.sl i w e1
  exact ⟨v, e3, Rep.cut c.1 w v r e2⟩
/-- a turn whose objects are gone behind it -/
theorem region_ok {Hc : L2.Hp} {btc : Gh} {hc : Hp} {D' : Ends} (ok : HeapOk K Hc btc hc) (hb : b ≤ hc.length) {x : RS} (q : OkS K Wx Hc btc b hc D' (match x with
    | .nxt r4 h4 => .nxt (endEnv hc.length r4) (h4.take hc.length)
    | .cnt r4 h4 => .cnt (endEnv hc.length r4) (h4.take hc.length)
    | .brk r4 h4 => .brk (endEnv hc.length r4) (h4.take hc.length)
    | _ => .bad)) : OkS K Wx Hc btc hc.length hc D' x := by
  have fin : ∀ (P : L2.St → L2.Hp → Prop) r4 h4, (∀ σ' H' bt', Exs Hc btc hc H' bt' (h4.take hc.length) → Pres b hc (h4.take hc.length) → Stt K σ' H' bt' (endEnv hc.length r4) (h4.take hc.length) → P σ' H') →
      ∀ σ' H' bt', Exs Hc btc hc H' bt' h4 → Pres hc.length hc h4 → Stt K σ' H' bt' r4 h4 → P σ' H' := fun P r4 h4 q σ' H' bt' x p s => by
    have cl := p hc.length (Nat.le_refl _) ok.cl
    exact q σ' H' bt' ⟨x.toExt.cut, x.gk⟩ (Pres.cut hb x.len (p.mono hb)) (s.cut cl)
  cases x with
  | bad => exact q
  | exc _ _ _ => exact q.elim
  | ret _ _ => exact q.elim
  | nxt r4 h4 => exact fin _ r4 h4 q
  | brk r4 h4 => exact fin _ r4 h4 q
  | cnt r4 h4 => exact fin _ r4 h4 q
end

section
variable {Nw d : Nat} {C : MC} {X : Cx} {Wx : WX}
theorem nolc {x : Expr} (h : lcB? x = false) (t : Option Expr) (l : Nat) (env : PySem.Env) : swapsWith x t l env = pure false := by
  cases x <;> first | (cases h; done) | rfl
theorem mT_form {t : Tg} {e : Expr} (h : mT C t e = true) : (∃ i x p, t = .nm i ∧ e = .Name x p) ∨ ∃ ts es k p, t = .tp ts ∧ e = .Tuple es k p := by
  cases t <;> cases e <;> first | (simp [mT] at h; done) | exact .inl ⟨_, _, _, rfl, rfl⟩ | exact .inr ⟨_, _, _, _, rfl, rfl⟩
theorem own_name (c : Ctx Nw d C X) {x : Str} (h2 : ownB C x = true) : L2.Loc X.env.scope x ∧ (X.fn x = true ∨ X.env.scope.names.lookup x = some .local) := by
  unfold L2.Loc
  rw [c.sc]
  unfold ownB at h2
  split at h2
  · rename_i q
    exact ⟨.inl (c.loc _ q), .inr (c.loc _ q)⟩
  · rename_i q
    exact ⟨.inr (c.cel _ q).1, .inl (c.cel _ q).2⟩
  · cases h2
/-- the parts of a comprehension -/
theorem lc_parts (Nw d : Nat) {mu : Bool} {t : Tg} {k : ItK} {srcs tests : List Ex} {e : Ex} {C : MC} {X : Cx} {Wx : WX} {x : Expr} (c : Ctx Nw d C X) (tk : L2.Takes X Wx) (m : mE C (.lc mu t k srcs tests e) x = true) :
    ∃ elt tg iter ifs scope pos wi g tt te own, x = .ListComp elt [⟨tg, iter, ifs, 0⟩] scope pos ∧ PI X tg iter wi ∧ L2.BlkOk X.N X.env.scope scope own ∧
      (∀ (s : Shared) (H : L2.Hp) (Ca : Addr) (cl : List (Str × Addr)) (fp : List Addr), PG (X.blk s H scope (compEnvC scope cl Ca X.env) fp) tg g) ∧ (∀ (s : Shared) (H : L2.Hp) (Ca : Addr) (cl : List (Str × Addr)) (fp : List Addr), L2.PTs (X.blk s H scope (compEnvC scope cl Ca X.env) fp) ifs tt) ∧
      (∀ (s : Shared) (H : L2.Hp) (Ca : Addr) (cl : List (Str × Addr)) (fp : List Addr), PE (X.blk s H scope (compEnvC scope cl Ca X.env) fp) elt te) ∧ (∀ x, foldedSetIterable iter X.env x = pure x) ∧
      ∀ σ H Q, (tEv (kx X) Wx fun b ρ h => evE (evC C.T Nw d) b ρ (.lc mu t k srcs tests e) h) σ H Q → L2.tLc wi g tt te (own.map (·.2)) σ H Q := by
  unfold mE at m
  split at m <;> rename_i hx <;> first | (cases hx; done) | skip
  · rename_i elt tg iter ifs scope pos
    cases hx
    simp only [Bool.and_eq_true] at m
    obtain ⟨⟨⟨⟨⟨⟨m1, m2⟩, m3⟩, m4⟩, m5⟩, m6⟩, m7⟩ := m
    split at m3
    · rename_i es hes
      have pi := iter_sound (call := evC C.T Nw d) (Wx := Wx) c k tg iter es srcs hes (sEs Nw d srcs C X Wx es c tk m3)
      have hB : ∀ (s : Shared) (H : L2.Hp) (Ca : Addr) (cl : List (Str × Addr)) (fp : List Addr), Ctx Nw d { C with sc := L2.relS scope C.sc, os := scope } (X.blk s H scope (compEnvC scope cl Ca X.env) fp) := fun s H Ca cl fp => c.blk s H Ca cl fp
      have he : ∀ (s : Shared) (H : L2.Hp) (Ca : Addr) (cl : List (Str × Addr)) (fp : List Addr), PE (X.blk s H scope (compEnvC scope cl Ca X.env) fp) elt (tEv (kx X) (fun _ _ _ _ => False) fun b ρ h => evE (evC C.T Nw d) b ρ e h) := fun s H Ca cl fp => (sE Nw d e _ _ (fun _ _ _ _ => False) elt (hB s H Ca cl fp) takesF m5).1
      have ht : ∃ tt, ((tests = [] ∧ tt = L2.tYes) ∨ ∃ c r, tests = c :: r ∧ tt = tTv (kx X) (fun _ _ _ _ => False) fun b ρ h => evE (evC C.T Nw d) b ρ c h) ∧ ∀ (s : Shared) (H : L2.Hp) (Ca : Addr) (cl : List (Str × Addr)) (fp : List Addr), L2.PTs (X.blk s H scope (compEnvC scope cl Ca X.env) fp) ifs tt := by
        match tests, ifs, m6, m7 with
        | [], [], m6, m7 => exact ⟨_, .inl ⟨rfl, rfl⟩, fun _ _ _ _ _ => L2.pts_nil⟩
        | [q], [y], m6, m7 =>
          simp only [mEs, Bool.and_eq_true] at m6
          exact ⟨_, .inr ⟨_, _, rfl, rfl⟩, fun s H Ca cl fp => L2.pts_one ((sE Nw d q _ _ (fun _ _ _ _ => False) y (hB s H Ca cl fp) takesF m6.1).2 m7).1⟩
      obtain ⟨tt, htt, ht⟩ := ht
      have hsn : ∀ x, foldedSetIterable iter X.env x = pure x := by
        intro x
        cases iter <;> first | (cases m2; done) | rfl
      have hgt : ∀ (s : Shared) (H : L2.Hp) (Ca : Addr) (cl : List (Str × Addr)) (fp : List Addr), PG (X.blk s H scope (compEnvC scope cl Ca X.env) fp) tg (gT (kx X) t) := fun s H Ca cl fp => tg_sound (hB s H Ca cl fp) t tg m4
      refine ⟨elt, tg, iter, ifs, scope, pos, _, _, tt, _, ownOf C.N t.names, rfl, pi, blkOk (by rw [c.hN, c.sc]; exact m1), hgt, ht, he, hsn, fun σ H Q q => ?_⟩
      obtain ⟨b, bt, ρ, h, s, hb, q⟩ := q
      simp only [evE] at q
      rw [ownOf_snd]
      refine ⟨b, bt, ρ, h, s, hb, (OkEs.bind q).mono fun vs H1 z => ?_⟩
      obtain ⟨ws, h1, bt1, _, x1, ok1, p1, r1, q1⟩ := z
      split at q1
      · exact q1.elim
      · rename_i its ei
        refine ⟨bt1, h1, ws, its, ok1, r1, ei, fun J hJ D hD => ?_⟩
        have hb1 : b ≤ h1.length := Nat.le_trans hb x1.len
        cases mu with
        | false =>
          simp only [Bool.false_eq_true, if_false] at q1
          have q1 : OkE (kx X) Wx σ H1 bt1 b h1 Q ((lcLoop (lcB (evC C.T Nw d) b ρ t tests e) (fun h2 => sameAt h1 h2 ws) its [] h1).bind fun ys h2 => .ok (.lst ys) h2) := q1
          refine lc_run (b := b) (body := lcB (evC C.T Nw d) b ρ t tests e) ok1 r1 ei hJ (fun Hc btc hc w x N0 N1 okc xc rw' q2 hbc => ?_) hb1 ?_ hD
          · exact turn_sound ((s.ext x1 ok1).ext xc okc) hbc htt rw' q2
          · revert q1
            generalize lcLoop _ _ its [] h1 = r
            intro q1
            cases r with
            | bad => exact q1
            | exc _ _ => exact True.intro
            | ok ys h2 => exact q1
        | true =>
          simp only [if_true] at q1
          have q1 : OkE (kx X) Wx σ H1 bt1 b h1 Q (lcLoopM (lcB (evC C.T Nw d) b ρ t tests e) (fun h2 => sameAt h1 h2 ws) h1.length its [] (h1 ++ [.lst []])) := q1
          refine lc_runM (b := b) (body := lcB (evC C.T Nw d) b ρ t tests e) ok1 r1 ei hJ (fun Hc btc hc w x N0 N1 okc xc rw' q2 hbc => ?_) hb1 ?_ hD
          · exact turn_sound ((s.ext x1 ok1).ext xc okc) hbc htt rw' q2
          · revert q1
            generalize lcLoopM _ _ _ its [] _ = r
            intro q1
            cases r with
            | bad => exact q1
            | exc _ _ => exact True.intro
            | ok ys h2 => exact q1
    · cases m3
  · cases m
end
end Ow

/-! Ow11: statements' runs. -/
namespace Ow
open PySem PySem.Spec PyProof.Rows
open L2 (V SqL SqT Rd HO upd upd_same upd_ne TE TT TA TS VK Cx PE PT PA PS PSs WX OpR UnR CallR R2 Room Gl Sp XK CXT FnOk Binds TG TGs PG PGs It TI PI Inv RelV Vals thn wipe Ends)

section
variable {Nw d : Nat} {C : MC} {X : Cx} {Wx : WX}
/-- an assignment's reading -/
theorem asg_imp {K : KX} {call : Nat → Nat → List W → Hp → R W} {t : Tg} {e : Ex} {D : Ends} {σ : L2.St} {H : L2.Hp} (q : tSv K Wx (fun b ρ h => evS call Nw b (.asg t e) ρ h) D σ H) :
    (tEv K Wx fun b ρ h => evE call b ρ e h) σ H fun x H1 => gT K t x σ H1 D.nx := by
  obtain ⟨b, bt, ρ, h, s, hb, q⟩ := q
  simp only [evS] at q
  refine ⟨b, bt, ρ, h, s, hb, (oks_R s q).mono fun v H1 z => ?_⟩
  obtain ⟨w, h1, bt1, _, x1, ok1, p1, r1, s1, q1⟩ := z
  cases eb : bindT t w ρ with
  | none => rw [eb] at q1; exact q1.elim
  | some ρ' =>
    rw [eb] at q1
    exact ⟨bt1, h1, ρ, ρ', w, s1, r1, eb, fun σ' s' _ => q1 σ' H1 bt1 Exs.refl Pres.refl s'⟩
theorem asg_sound (c : Ctx Nw d C X) (tk : L2.Takes X Wx) {t : Tg} {e : Ex} {tg x : Expr} {pos : Pos} (m1 : mT C t tg = true) (m2 : mE C e x = true) (m3 : asgB C t tg x = true) (m4 : (!lcB? x || lcE e) = true) :
    PS X (.Assign [tg] x pos) (tSv (kx X) Wx fun b ρ h => evS (evC C.T Nw d) Nw b (.asg t e) ρ h) := by
  have pg := tg_sound c t tg m1
  have pe := (sE Nw d e C X Wx x c tk m2).1
  by_cases hl : lcB? x = true
  · rcases mT_form m1 with ⟨i, y, p, rfl, rfl⟩ | ⟨ts, es, k, p, rfl, rfl⟩
    · simp only [asgB, hl, if_true] at m3
      rw [hl, Bool.not_true, Bool.false_or] at m4
      cases e <;> first | (cases m4; done) | skip
      rename_i mu t k srcs tests e
      obtain ⟨elt, tg, iter, ifs, scope, pos', wi, g, tt, te, own, rfl, pi, ok, hg, ht, he, hs, imp⟩ := lc_parts Nw d c tk m2
      simp only [Bool.and_eq_true] at m3
      obtain ⟨⟨mf, ml⟩, mw⟩ := m3
      have hy : X.env.scope.names.lookup y = some .local := by
        rw [c.sc]
        unfold locB at ml
        split at ml
        · exact c.loc _ (by assumption)
        · cases ml
      have hk : X.env.scope.kind = .function := by
        rw [c.sc]
        unfold funB at mf
        split at mf
        · assumption
        · cases mf
      simp only [swB, Bool.and_eq_true, Bool.not_eq_true'] at mw
      have hi : C.N[i]? = some y := by
        simp only [mT, Bool.and_eq_true, decide_eq_true_eq] at m1
        exact m1.1
      refine PS.imp (L2.ps_setLc c.calm (by rw [c.hN]; exact c.nd) (by rw [c.hN]; exact hi) hy (L2.sw_true hk hy mw.1.2 mw.2) pi ok hg ht he hs) fun D σ H q => ?_
      refine imp σ H _ ?_
      obtain ⟨b, bt, ρ, h, s, hb, q⟩ := asg_imp q
      refine ⟨b, bt, ρ, h, s, hb, q.mono fun v H1 z => ?_⟩
      obtain ⟨bt, hh, ρ, ρ', w, s, r, e, q⟩ := z
      simp only [bindT] at e
      split at e
      · cases e
        exact q _ (s.set r) Out.set
      · cases e
    · simp [asgB, hl] at m3
  · have hl : lcB? x = false := by simpa using hl
    have h1 : (assignEach [tg] X.env).map (·.2) = [assign tg X.env] := by
      rcases mT_form m1 with ⟨i, y, p, rfl, rfl⟩ | ⟨ts, es, k, p, rfl, rfl⟩ <;> rfl
    have h2 : swappedStores [tg] x X.env = pure none := by
      rcases mT_form m1 with ⟨i, y, p, rfl, rfl⟩ | ⟨ts, es, k, p, rfl, rfl⟩
      · rfl
      · simp only [asgB, hl, Bool.not_false, Bool.true_and, Bool.not_eq_true'] at m3
        cases x <;> first | (cases m3; done) | rfl
    exact PS.imp (L2.ps_asg pe pg (nolc hl _ _ _) h2 h1) fun D σ H q => asg_imp q
theorem sub_ix {o i : Expr} {pos : Pos} {env : PySem.Env} (h : subIxB i = true) : ∀ v, assign (.Subscript o i pos) env v = (do
      let ov ← holding [v] (eval o env)
      let iv ← holding [v, ov] (eval i env)
      standAt pos
      holding [v, ov, iv] (setItem ov iv v)
      release [v, ov, iv] []) := by
  intro v
  cases i <;> first | (cases h; done) | rfl
theorem seti_sound (c : Ctx Nw d C X) (tk : L2.Takes X Wx) {o i e : Ex} {o' i' x : Expr} {p pos : Pos} (m1 : mE C e x = true) (m2 : mE C o o' = true) (m3 : mE C i i' = true) (m4 : subIxB i' = true) (m5 : lcB? x = false) :
    PS X (.Assign [.Subscript o' i' p] x pos) (tSv (kx X) Wx fun b ρ h => evS (evC C.T Nw d) Nw b (.seti o i e) ρ h) := by
  have pe := (sE Nw d e C X Wx x c tk m1).1
  have po := (sE Nw d o C X Wx o' c tk m2).1
  have pi := (sE Nw d i C X Wx i' c tk m3).1
  refine PS.imp (L2.ps_asg pe (L2.pg_sub po pi L2.set_list (sub_ix m4)) (hs := nolc m5 (some (.Subscript o' i' p)) pos.line X.env) (hw := rfl) (h1 := rfl)) fun D σ H q => ?_
  obtain ⟨b, bt, ρ, h, s, hb, q⟩ := q
  simp only [evS] at q
  refine ⟨b, bt, ρ, h, s, hb, (oks_R s q).mono fun v H1 z => ?_⟩
  obtain ⟨w, h1, bt1, ee1, x1, ok1, p1, r1, s1, q1⟩ := z
  have hb1 := Nat.le_trans hb x1.len
  refine ⟨b, bt1, ρ, h1, s1, hb1, (oks_R s1 q1).mono fun ov H2 z => ?_⟩
  obtain ⟨ow, h2, bt2, ee2, x2, ok2, p2, r2, s2, q2⟩ := z
  have hb2 := Nat.le_trans hb1 x2.len
  refine ⟨b, bt2, ρ, h2, s2, hb2, (oks_R s2 q2).mono fun iv H3 z => ?_⟩
  obtain ⟨iw, h3, bt3, ee3, x3, ok3, p3, r3, s3, q3⟩ := z
  cases ow <;> first | exact q3.elim | skip
  rename_i n
  cases iw <;> first | exact q3.elim | skip
  rename_i k
  simp only at q3
  · split at q3
    · rename_i us e3
      split at q3
      · rename_i j ej
        split at q3
        · rename_i mp
          obtain ⟨rfl, vs, e4, l4⟩ := ref_obj ok3 (r2.ext ok2 x3.toExt) e3
          cases r3
          have rw3 : Rep (kx X) H3 bt3 h3 w v := (r1.ext ok1 x2.toExt).ext ok2 x3.toExt
          obtain ⟨okn, xn⟩ := ok3.putX e3 (by simp) (l4.set j rw3)
          refine ⟨_, vs, k, j, rfl, rfl, e4, by rw [← l4.length]; exact ej, ?_⟩
          refine q3 σ _ bt3 xn (Pres.putL e3 mp fun c z1 z2 => ?_) (s3.ext xn okn)
          exact belowL_mem.mpr fun a ha => (List.mem_or_eq_of_mem_set ha).elim (belowL_mem.mp z1 a) fun z => by rw [z]; exact z2
        · exact q3.elim
      · exact q3.elim
    · exact q3.elim
theorem aug_sound (c : Ctx Nw d C X) (tk : L2.Takes X Wx) {i : Nat} {p : Prim} {e : Ex} {nm : Str} {op : Operator} {y : Expr} {p1 pos : Pos} (m1 : C.N[i]? = some nm) (m2 : ownB C nm = true) (m3 : mE C e y = true) (m4 : (p = .add ∧ op = .Add) ∨ (p = .sub ∧ op = .Sub)) :
    PS X (.AugAssign (.Name nm p1) op y pos) (tSv (kx X) Wx fun b ρ h => evS (evC C.T Nw d) Nw b (.aug i p e) ρ h) := by
  have pe := (sE Nw d e C X Wx y c tk m3).1
  obtain ⟨l1, l2⟩ := own_name c m2
  have go : ∀ (f : Int → Int → Int), L2.PIp X op (L2.ipI f) → (∀ (x y z : W), augP p x y = some z → ∃ a c, x = .int a ∧ y = .int c ∧ z = .int (f a c)) → PS X (.AugAssign (.Name nm p1) op y pos) (tSv (kx X) Wx fun b ρ h => evS (evC C.T Nw d) Nw b (.aug i p e) ρ h) := fun f ho hf => by
    refine PS.imp (L2.ps_aug (by rw [c.hN]; exact c.nd) (by rw [c.hN]; exact m1) l1 pe ho l2) fun D σ H q => ?_
    obtain ⟨b, bt, ρ, h, s, hb, q⟩ := q
    simp only [evS] at q
    split at q
    · rename_i x ex
      obtain ⟨v, ev, rv⟩ := s.sl i x ex
      refine ⟨v, ev, b, bt, ρ, h, s, hb, (oks_R s q).mono fun u H1 z => ?_⟩
      obtain ⟨w, h1, bt1, _, x1, ok1, p1, r1, s1, q1⟩ := z
      cases ea : augP p x w with
      | none => rw [ea] at q1; exact q1.elim
      | some z =>
        rw [ea] at q1
        obtain ⟨a, c', rfl, rfl, rfl⟩ := hf x w z ea
        cases rv; cases r1
        exact ⟨a, c', rfl, rfl, q1 _ H1 bt1 Exs.refl Pres.refl (s1.set rfl)⟩
    · exact q.elim
  rcases m4 with ⟨rfl, rfl⟩ | ⟨rfl, rfl⟩
  · exact go _ L2.ip_add fun x y z n => by
      cases x <;> cases y <;> cases n
      exact ⟨_, _, rfl, rfl, rfl⟩
  · exact go _ L2.ip_sub fun x y z n => by
      cases x <;> cases y <;> cases n
      exact ⟨_, _, rfl, rfl, rfl⟩
mutual
theorem sS (Nw d : Nat) : ∀ (e : St) (C : MC) (X : Cx) (Wx : WX) (x : Stmt), Ctx Nw d C X → PassesOwn (model X.prog X.w) X.A X.env X.xe → L2.Takes X Wx → mS C e x = true →
    PS X x (tSv (kx X) Wx fun b ρ h => evS (evC C.T Nw d) Nw b e ρ h)
  | .asg t e, C, X, Wx, x, c, pas, tk, m => by
    unfold mS at m
    split at m <;> rename_i hx <;> first | (cases hx; done) | skip
    · cases hx
      simp only [Bool.and_eq_true] at m
      exact asg_sound c tk m.1.1.1 m.1.1.2 m.1.2 m.2
    · cases m
  | .seti o i e, C, X, Wx, x, c, pas, tk, m => by
    unfold mS at m
    split at m <;> rename_i hx <;> first | (cases hx; done) | skip
    · cases hx
      simp only [Bool.and_eq_true, Bool.not_eq_true'] at m
      exact seti_sound c tk m.1.1.1.1 m.1.1.1.2 m.1.1.2 m.1.2 m.2
    · cases m
  | .aug i p e, C, X, Wx, x, c, pas, tk, m => by
    unfold mS at m
    split at m <;> rename_i hx <;> first | (cases hx; done) | skip
    · cases hx
      simp only [Bool.and_eq_true, decide_eq_true_eq] at m
      refine aug_sound c tk m.1.1.1 m.1.1.2 m.1.2 ?_
      have m2 := m.2
      split at m2
      · exact .inl ⟨rfl, rfl⟩
      · exact .inr ⟨rfl, rfl⟩
      · cases m2
    · cases m
  | .exp e, C, X, Wx, x, c, pas, tk, m => by
    unfold mS at m
    split at m <;> rename_i hx <;> first | (cases hx; done) | skip
    · cases hx
      simp only [Bool.and_eq_true, Bool.not_eq_true'] at m
      refine PS.imp (L2.ps_expr (sE Nw d e C X Wx _ c tk m.1).1 (nolc m.2 _ _ _)) fun D σ H q => ?_
      obtain ⟨b, bt, ρ, h, s, hb, q⟩ := q
      simp only [evS] at q
      refine ⟨b, bt, ρ, h, s, hb, (oks_R s q).mono fun v H1 z => ?_⟩
      obtain ⟨w, h1, bt1, _, x1, ok1, p1, r1, s1, q1⟩ := z
      exact q1 σ H1 bt1 Exs.refl Pres.refl s1
    · cases m
  | .ret e, C, X, Wx, x, c, pas, tk, m => by
    unfold mS at m
    split at m <;> rename_i hx <;> first | (cases hx; done) | skip
    · cases hx
      refine PS.imp (L2.ps_ret (sE Nw d e C X Wx _ c tk m).1) fun D σ H q => ?_
      obtain ⟨b, bt, ρ, h, s, hb, q⟩ := q
      simp only [evS] at q
      refine ⟨b, bt, ρ, h, s, hb, (oks_R s q).mono fun v H1 z => ?_⟩
      obtain ⟨w, h1, bt1, _, x1, ok1, p1, r1, s1, q1⟩ := z
      exact q1 v H1 bt1 Exs.refl ok1 Pres.refl r1
    · cases hx
      refine PS.imp L2.ps_retN fun D σ H q => ?_
      obtain ⟨b, bt, ρ, h, s, hb, q⟩ := q
      simp only [evS, evE, ofR_ok] at q
      exact q .non H bt Exs.refl s.hp Pres.refl rfl
    · cases m
  | .iff cq a b, C, X, Wx, x, c, pas, tk, m => by
    unfold mS at m
    split at m <;> rename_i hx <;> first | (cases hx; done) | skip
    · cases hx
      simp only [Bool.and_eq_true] at m
      obtain ⟨⟨⟨m1, m2⟩, m3⟩, m4⟩ := m
      refine PS.imp (L2.ps_if ((sE Nw d cq C X Wx _ c tk m1).2 m2).1 (sB Nw d a C X Wx _ c pas tk m3) (sB Nw d b C X Wx _ c pas tk m4)) fun D σ H q => ?_
      obtain ⟨b0, bt, ρ, h, s, hb, q⟩ := q
      simp only [evS] at q
      refine ⟨b0, bt, ρ, h, s, hb, ?_⟩
      have q' := oks_T s q (fun w h1 e => by simp only [e])
      show OkT (kx X) Wx σ H bt b0 h _ (evE (evC C.T Nw d) b0 ρ cq h)
      revert q'
      generalize evE (evC C.T Nw d) b0 ρ cq h = r
      intro q'
      cases r with
      | bad => exact q'
      | exc _ _ => exact q'
      | ok w0 h0 =>
        obtain ⟨k, ek, q'⟩ := q'
        refine ⟨k, ek, fun H1 bt1 x1 ok1 p1 => ?_⟩
        obtain ⟨w, h1, bt2, et, x2, ok2, p2, s2, q2⟩ := q' H1 bt1 x1 ok1 p1
        rw [et] at q2
        cases k with
        | true => exact L2.iteT ⟨b0, bt2, ρ, h1, s2, Nat.le_trans hb x2.len, q2⟩
        | false => exact L2.iteF ⟨b0, bt2, ρ, h1, s2, Nat.le_trans hb x2.len, q2⟩
    · cases m
  | .forr tr t k srcs kill body, C, X, Wx, x, c, pas, tk, m => by
    unfold mS at m
    split at m <;> rename_i hx <;> first | (cases hx; done) | skip
    · rename_i tg iter body' pos
      cases hx
      simp only [Bool.and_eq_true] at m
      obtain ⟨⟨⟨m1, m2⟩, m3⟩, m4⟩ := m
      split at m3
      · rename_i es hes
        have pi := iter_sound (call := evC C.T Nw d) (Wx := Wx) c k tg iter es srcs hes (sEs Nw d srcs C X Wx es c tk m3)
        have hsn : ∀ x, foldedSetIterable iter X.env x = pure x := by
          intro x
          cases iter <;> first | (cases m1; done) | rfl
        refine PS.imp (L2.ps_for pas c.calm pi (tg_sound c t tg m2) (sB Nw d body C X Wx body' c pas tk m4) hsn) fun D σ H q => ?_
        obtain ⟨b, bt, ρ, h, s, hb, q⟩ := q
        simp only [evS] at q
        refine ⟨b, bt, ρ, h, s, hb, (oks_Rs s q).mono fun vs H1 z => ?_⟩
        obtain ⟨ws, h1, bt1, _, x1, ok1, p1, r1, s1, q1⟩ := z
        split at q1
        · exact q1.elim
        · rename_i its ei
          refine ⟨bt1, h1, ws, its, ok1, r1, ei, fun J hJ => ?_⟩
          have hb1 : b ≤ h1.length := Nat.le_trans hb x1.len
          refine for_run s1 r1 ei hJ (fun D' σc Hc btc ρc hc w x sc rx hbc q2 => ?_) hb1 q1
          cases eb : bindT t w ρc with
          | none => rw [eb] at q2; exact q2.elim
          | some ρ3 =>
            rw [eb] at q2
            refine ⟨btc, hc, ρc, ρ3, w, sc, rx, eb, fun σ' s' _ => ?_⟩
            cases tr with
            | false => exact ⟨b, btc, ρ3, hc, s', hbc, q2⟩
            | true => exact ⟨hc.length, btc, ρ3, hc, s', Nat.le_refl _, region_ok sc.hp hbc q2⟩
      · cases m3
    · cases m
  | .whl q kill body, C, X, Wx, x, c, pas, tk, m => by
    unfold mS at m
    split at m <;> rename_i hx <;> first | (cases hx; done) | skip
    · rename_i c' body' pos
      cases hx
      simp only [Bool.and_eq_true] at m
      obtain ⟨⟨m1, m2⟩, m3⟩ := m
      refine PS.imp (L2.ps_while pas ((sE Nw d q C X Wx _ c tk m1).2 m2).1 (sB Nw d body C X Wx _ c pas tk m3)) fun D σ H q => ?_
      obtain ⟨b, bt, ρ, h, s, hb, q⟩ := q
      simp only [evS] at q
      refine while_run s hb (fun σc Hc btc ρc hc Q sc hbc q2 => ?_) (fun D' σc Hc btc ρc hc sc hbc q2 => ?_) q
      · exact ⟨b, btc, ρc, hc, sc, hbc, q2⟩
      · exact ⟨b, btc, ρc, hc, sc, hbc, q2⟩
    · cases m
  | .brk, C, X, Wx, x, c, pas, tk, m => by
    unfold mS at m
    split at m <;> rename_i hx <;> first | (cases hx; done) | skip
    · refine PS.imp L2.ps_break fun D σ H q => ?_
      obtain ⟨b, bt, ρ, h, s, hb, q⟩ := q
      simp only [evS] at q
      exact q σ H bt Exs.refl Pres.refl s
    · cases m
  | .cnt, C, X, Wx, x, c, pas, tk, m => by
    unfold mS at m
    split at m <;> rename_i hx <;> first | (cases hx; done) | skip
    · refine PS.imp L2.ps_continue fun D σ H q => ?_
      obtain ⟨b, bt, ρ, h, s, hb, q⟩ := q
      simp only [evS] at q
      exact q σ H bt Exs.refl Pres.refl s
    · cases m
  | .pass, C, X, Wx, x, c, pas, tk, m => by
    unfold mS at m
    split at m <;> rename_i hx <;> first | (cases hx; done) | skip
    · refine PS.imp L2.ps_pass fun D σ H q => ?_
      obtain ⟨b, bt, ρ, h, s, hb, q⟩ := q
      simp only [evS] at q
      exact q σ H bt Exs.refl Pres.refl s
    · cases m
  | .opq, C, X, Wx, x, c, pas, tk, m => ⟨fun pins s σ H D I q => by
      obtain ⟨b, bt, ρ, h, s, hb, q⟩ := q
      simp only [evS] at q
      exact q.elim⟩
theorem sB (Nw d : Nat) : ∀ (es : List St) (C : MC) (X : Cx) (Wx : WX) (xs : List Stmt), Ctx Nw d C X → PassesOwn (model X.prog X.w) X.A X.env X.xe → L2.Takes X Wx → mB C es xs = true →
    PSs X xs (tSv (kx X) Wx fun b ρ h => evB (evC C.T Nw d) Nw b es ρ h)
  | [], C, X, Wx, xs, c, pas, tk, m => by
    cases xs with
    | nil =>
      refine PSs.imp L2.pss_nil fun D σ H q => ?_
      obtain ⟨b, bt, ρ, h, s, hb, q⟩ := q
      simp only [evB] at q
      exact q σ H bt Exs.refl Pres.refl s
    | cons _ _ => simp [mB] at m
  | e :: es, C, X, Wx, xs, c, pas, tk, m => by
    cases xs with
    | nil => simp [mB] at m
    | cons y ys =>
      simp only [mB, Bool.and_eq_true] at m
      refine PSs.imp (L2.pss_cons (sS Nw d e C X Wx y c pas tk m.1) (sB Nw d es C X Wx ys c pas tk m.2)) fun D σ H q => ?_
      obtain ⟨b, bt, ρ, h, s, hb, q⟩ := q
      simp only [evB] at q
      refine ⟨b, bt, ρ, h, s, hb, ?_⟩
      show OkS (kx X) Wx H bt b h _ (evS (evC C.T Nw d) Nw b e ρ h)
      revert q
      generalize evS (evC C.T Nw d) Nw b e ρ h = r
      intro q
      cases r with
      | bad => exact q
      | exc _ _ _ => exact q
      | ret _ _ => exact q
      | brk _ _ => exact q
      | cnt _ _ => exact q
      | nxt ρ' h' =>
        exact fun σ' H' bt' x p s' => ⟨b, bt', ρ', h', s', Nat.le_trans hb x.len, OkS.later x p q⟩
end
end
end Ow

/-! Ow12: defs. -/
namespace Ow
open PySem PySem.Spec PyProof.Rows
open L2 (V SqL SqT Rd HO upd upd_same upd_ne TE TT TA TS VK Cx PE PT PA PS PSs WX OpR UnR CallR R2 Room Gl Sp XK CXT FnOk Binds TG TGs PG PGs It TI PI Inv RelV Vals thn wipe Ends FnScope FunD cxOf)

section
variable {K : KX} {H : L2.Hp} {bt : Gh} {h : Hp}
/-! ### an object that is handed out -/
theorem take_app {b : Nat} {o : Obj} (hb : b ≤ h.length) {i : Nat} {u : Obj} (e : (h.take b ++ [o])[i]? = some u) : (i < b ∧ h[i]? = some u) ∨ (i = b ∧ u = o) := by
  rcases get_app e with ⟨h1, h2⟩ | ⟨h1, h2⟩
  · have := get_take h2
    exact .inl this
  · rw [List.length_take, Nat.min_eq_left hb] at h1
    exact .inr ⟨h1, h2⟩
variable {b n : Nat} {us : List W}
theorem Fz.move (hb : b ≤ n) (e : h[n]? = some (.lst us)) {a : Addr} (f : Fz bt h a) : Fz (bt.add b (bt.at_ n)) (h.take b ++ [.lst us]) a := by
  have hn : n < h.length := (List.getElem?_eq_some_iff.mp e).1
  refine ⟨fun i o ei no => ?_, f.2⟩
  rcases take_app (by omega) ei with ⟨h1, h2⟩ | ⟨rfl, rfl⟩
  · rw [Gh.add_ne (by omega)]
    exact f.1 i o h2 no
  · rw [Gh.add_self]
    exact f.1 n _ e (by simp)
mutual
theorem Rep.move (hb : b ≤ n) (e : h[n]? = some (.lst us)) : ∀ (w : W) (v : V), Rep K H bt h w v → below b w = true → Rep K H (bt.add b (bt.at_ n)) (h.take b ++ [.lst us]) w v
  | .non, _, r, _ => r
  | .bl _, _, r, _ => r
  | .int _, _, r, _ => r
  | .str _, _, r, _ => r
  | .tup ws, v, r, z => by
    obtain ⟨a, vs, e1, q, l⟩ := r
    simp only [below] at z
    exact ⟨a, vs, e1, q, RepL.move hb e ws vs l z⟩
  | .lst ws, v, r, z => by
    obtain ⟨a, vs, e1, ⟨q, f⟩, l⟩ := r
    simp only [below] at z
    exact ⟨a, vs, e1, ⟨q, f.move hb e⟩, RepL.move hb e ws vs l z⟩
  | .slst ws, v, r, z => by
    obtain ⟨a, vs, e1, q, l⟩ := r
    simp only [below] at z
    refine ⟨a, vs, e1, ?_, RepL.move hb e ws vs l z⟩
    rcases q with ⟨q, f⟩ | q
    · exact .inl ⟨q, f.move hb e⟩
    · exact .inr q
  | .ref m, v, r, z => by
    simp only [below, decide_eq_true_eq] at z
    exact ⟨by rw [List.length_append, List.length_take]; simp; have := r.1; omega, by rw [Gh.add_ne (by omega)]; exact r.2⟩
  | .ty _, _, r, _ => r
  | .set _, _, r, _ => r.elim
  | .dic _ _, _, r, _ => r.elim
  | .cls _, _, r, _ => r.elim
  | .exc _ _, _, r, _ => r.elim
theorem RepL.move (hb : b ≤ n) (e : h[n]? = some (.lst us)) : ∀ (ws : List W) (vs : List V), RepL K H bt h ws vs → belowL b ws = true → RepL K H (bt.add b (bt.at_ n)) (h.take b ++ [.lst us]) ws vs
  | [], _, r, _ => r
  | w :: ws, vs, r, z => by
    obtain ⟨v, t, e1, r1, r2⟩ := r
    simp only [belowL, Bool.and_eq_true] at z
    exact ⟨v, t, e1, Rep.move hb e w v r1 z.1, RepL.move hb e ws t r2 z.2⟩
end
theorem HeapOk.move (ok : HeapOk K H bt h) (hb : b ≤ n) (e : h[n]? = some (.lst us)) (c : Cl b h) (bu : belowL b us = true) : HeapOk K H (bt.add b (bt.at_ n)) (h.take b ++ [.lst us]) where
  objs := fun i o ei => by
    rcases take_app c.1 ei with ⟨h1, h2⟩ | ⟨rfl, rfl⟩
    · rw [Gh.add_ne (by omega)]
      have r := ok.objs i o h2
      have z := c.2 i o h1 h2
      cases o with
      | dead => trivial
      | lst ws => obtain ⟨vs, q, l⟩ := r; exact ⟨vs, q, RepL.move hb e ws vs l z⟩
      | dic ks vs => exact r.elim
      | ins k fs => exact r.elim
    · rw [Gh.add_self]
      obtain ⟨vs, q, l⟩ := ok.objs n _ e
      exact ⟨vs, q, RepL.move hb e us vs l bu⟩
  inj := fun i j oi oj ei ej ni nj eq => by
    rcases take_app c.1 ei with ⟨h1, h2⟩ | ⟨rfl, rfl⟩ <;> rcases take_app c.1 ej with ⟨h3, h4⟩ | ⟨rfl, rfl⟩
    · rw [Gh.add_ne (by omega), Gh.add_ne (by omega)] at eq
      exact ok.inj i j oi oj h2 h4 ni nj eq
    · rw [Gh.add_ne (by omega), Gh.add_self] at eq
      have := ok.inj i n oi _ h2 e ni (by simp) eq
      omega
    · rw [Gh.add_self, Gh.add_ne (by omega)] at eq
      have := ok.inj n j _ oj e h4 (by simp) nj eq
      omega
    · rfl
  gl := ok.gl
  gd := fun i o ei no => by
    rcases take_app c.1 ei with ⟨h1, h2⟩ | ⟨rfl, rfl⟩
    · rw [Gh.add_ne (by omega)]
      exact ok.gd i o h2 no
    · rw [Gh.add_self]
      exact ok.gd n _ e (by simp)
theorem Exs.move {H0 : L2.Hp} {bt0 : Gh} {h0 : Hp} (x : Exs H0 bt0 h0 H bt h) (hn : h0.length ≤ n) (e : h[n]? = some (.lst us)) : Exs H0 bt0 h0 H (bt.add h0.length (bt.at_ n)) (h.take h0.length ++ [.lst us]) where
  frame := x.frame
  dom := x.dom
  agree := fun i hi => (Gh.add_ne (by omega)).trans (x.agree i hi)
  ghost := x.ghost
  len := by rw [List.length_append, List.length_take]; have := x.len; simp; omega
  live := fun i o hi ei no => by
    rcases take_app x.len ei with ⟨h1, h2⟩ | ⟨h1, h2⟩
    · exact x.live i o hi h2 no
    · omega
  fresh := fun i o hi ei no => by
    rcases take_app x.len ei with ⟨h1, h2⟩ | ⟨h1, h2⟩
    · omega
    · rw [h1, Gh.add_self]
      exact x.fresh n _ hn e (by simp)
  gk := x.gk
theorem Pres.move {b : Nat} {h0 : Hp} (hb : b ≤ h0.length) (hl : h0.length ≤ h.length) (p : Pres b h0 h) {o : Obj} : Pres b h0 (h.take h0.length ++ [o]) := fun c hc z => by
  obtain ⟨z1, z2⟩ := p c hc z
  refine ⟨by rw [List.length_append, List.length_take]; omega, fun i u hi ei => ?_⟩
  rcases take_app hl ei with ⟨h1, h2⟩ | ⟨h1, _⟩
  · exact z2 i u hi h2
  · omega
end

/-- a call's end -/
theorem end_ok {K : KX} {H H' : L2.Hp} {bt bt' : Gh} {h h' : Hp} {b : Nat} {keep : Bool} {w : W} {v : V} {Wx : WX} {σ : L2.St} {Q : VK} (ok0 : HeapOk K H bt h) (hb : b ≤ h.length) (q : OkE K Wx σ H bt b h Q (endCall keep (if keep then b else h.length) w h'))
    (x : Exs H bt h H' bt' h') (ok : HeapOk K H' bt' h') (p : Pres (if keep then b else h.length) h h') (r : Rep K H' bt' h' w v) : Q v H' := by
  cases keep with
  | true => exact q v H' bt' x ok p r
  | false =>
    replace p : Pres h.length h h' := p
    have cl := p h.length (Nat.le_refl _) ok0.cl
    replace q : OkE K Wx σ H bt b h Q (endCall false h.length w h') := q
    unfold endCall at q
    simp only [Bool.false_eq_true, if_false] at q
    split at q
    · exact q v H' bt' ⟨x.toExt.cut, x.gk⟩ (ok.cut cl) (Pres.cut hb x.len (p.mono hb)) (Rep.cut cl.1 w v r (by assumption))
    · rename_i nb
      split at q
      · rename_i n
        split at q
        · rename_i us e
          split at q
          · rename_i bu
            have hn : h.length ≤ n := by
              simp only [below, decide_eq_true_eq] at nb
              omega
            refine q v H' _ (x.move hn e) (ok.move hn e cl bu) (Pres.move hb x.len (p.mono hb)) ⟨by rw [List.length_append, List.length_take]; simp; have := x.len; omega, ?_⟩
            rw [Gh.add_self]
            exact r.2
          · exact q.elim
        · exact q.elim
      · exact q.elim

/-- a def as it stands behind the top -/
structure DefOk (K : PySem.W.Frag) (mg : Str → Option Value) (T : List Def) (df : Def) : Prop where
  ex : ∃ (f : Addr) (fd : FuncData) (ps : List Str) (qual : Str) (params : Arguments) (body : List Stmt) (scope : Scope) (dvs : List V) (kws : List (Str × V)), FunD K df.name qual params body scope dvs kws f fd ∧ FnScope df.names ps scope ∧ ps.length = df.np ∧
    mg df.name = some (.ref f) ∧ Binds K fd ps [] ∧ mB ⟨T, df.names, scope, scope⟩ df.body body = true
section
variable {P : Program} {w : World} {K : PySem.W.Frag} {mg : Str → Option Value} {base : Heap} {T : List Def} {Nw : Nat}
theorem start_stt {K : KX} {H : L2.Hp} {bt : Gh} {h : Hp} {N : List Str} {ws : List W} {vs : List V} (ok : HeapOk K H bt h) (l : RepL K H bt h ws vs) : Stt K (L2.start N vs) H bt (ws.map some ++ List.replicate (N.length - ws.length) none) h := by
  refine ⟨ok, fun i w e => ?_, by unfold L2.start; simp [l.length]⟩
  by_cases hi : i < ws.length
  · rw [List.getElem?_append_left (by simpa using hi), List.getElem?_map] at e
    cases q : ws[i]? with
    | none => rw [q] at e; cases e
    | some u =>
      rw [q] at e
      cases e
      obtain ⟨v, ev, r⟩ := l.get q
      refine ⟨v, ?_, r⟩
      unfold L2.start
      rw [List.getElem?_append_left (by rw [List.length_map, ← l.length]; exact hi), List.getElem?_map, ev]
      rfl
  · rw [List.getElem?_append_right (by simp; omega), List.getElem?_replicate] at e
    split at e <;> cases e
/-- one def, from the promises of all at the depth below -/
theorem def_ok {d : Nat} (ih : ∀ (k : Nat) (df : Def), T[k]? = some df → ∃ f fd ps, FnOk P w K mg base (L2.CX P w) d f fd ps (spC ⟨K, P, w⟩ T Nw d k df.np) ∧ mg df.name = some (.ref f) ∧ PySem.W.keepIn K (.ref f) = true ∧ Binds K fd ps []) (hb : ∀ x ∈ bltNames, mg x = none)
    {k : Nat} {df : Def} {f : Addr} {fd : FuncData} {ps : List Str} {nm qual : Str} {params : Arguments} {body : List Stmt} {scope : Scope} {dvs : List V} {kws : List (Str × V)} (e : T[k]? = some df) (F : FunD K nm qual params body scope dvs kws f fd) (S : FnScope df.names ps scope) (hl : ps.length = df.np)
    (mb : mB ⟨T, df.names, scope, scope⟩ df.body body = true) : FnOk P w K mg base (L2.CX P w) (d + 1) f fd ps (spC ⟨K, P, w⟩ T Nw (d + 1) k df.np) := by
  refine F.ok S (fun vs H Q E z => by rw [hl]; exact z.1) (fun cdv A outer s H vs Q E hr z => ?_)
  have tk := L2.takes_of (X := cxOf (L2.CX P w) P w K mg base df.names qual scope f cdv A outer s H E) rfl rfl rfl rfl
  have pas := L2.passes_of (X := cxOf (L2.CX P w) P w K mg base df.names qual scope f cdv A outer s H E) rfl
  have ctx : Ctx Nw d ⟨T, df.names, scope, scope⟩ (cxOf (L2.CX P w) P w K mg base df.names qual scope f cdv A outer s H E) :=
    ⟨rfl, S.nd, rfl, rfl, fun x e => e, fun x e => ⟨e, rfl⟩, hr, hb, ih⟩
  refine ⟨_, sB Nw d df.body _ _ _ body ctx pas tk mb, ?_⟩
  obtain ⟨hv, b, bt, h, ws, ok, hbl, l, q⟩ := z
  have hw : ws.length = df.np := by rw [l.length]; exact hv
  unfold evC at q
  rw [e] at q
  simp only [hw, if_true] at q
  have hb' : (if df.keep = true then b else h.length) ≤ h.length := by split <;> omega
  have st := start_stt (N := df.names) ok l
  rw [hw] at st
  refine ⟨if df.keep = true then b else h.length, bt, _, h, st, hb', ?_⟩
  show OkS ⟨K, P, w⟩ _ H bt (if df.keep = true then b else h.length) h _ (evB (evC T Nw d) Nw (if df.keep = true then b else h.length) df.body (ws.map some ++ List.replicate (df.names.length - df.np) none) h)
  revert q
  generalize evB (evC T Nw d) Nw (if df.keep = true then b else h.length) df.body (ws.map some ++ List.replicate (df.names.length - df.np) none) h = r
  intro q
  cases r with
  | bad => exact q
  | brk _ _ => exact q.elim
  | cnt _ _ => exact q.elim
  | exc e r2 h2 => exact fun c d σ' H' bt' _ _ _ rx => rx.elim
  | ret w1 h1 => exact fun v H' bt' x ok' p r => end_ok ok hbl q x ok' p r
  | nxt r1 h1 => exact fun σ' H' bt' x p s' => end_ok (v := .non) ok hbl q x s'.hp p rfl
theorem defs_ok (hT : ∀ (k : Nat) df, T[k]? = some df → DefOk K mg T df) (hb : ∀ x ∈ bltNames, mg x = none) : ∀ (d k : Nat) (df : Def), T[k]? = some df →
    ∃ f fd ps, FnOk P w K mg base (L2.CX P w) d f fd ps (spC ⟨K, P, w⟩ T Nw d k df.np) ∧ mg df.name = some (.ref f) ∧ PySem.W.keepIn K (.ref f) = true ∧ Binds K fd ps []
  | 0, k, df, e => by
    obtain ⟨f, fd, ps, qual, params, body, scope, dvs, kws, F, S, hl, hm, hbn, mb⟩ := (hT k df e).ex
    have nope : ∀ vs H Q E, ¬ spC ⟨K, P, w⟩ T Nw 0 k df.np vs H Q E := fun vs H Q E z => by
      obtain ⟨_, b, bt, h, ws, _, _, _, q⟩ := z
      exact q
    exact ⟨f, fd, ps, ⟨fun vs H Q E z => (nope _ _ _ _ z).elim, fun A outer s H args us vs Q E _ _ _ _ z => (nope _ _ _ _ z).elim⟩, hm, F.kp, hbn⟩
  | d + 1, k, df, e => by
    obtain ⟨f, fd, ps, qual, params, body, scope, dvs, kws, F, S, hl, hm, hbn, mb⟩ := (hT k df e).ex
    exact ⟨f, fd, ps, def_ok (fun k' df' e' => defs_ok hT hb d k' df' e') hb e F S hl mb, hm, F.kp, hbn⟩

/-! ### the law -/
/-- an exception over some world -/
def CXW (P : Program) : CXT := fun outer H s E u s' => ∃ w, L2.CX P w outer H s E u s'
theorem fn_cxw {d : Nat} {f : Addr} {fd : FuncData} {ps : List Str} {sp : Sp} (F : FnOk P w K mg base (L2.CX P w) d f fd ps sp) : FnOk P w K mg base (CXW P) d f fd ps sp :=
  ⟨F.len, fun A outer s H args us vs Q E hr e0 hb r hs => codeAny_mono (F.run A outer s H args us vs Q E hr e0 hb r hs) fun r s' hq => by
    cases r with
    | error e => exact ⟨w, hq⟩
    | ok fl => cases fl <;> exact hq⟩
theorem cxw_none (P : Program) (H : L2.Hp) (s : Shared) (e : Value) (s' : Shared) : CXW P [] H s (fun _ _ _ => False) e s' → False := fun ⟨_, z⟩ => by
  obtain ⟨_, _, _, _, _, _, _, _, _, _, _, _, z⟩ := z
  exact z
theorem repL_ints {K : KX} {H : L2.Hp} {bt : Gh} {h : Hp} (ns : List Int) : RepL K H bt h (ns.map W.int) (ns.map V.int) := RepL.ints ns
theorem sp_of {d k : Nat} {H : L2.Hp} {a : Addr} {ns : List Int} (sq : SqL K H a (ns.map V.int)) (hv : ∃ h', evC T Nw d 0 k [.slst (ns.map W.int)] [] = .ok (.bl true) h') :
    spC ⟨K, P, w⟩ T Nw d k 1 [.ref a] H (fun v _ => v = .bl true) fun _ _ _ => False := by
  obtain ⟨h', hv⟩ := hv
  refine ⟨rfl, 0, ⟨fun _ => a, []⟩, [], [.slst (ns.map W.int)], ⟨fun i o e => by simp at e, fun i j oi oj e => by simp at e, fun d hd => (by cases hd), fun i o e => (by simp at e)⟩, Nat.le_refl _, ⟨.ref a, [], rfl, ⟨a, _, rfl, ?_, RepL.ints ns⟩, rfl⟩, ?_⟩
  · rcases sq with sq | sq
    · exact .inl ⟨sq, fun i o e => by simp at e, fun z => by cases z⟩
    · exact .inr sq
  · rw [hv]
    exact fun v H' bt' _ _ _ r => r
/-- the law's def, ready for the end -/
theorem law_fn (hT : ∀ (k : Nat) df, T[k]? = some df → DefOk K mg T df) (hb : ∀ x ∈ bltNames, mg x = none) {d k : Nat} {df : Def} {f : Addr} {fd : FuncData} {ps : List Str} {nm qual : Str} {params : Arguments} {body : List Stmt} {scope : Scope} {dvs : List V} {kws : List (Str × V)} (e : T[k]? = some df) (F : FunD K nm qual params body scope dvs kws f fd) (S : FnScope df.names ps scope) (hl : ps.length = df.np)
    (mb : mB ⟨T, df.names, scope, scope⟩ df.body body = true) : FnOk P w K mg base (CXW P) (d + 1) f fd ps (spC ⟨K, P, w⟩ T Nw (d + 1) k df.np) :=
  fn_cxw (def_ok (fun k' df' e' => defs_ok hT hb d k' df' e') hb e F S hl mb)
end
end Ow

/-! N0: the evaluator's steps as simp rules. -/
namespace Ow
open PySem

/-- ints as values -/
abbrev iv (ds : List Int) : List W := ds.map W.int
/-- by a test's truth -/
def tc {α : Type} (o : Option Bool) (a b c : α) : α := match o with
  | some true => a
  | some false => b
  | none => c
@[simp] theorem tc_t {α : Type} (a b c : α) : tc (some true) a b c = a := (rfl)
@[simp] theorem tc_f {α : Type} (a b c : α) : tc (some false) a b c = b := (rfl)
@[simp] theorem tc_n {α : Type} (a b c : α) : tc none a b c = c := (rfl)
theorem tc_dec {α : Type} (P : Prop) [Decidable P] (a b c : α) : tc (some (decide P)) a b c = if P then a else b := by
  by_cases h : P <;> simp [h]
@[simp] theorem tc_yes {α : Type} {P : Prop} [Decidable P] (h : P) (a b c : α) : tc (some (decide P)) a b c = a := by simp [h]
@[simp] theorem tc_no {α : Type} {P : Prop} [Decidable P] (h : ¬P) (a b c : α) : tc (some (decide P)) a b c = b := by simp [h]
def gv (o : Option (Option W)) (h : Hp) : R W := match o with
  | some (some w) => .ok w h
  | _ => .bad
@[simp] theorem gv_s (w : W) (h : Hp) : gv (some (some w)) h = .ok w h := (rfl)
def nx (o : Option Env) (h : Hp) : RS := match o with
  | some r => .nxt r h
  | none => .bad
@[simp] theorem nx_s (r : Env) (h : Hp) : nx (some r) h = .nxt r h := (rfl)
def endB (n : Nat) (x : RS) : R W := match x with
  | .ret w h' => endCall false n w h'
  | .nxt _ h' => endCall false n .non h'
  | .exc e _ h' => .exc e (h'.take n)
  | _ => .bad
@[simp] theorem endB_r (n : Nat) (w : W) (h : Hp) : endB n (.ret w h) = endCall false n w h := (rfl)
@[simp] theorem endB_n (n : Nat) (r : Env) (h : Hp) : endB n (.nxt r h) = endCall false n .non h := (rfl)
@[simp] theorem ofR_ite {P : Prop} [Decidable P] (a b : R W) (r : Env) (f : W → Hp → RS) : ofR (if P then a else b) r f = if P then ofR a r f else ofR b r f := by split <;> rfl
@[simp] theorem bind_ite {α β : Type} {P : Prop} [Decidable P] (a b : R α) (f : α → Hp → R β) : (if P then a else b).bind f = if P then a.bind f else b.bind f := by split <;> rfl
theorem evC_run {T : List Def} {N d b k : Nat} {ws : List W} {h : Hp} {df : Def} (e : T[k]? = some df) (hl : ws.length = df.np) (hk : df.keep = false) :
    evC T N (d + 1) b k ws h = endB h.length (evB (evC T N d) N h.length df.body (ws.map some ++ List.replicate (df.names.length - df.np) none) h) := by
  show (match T[k]? with | none => R.bad | some df => _) = _
  rw [e]
  simp only [hl, if_true, hk]
  rfl
section
variable {call : Nat → Nat → List W → Hp → R W} {b N : Nat} {r : Env} {h : Hp}
@[simp] theorem e_var (i : Nat) : evE call b r (.var i) h = gv r[i]? h := by rw [evE]; rfl
@[simp] theorem e_cst (w : W) : evE call b r (.cst w) h = .ok w h := by rw [evE]
theorem e_pr_ (m : Bool) (p : Prim) (args : List Ex) : evE call b r (.pr m p args) h = (evEs call b r args h).bind fun ws h1 => runPrim m p ws h1 := by rw [evE]
theorem e_and_ (a c : Ex) : evE call b r (.and_ a c) h = (evE call b r a h).bind fun x h1 => tc (truthW h1 x) (evE call b r c h1) (.ok x h1) .bad := by rw [evE]; rfl
theorem e_or_ (a c : Ex) : evE call b r (.or_ a c) h = (evE call b r a h).bind fun x h1 => tc (truthW h1 x) (.ok x h1) (evE call b r c h1) .bad := by rw [evE]; rfl
theorem e_not_ (a : Ex) : evE call b r (.not_ a) h = (evE call b r a h).bind fun x h1 => R.ofO ((truthW h1 x).map fun k => .bl (!k)) h1 := by
  rw [evE]
  congr 1
  funext x h1
  cases truthW h1 x <;> rfl
theorem e_ite_ (c x y : Ex) : evE call b r (.ite c x y) h = (evE call b r c h).bind fun cw h1 => tc (truthW h1 cw) (evE call b r x h1) (evE call b r y h1) .bad := by rw [evE]; rfl
theorem e_call_ (k : Nat) (args : List Ex) : evE call b r (.call k args) h = (evEs call b r args h).bind fun ws h1 => call b k ws h1 := by rw [evE]
theorem e_mth_ (m : Mth) (o : Ex) (args : List Ex) : evE call b r (.mth m o args) h = (evE call b r o h).bind fun ow h1 => if recvOk m ow h1 = true then (evEs call b r args h1).bind fun ws h2 => runMth b m ow ws h2 else .bad := by rw [evE]
@[simp] theorem e_nil : evEs call b r [] h = .ok [] h := by rw [evEs]
theorem e_cons_ (e : Ex) (es : List Ex) : evEs call b r (e :: es) h = (evE call b r e h).bind fun w h1 => (evEs call b r es h1).bind fun ws h2 => .ok (w :: ws) h2 := by rw [evEs]
theorem s_asg_ (t : Tg) (e : Ex) : evS call N b (.asg t e) r h = ofR (evE call b r e h) r fun w h1 => nx (bindT t w r) h1 := by rw [evS]; rfl
theorem s_exp_ (e : Ex) : evS call N b (.exp e) r h = ofR (evE call b r e h) r fun _ h1 => .nxt r h1 := by rw [evS]
theorem s_ret_ (e : Ex) : evS call N b (.ret e) r h = ofR (evE call b r e h) r fun w h1 => .ret w h1 := by rw [evS]
theorem s_iff_ (c : Ex) (x y : List St) : evS call N b (.iff c x y) r h = ofR (evE call b r c h) r fun cw h1 => tc (truthW h1 cw) (evB call N b x r h1) (evB call N b y r h1) .bad := by rw [evS]; rfl
@[simp] theorem b_nil : evB call N b [] r h = .nxt r h := by rw [evB]
theorem b_cons_ (s : St) (ss : List St) : evB call N b (s :: ss) r h = (evS call N b s r h).andThen fun r1 h1 => evB call N b ss r1 h1 := by rw [evB]
end
@[simp] theorem bind_nm {i : Nat} {w : W} {r : Env} : bindT (.nm i) w r = if i < r.length then some (r.set i (some w)) else none := by rw [bindT]
@[simp] theorem rp_false (p : Prim) (ws : List W) (h : Hp) : runPrim false p ws h = R.ofO (primF p (if p.raw then ws else ws.map (deref h))) h := by
  unfold runPrim
  cases primF p (if p.raw then ws else ws.map (deref h)) <;> rfl
@[simp] theorem d_int (h : Hp) (i : Int) : deref h (.int i) = .int i := (rfl)
@[simp] theorem d_bl (h : Hp) (i : Bool) : deref h (.bl i) = .bl i := (rfl)
@[simp] theorem d_str (h : Hp) (i : Str) : deref h (.str i) = .str i := (rfl)
@[simp] theorem d_non (h : Hp) : deref h .non = .non := (rfl)
@[simp] theorem d_tup (h : Hp) (i : List W) : deref h (.tup i) = .tup i := (rfl)
@[simp] theorem d_lst (h : Hp) (i : List W) : deref h (.lst i) = .lst i := (rfl)
@[simp] theorem d_slst (h : Hp) (i : List W) : deref h (.slst i) = .slst i := (rfl)
theorem d_ref {h : Hp} {n : Nat} {ws : List W} (e : h[n]? = some (.lst ws)) : deref h (.ref n) = .lst ws := by simp only [deref, e]
section
@[simp] theorem w_add : Prim.raw .add = false := (rfl)
@[simp] theorem w_sub : Prim.raw .sub = false := (rfl)
@[simp] theorem w_mul : Prim.raw .mul = false := (rfl)
@[simp] theorem w_mod : Prim.raw .mod = false := (rfl)
@[simp] theorem w_fdiv : Prim.raw .fdiv = false := (rfl)
@[simp] theorem w_pow : Prim.raw .pow = false := (rfl)
@[simp] theorem w_eq : Prim.raw .eq = false := (rfl)
@[simp] theorem w_ne : Prim.raw .ne = false := (rfl)
@[simp] theorem w_lt : Prim.raw .lt = false := (rfl)
@[simp] theorem w_le : Prim.raw .le = false := (rfl)
@[simp] theorem w_gt : Prim.raw .gt = false := (rfl)
@[simp] theorem w_ge : Prim.raw .ge = false := (rfl)
@[simp] theorem w_mem : Prim.raw .mem = false := (rfl)
@[simp] theorem w_nmem : Prim.raw .nmem = false := (rfl)
@[simp] theorem w_idx : Prim.raw .idx = false := (rfl)
@[simp] theorem w_sl (a b : Bool) : Prim.raw (.sl a b) = false := (rfl)
@[simp] theorem w_len : Prim.raw .len = false := (rfl)
@[simp] theorem w_int1 : Prim.raw .int1 = false := (rfl)
@[simp] theorem w_abs : Prim.raw .abs = false := (rfl)
@[simp] theorem w_min2 : Prim.raw .min2 = false := (rfl)
@[simp] theorem w_max2 : Prim.raw .max2 = false := (rfl)
@[simp] theorem w_str1 : Prim.raw .str1 = false := (rfl)
@[simp] theorem w_list1 : Prim.raw .list1 = false := (rfl)
@[simp] theorem w_tuple1 : Prim.raw .tuple1 = false := (rfl)
@[simp] theorem w_sorted1 : Prim.raw .sorted1 = false := (rfl)
@[simp] theorem w_isi (T : Tk) : Prim.raw (.isi T) = false := (rfl)
@[simp] theorem w_tupd : Prim.raw .tupd = true := (rfl)
@[simp] theorem w_lstd : Prim.raw .lstd = true := (rfl)
@[simp] theorem w_isN : Prim.raw .isN = true := (rfl)
@[simp] theorem w_notN : Prim.raw .notN = true := (rfl)
end
@[simp] theorem p_eqi (a b : Int) : primF .eq [.int a, .int b] = some (.bl (decide (a = b))) := by
  have : pEq (.int a) (.int b) = some (decide (a = b)) := by
    simp only [pEq, eqOk, isD, toD]
    rw [if_pos (by rfl)]
    congr 1
  show (pEq (.int a) (.int b)).map W.bl = _
  rw [this]; rfl
@[simp] theorem p_eqs (a b : Str) : primF .eq [.str a, .str b] = some (.bl (decide (a = b))) := (rfl)
@[simp] theorem p_len (ws : List W) : primF .len [.lst ws] = some (.int ws.length) := (rfl)
@[simp] theorem p_lenT (ws : List W) : primF .len [.tup ws] = some (.int ws.length) := (rfl)
@[simp] theorem p_lenS (ws : List W) : primF .len [.slst ws] = some (.int ws.length) := (rfl)
@[simp] theorem p_int (i : Int) : primF .int1 [.int i] = some (.int i) := (rfl)
@[simp] theorem p_abs (i : Int) : primF .abs [.int i] = some (.int (if i < 0 then -i else i)) := (rfl)
@[simp] theorem p_add (i j : Int) : primF .add [.int i, .int j] = some (.int (i + j)) := (rfl)
@[simp] theorem p_sub (i j : Int) : primF .sub [.int i, .int j] = some (.int (i - j)) := (rfl)
theorem p_mod {i j : Int} (h : j ≠ 0) : primF .mod [.int i, .int j] = some (.int (i.fmod j)) := by
  show pMod (.int i) (.int j) = _
  simp [pMod, h]
@[simp] theorem p_lt (i j : Int) : primF .lt [.int i, .int j] = some (.bl (decide (i < j))) := (rfl)
@[simp] theorem p_le (i j : Int) : primF .le [.int i, .int j] = some (.bl (decide (i ≤ j))) := (rfl)
@[simp] theorem p_gt (i j : Int) : primF .gt [.int i, .int j] = some (.bl (decide (j < i))) := (rfl)
@[simp] theorem p_ge (i j : Int) : primF .ge [.int i, .int j] = some (.bl (decide (j ≤ i))) := (rfl)
@[simp] theorem t_bl (h : Hp) (k : Bool) : truthW h (.bl k) = some k := (rfl)
@[simp] theorem take_set {h : Hp} {n : Nat} {o : Obj} : (h.set n o).take h.length = h.set n o := List.take_of_length_le (by simp)
@[simp] theorem end_int {n : Nat} {i : Int} {h : Hp} : endCall false n (.int i) h = .ok (.int i) (h.take n) := by simp [endCall, below]

/-! loops -/
section
variable {body : W → Hp → R (Option W)} {keep : Hp → Prop}
open Classical in
theorem lc_nil (acc : List W) (h : Hp) : lcLoop body keep [] acc h = .ok acc h := by rw [lcLoop]
open Classical in
theorem lc_cons_some {x : W} {xs acc : List W} {h h1 : Hp} {y : W} (e : body x h = .ok (some y) h1) (k : keep h1) (z : acc.length < sizeLine) : lcLoop body keep (x :: xs) acc h = lcLoop body keep xs (acc ++ [y]) h1 := by
  rw [lcLoop, e]
  simp only [k, if_true, z]
open Classical in
theorem lc_cons_none {x : W} {xs acc : List W} {h h1 : Hp} (e : body x h = .ok none h1) (k : keep h1) : lcLoop body keep (x :: xs) acc h = lcLoop body keep xs acc h1 := by
  rw [lcLoop, e]
  simp only [k, if_true]
/-- a comprehension that changes the heap under an invariant -/
theorem lc_inv (P : Hp → Prop) (Qw : W → Prop) : ∀ (its acc : List W) (h : Hp), (∀ x ∈ its, ∀ h, P h → ∃ o h', body x h = .ok o h' ∧ keep h' ∧ P h' ∧ ∀ w, o = some w → Qw w) → P h → acc.length + its.length ≤ sizeLine →
    ∃ ys h', lcLoop body keep its acc h = .ok (acc ++ ys) h' ∧ P h' ∧ (∀ y ∈ ys, Qw y) ∧ ys.length ≤ its.length
  | [], acc, h, _, p, _ => ⟨[], h, by rw [lc_nil, List.append_nil], p, fun y hy => (by cases hy), Nat.le_refl _⟩
  | x :: its, acc, h, st, p, z => by
    obtain ⟨o, h1, e, k, p1, q⟩ := st x (List.mem_cons_self ..) h p
    rw [List.length_cons] at z
    cases o with
    | none =>
      obtain ⟨ys, h2, e2, p2, q2, l2⟩ := lc_inv P Qw its acc h1 (fun y hy => st y (List.mem_cons_of_mem _ hy)) p1 (by omega)
      exact ⟨ys, h2, by rw [lc_cons_none e k, e2], p2, q2, by rw [List.length_cons]; omega⟩
    | some w =>
      obtain ⟨ys, h2, e2, p2, q2, l2⟩ := lc_inv P Qw its (acc ++ [w]) h1 (fun y hy => st y (List.mem_cons_of_mem _ hy)) p1 (by rw [List.length_append, List.length_singleton]; omega)
      refine ⟨w :: ys, h2, by rw [lc_cons_some e k (by omega), e2, List.append_assoc]; rfl, p2, fun y hy => ?_, by rw [List.length_cons, List.length_cons]; omega⟩
      rcases List.mem_cons.mp hy with rfl | hy
      · exact q _ rfl
      · exact q2 y hy
/-- .. no test -/
theorem lc_invA (P : Hp → Prop) (Qw : W → Prop) : ∀ (its acc : List W) (h : Hp), (∀ x ∈ its, ∀ h, P h → ∃ w h', body x h = .ok (some w) h' ∧ keep h' ∧ P h' ∧ Qw w) → P h → acc.length + its.length ≤ sizeLine →
    ∃ ys h', lcLoop body keep its acc h = .ok (acc ++ ys) h' ∧ P h' ∧ (∀ y ∈ ys, Qw y) ∧ ys.length = its.length
  | [], acc, h, _, p, _ => ⟨[], h, by rw [lc_nil, List.append_nil], p, fun y hy => (by cases hy), rfl⟩
  | x :: its, acc, h, st, p, z => by
    obtain ⟨w, h1, e, k, p1, q⟩ := st x (List.mem_cons_self ..) h p
    rw [List.length_cons] at z
    obtain ⟨ys, h2, e2, p2, q2, l2⟩ := lc_invA P Qw its (acc ++ [w]) h1 (fun y hy => st y (List.mem_cons_of_mem _ hy)) p1 (by rw [List.length_append, List.length_singleton]; omega)
    refine ⟨w :: ys, h2, by rw [lc_cons_some e k (by omega), e2, List.append_assoc]; rfl, p2, fun y hy => ?_, by rw [List.length_cons, List.length_cons, l2]⟩
    rcases List.mem_cons.mp hy with rfl | hy
    · exact q
    · exact q2 y hy
/-- a comprehension that is a map -/
theorem lc_map (f : W → W) {h : Hp} (kp : keep h) : ∀ (its acc : List W), (∀ x ∈ its, body x h = .ok (some (f x)) h) → acc.length + its.length ≤ sizeLine → lcLoop body keep its acc h = .ok (acc ++ its.map f) h
  | [], acc, _, _ => by rw [lc_nil, List.map_nil, List.append_nil]
  | x :: its, acc, st, z => by
    rw [List.length_cons] at z
    rw [lc_cons_some (st x (List.mem_cons_self ..)) kp (by omega), lc_map f kp its (acc ++ [f x]) (fun y hy => st y (List.mem_cons_of_mem _ hy)) (by rw [List.length_append, List.length_singleton]; omega), List.append_assoc]
    rfl
/-- a comprehension that sorts out -/
theorem lc_filter (f : W → Option W) {h : Hp} (kp : keep h) : ∀ (its acc : List W), (∀ x ∈ its, body x h = .ok (f x) h) → acc.length + its.length ≤ sizeLine → lcLoop body keep its acc h = .ok (acc ++ its.filterMap f) h
  | [], acc, _, _ => by rw [lc_nil, List.filterMap_nil, List.append_nil]
  | x :: its, acc, st, z => by
    rw [List.length_cons] at z
    have e := st x (List.mem_cons_self ..)
    cases q : f x with
    | none =>
      rw [q] at e
      rw [lc_cons_none e kp, lc_filter f kp its acc (fun y hy => st y (List.mem_cons_of_mem _ hy)) (by omega), List.filterMap_cons_none q]
    | some y =>
      rw [q] at e
      rw [lc_cons_some e kp (by omega), lc_filter f kp its (acc ++ [y]) (fun y hy => st y (List.mem_cons_of_mem _ hy)) (by rw [List.length_append, List.length_singleton]; omega), List.append_assoc, List.filterMap_cons_some q]
      rfl
open Classical in
/-- .. the list an object -/
theorem lcM_nil (n : Nat) (acc : List W) (h : Hp) : lcLoopM body keep n [] acc h = .ok (.ref n) h := by rw [lcLoopM]
open Classical in
theorem lcM_cons_some {n : Nat} {x : W} {xs acc : List W} {h h1 : Hp} {y : W} (e : body x h = .ok (some y) h1) (k : keep h1) (hn : h1[n]? = some (.lst acc)) (z : acc.length < sizeLine) : lcLoopM body keep n (x :: xs) acc h = lcLoopM body keep n xs (acc ++ [y]) (h1.set n (.lst (acc ++ [y]))) := by
  rw [lcLoopM, e]
  simp only [k, hn, and_self, if_true, z]
open Classical in
theorem lcM_cons_none {n : Nat} {x : W} {xs acc : List W} {h h1 : Hp} (e : body x h = .ok none h1) (k : keep h1) (hn : h1[n]? = some (.lst acc)) : lcLoopM body keep n (x :: xs) acc h = lcLoopM body keep n xs acc h1 := by
  rw [lcLoopM, e]
  simp only [k, hn, and_self, if_true]
/-- a map, the list an object at the heap's end -/
theorem lcM_map (f : W → W) {h0 : Hp} (kp : ∀ a, keep (h0 ++ [.lst a])) : ∀ (its acc : List W), (∀ x ∈ its, ∀ a, body x (h0 ++ [.lst a]) = .ok (some (f x)) (h0 ++ [.lst a])) → acc.length + its.length ≤ sizeLine →
    lcLoopM body keep h0.length its acc (h0 ++ [.lst acc]) = .ok (.ref h0.length) (h0 ++ [.lst (acc ++ its.map f)])
  | [], acc, _, _ => by rw [lcM_nil, List.map_nil, List.append_nil]
  | x :: its, acc, st, z => by
    rw [List.length_cons] at z
    rw [lcM_cons_some (st x (List.mem_cons_self ..) acc) (kp acc) (by simp) (by omega)]
    rw [show (h0 ++ [Obj.lst acc]).set h0.length (.lst (acc ++ [f x])) = h0 ++ [.lst (acc ++ [f x])] by simp]
    rw [lcM_map f kp its (acc ++ [f x]) (fun y hy => st y (List.mem_cons_of_mem _ hy)) (by rw [List.length_append, List.length_singleton]; omega), List.append_assoc]
    rfl
end
section
variable {body : W → Env → Hp → RS} {kill : List Nat} {keep : Hp → Prop}
open Classical in
theorem for_nil (r : Env) (h : Hp) : forLoop body kill keep [] r h = .nxt (wipeE r kill) h := by rw [forLoop]
open Classical in
theorem for_nxt {x : W} {xs : List W} {r r1 : Env} {h h1 : Hp} (e : body x (wipeE r kill) h = .nxt r1 h1) (k : keep h1) : forLoop body kill keep (x :: xs) r h = forLoop body kill keep xs r1 h1 := by
  rw [forLoop, e]
  simp only [k, if_true]
/-- a for under an invariant of the slots and the heap (no break, no return) -/
theorem for_inv (P : Nat → Env → Hp → Prop) {n : Nat} : ∀ (its : List W) (i : Nat) (r : Env) (h : Hp), (∀ j x, its[j]? = some x → ∀ r h, P (i + j) r h → ∃ r' h', body x (wipeE r kill) h = .nxt r' h' ∧ keep h' ∧ P (i + j + 1) r' h') → P i r h → i + its.length = n →
    ∃ r' h', forLoop body kill keep its r h = .nxt (wipeE r' kill) h' ∧ P n r' h'
  | [], i, r, h, _, p, z => ⟨r, h, for_nil r h, by rw [← z]; exact p⟩
  | x :: its, i, r, h, st, p, z => by
    obtain ⟨r1, h1, e, k, p1⟩ := st 0 x rfl r h p
    obtain ⟨r2, h2, e2, p2⟩ := for_inv P (n := n) its (i + 1) r1 h1 (fun j y hy r h p => by
      have := st (j + 1) y hy r h (by rw [← Nat.add_assoc, Nat.add_right_comm]; exact p)
      rw [← Nat.add_assoc, Nat.add_right_comm i j 1] at this
      exact this) p1 (by rw [List.length_cons] at z; omega)
    exact ⟨r2, h2, by rw [for_nxt e k, e2], p2⟩
end
@[simp] theorem wipe_nil (r : Env) : wipeE r [] = r := (rfl)
@[simp] theorem wipe_cons (r : Env) (i : Nat) (is : List Nat) : wipeE r (i :: is) = (wipeE r is).set i none := (rfl)
section
variable {call : Nat → Nat → List W → Hp → R W} {b N : Nat} {r : Env} {h : Hp}
theorem e_lcF_ (t : Tg) (k : ItK) (srcs tests : List Ex) (e : Ex) : evE call b r (.lc false t k srcs tests e) h = (evEs call b r srcs h).bind fun ws h1 => match itemsOf k (ws.map (deref h1)) with
    | none => .bad
    | some its => (lcLoop (lcB call b r t tests e) (fun h2 => sameAt h1 h2 ws) its [] h1).bind fun ys h2 => .ok (.lst ys) h2 := by
  rw [evE]
  rfl
theorem e_lcT_ (t : Tg) (k : ItK) (srcs tests : List Ex) (e : Ex) : evE call b r (.lc true t k srcs tests e) h = (evEs call b r srcs h).bind fun ws h1 => match itemsOf k (ws.map (deref h1)) with
    | none => .bad
    | some its => lcLoopM (lcB call b r t tests e) (fun h2 => sameAt h1 h2 ws) h1.length its [] (h1 ++ [.lst []]) := by
  rw [evE]
  rfl
noncomputable def forB (call : Nat → Nat → List W → Hp → R W) (N b : Nat) (t : Tg) (body : List St) : W → Env → Hp → RS := fun x r2 h2 => match bindT t x r2 with
  | none => .bad
  | some r3 => evB call N b body r3 h2
theorem s_for_ (t : Tg) (k : ItK) (srcs : List Ex) (kill : List Nat) (body : List St) : evS call N b (.forr false t k srcs kill body) r h = ofRs (evEs call b r srcs h) r fun ws h1 => match itemsOf k (ws.map (deref h1)) with
    | none => .bad
    | some its => forLoop (forB call N b t body) kill (fun h2 => sameAt h1 h2 ws) its r h1 := by
  rw [evS]
  rfl
end
theorem lcB_nil {call : Nat → Nat → List W → Hp → R W} {b : Nat} {ρ : Env} {t : Tg} {e : Ex} {w : W} {h : Hp} {r2 : Env} (hb : bindT t w (wipeE ρ t.names) = some r2) : lcB call b ρ t [] e w h = (evE call b r2 e h).bind fun y h3 => .ok (some y) h3 := by
  unfold lcB
  rw [hb]
theorem lcB_one {call : Nat → Nat → List W → Hp → R W} {b : Nat} {ρ : Env} {t : Tg} {c e : Ex} {w : W} {h : Hp} {r2 : Env} (hb : bindT t w (wipeE ρ t.names) = some r2) : lcB call b ρ t [c] e w h = (evE call b r2 c h).bind fun cw h3 => tc (truthW h3 cw) ((evE call b r2 e h3).bind fun y h4 => .ok (some y) h4) (.ok none h3) .bad := by
  unfold lcB
  rw [hb]
  rfl

theorem fmod_pos {a m : Int} (hm : 0 < m) : 0 ≤ a.fmod m ∧ a.fmod m < m := ⟨Int.fmod_nonneg_of_pos a hm, Int.fmod_lt_of_pos a hm⟩
/-- a def that is such a one -/
structure Is (T : List Def) (k np nn : Nat) (body : List St) : Prop where
  ex : ∃ df, T[k]? = some df ∧ df.np = np ∧ df.names.length = nn ∧ df.keep = false ∧ df.body = body
theorem Is.run {T : List Def} {k np nn : Nat} {body : List St} (i : Is T k np nn body) {N d b : Nat} {ws : List W} {h : Hp} (hl : ws.length = np) :
    evC T N (d + 1) b k ws h = endB h.length (evB (evC T N d) N h.length body (ws.map some ++ List.replicate (nn - np) none) h) := by
  obtain ⟨df, e, e1, e2, e3, e4⟩ := i.ex
  rw [evC_run e (by rw [e1]; exact hl) e3, e4, e1, e2]
theorem p_mul {a b : Int} (h : small64 a || small64 b) : primF .mul [.int a, .int b] = some (.int (a * b)) := by
  show pMul (.int a) (.int b) = _
  simp only [pMul, h, if_true]
theorem p_fdiv {a b : Int} (h : b ≠ 0 ∧ b.natAbs < 1073741824) : primF .fdiv [.int a, .int b] = some (.int (a.fdiv b)) := by
  show pFdiv (.int a) (.int b) = _
  simp only [pFdiv, h, and_self, if_true, ne_eq, not_false_eq_true]
theorem p_pow {a b : Int} (h : 0 ≤ b ∧ b ≤ 1000000 ∧ a.natAbs < 2 ^ 64) : primF .pow [.int a, .int b] = some (.int (a ^ b.toNat)) := by
  show pPow (.int a) (.int b) = _
  simp only [pPow, h, and_self, if_true]
theorem ixOf_ok {n : Nat} {i : Int} (h0 : 0 ≤ i) (h1 : i < n) : ixOf n i = some i.toNat := by
  unfold ixOf L2.ixN
  rw [if_pos h0, if_pos h1]
theorem atW_ok {ws : List W} {i : Int} (h0 : 0 ≤ i) (h1 : i < ws.length) : atW ws i = ws[i.toNat]? := by
  unfold atW L2.atI
  have := ixOf_ok h0 h1
  unfold ixOf at this
  rw [this]; rfl
theorem p_idxL {ws : List W} {i : Int} (h0 : 0 ≤ i) (h1 : i < ws.length) : primF .idx [.lst ws, .int i] = ws[i.toNat]? := atW_ok h0 h1
theorem p_idxT {ws : List W} {i : Int} (h0 : 0 ≤ i) (h1 : i < ws.length) : primF .idx [.tup ws, .int i] = ws[i.toNat]? := atW_ok h0 h1
theorem p_idxS {ws : List W} {i : Int} (h0 : 0 ≤ i) (h1 : i < ws.length) : primF .idx [.slst ws, .int i] = ws[i.toNat]? := atW_ok h0 h1
theorem iv_get {ds : List Int} {i : Nat} (h : i < ds.length) : (iv ds)[i]? = some (.int ds[i]) := by
  unfold iv
  rw [List.getElem?_map, List.getElem?_eq_getElem h]
  rfl
theorem rp_lstd {ws : List W} {h : Hp} (z : ws.length ≤ sizeLine) : runPrim true .lstd ws h = .ok (.ref h.length) (h ++ [.lst ws]) := by
  unfold runPrim
  simp [primF, okLen, z, Prim.fresh, newObj]
theorem rp_list1 {w : W} {ws : List W} {h : Hp} (e : items (deref h w) = some ws) : runPrim true .list1 [w] h = .ok (.ref h.length) (h ++ [.lst ws]) := by
  unfold runPrim
  have : primF .list1 [deref h w] = some (.lst ws) := by
    show (items (deref h w)).map W.lst = _
    rw [e]; rfl
  simp [this, Prim.fresh, newObj]
theorem mayPut_int {b n : Nat} {i : Int} : mayPut b n (.int i) = true := by simp [mayPut, below]
theorem below_iv {n : Nat} : ∀ ds : List Int, belowL n (iv ds) = true
  | [] => by simp [belowL]
  | d :: ds => by
    have := below_iv (n := n) ds
    simpa [belowL, below] using this
/-- methods over the heap -/
theorem app_ok {b n : Nat} {x : W} {h : Hp} {ws : List W} (e : h[n]? = some (.lst ws)) (m : mayPut b n x = true) (z : ws.length < sizeLine) : runMth b .append (.ref n) [x] h = .ok .non (h.set n (.lst (ws ++ [x]))) := by
  simp only [runMth, e, m, z, decide_true, Bool.and_self, if_true]
theorem recv_l {m : Mth} {n : Nat} {h : Hp} {ws : List W} (e : h[n]? = some (.lst ws)) (hm : m ≠ .join) : recvOk m (.ref n) h = true := by
  cases m <;> first | exact absurd rfl hm | simp only [recvOk, e]
noncomputable def setW (b : Nat) (r : Env) (w : W) (ow iw : W) (h3 : Hp) : RS := match ow, iw with
  | .ref n, .int k => match h3[n]? with
    | some (.lst ws) => match ixOf ws.length k with
      | some j => if mayPut b n w then .nxt r (h3.set n (.lst (ws.set j w))) else .bad
      | none => .bad
    | _ => .bad
  | _, _ => .bad
theorem s_seti_ {call : Nat → Nat → List W → Hp → R W} {b N : Nat} {r : Env} {h : Hp} (o i e : Ex) : evS call N b (.seti o i e) r h = ofR (evE call b r e h) r fun w h1 => ofR (evE call b r o h1) r fun ow h2 => ofR (evE call b r i h2) r fun iw h3 => setW b r w ow iw h3 := by
  rw [evS]
  rfl
theorem set_ok {b n : Nat} {r : Env} {w : W} {h : Hp} {ws : List W} {k : Int} (e : h[n]? = some (.lst ws)) (h0 : 0 ≤ k) (h1 : k < ws.length) (m : mayPut b n w = true) : setW b r w (.ref n) (.int k) h = .nxt r (h.set n (.lst (ws.set k.toNat w))) := by
  simp only [setW, e, ixOf_ok h0 h1, m, if_true]
theorem size_big : 100000 < sizeLine := by rw [sizeLine_eq]; decide

theorem pow18 : primF .pow [.int 10, .int 18] = some (.int 1000000000000000000) := by
  rw [p_pow ⟨by omega, by omega, by omega⟩]
  rfl
end Ow

/-! N1: the evaluator as a machine of steps: what follows a step is kept as it is written. -/
namespace Ow
open PySem

/-! ### what follows, by name -/
section
variable (call : Nat → Nat → List W → Hp → R W) (N b : Nat)
noncomputable def kPr (m : Bool) (p : Prim) : R (List W) → R W := fun x => x.bind fun ws h1 => runPrim m p ws h1
noncomputable def kCons2 (w : W) : R (List W) → R (List W) := fun x => x.bind fun ws h2 => .ok (w :: ws) h2
noncomputable def kCons (r : Env) (es : List Ex) : R W → R (List W) := fun x => x.bind fun w h1 => kCons2 w (evEs call b r es h1)
noncomputable def kAnd0 (r : Env) (c : Ex) (x : W) (h1 : Hp) (o : Option Bool) : R W := tc o (evE call b r c h1) (.ok x h1) .bad
noncomputable def kOr0 (r : Env) (c : Ex) (x : W) (h1 : Hp) (o : Option Bool) : R W := tc o (.ok x h1) (evE call b r c h1) .bad
noncomputable def kIte0 (r : Env) (x y : Ex) (h1 : Hp) (o : Option Bool) : R W := tc o (evE call b r x h1) (evE call b r y h1) .bad
noncomputable def kAnd (r : Env) (c : Ex) : R W → R W := fun q => q.bind fun x h1 => kAnd0 call b r c x h1 (truthW h1 x)
noncomputable def kOr (r : Env) (c : Ex) : R W → R W := fun q => q.bind fun x h1 => kOr0 call b r c x h1 (truthW h1 x)
noncomputable def kNot : R W → R W := fun q => q.bind fun x h1 => R.ofO ((truthW h1 x).map fun k => .bl (!k)) h1
noncomputable def kIte (r : Env) (x y : Ex) : R W → R W := fun q => q.bind fun c h1 => kIte0 call b r x y h1 (truthW h1 c)
noncomputable def kCall (k : Nat) : R (List W) → R W := fun x => x.bind fun ws h1 => call b k ws h1
noncomputable def kMth2 (m : Mth) (ow : W) : R (List W) → R W := fun x => x.bind fun ws h2 => runMth b m ow ws h2
noncomputable def kMth1 (r : Env) (m : Mth) (ow : W) (args : List Ex) (h1 : Hp) (o : Bool) : R W := if o = true then kMth2 b m ow (evEs call b r args h1) else .bad
noncomputable def kMth (r : Env) (m : Mth) (args : List Ex) : R W → R W := fun x => x.bind fun ow h1 => kMth1 call b r m ow args h1 (recvOk m ow h1)
noncomputable def lcGo (r : Env) (t : Tg) (tests : List Ex) (e : Ex) (ws : List W) (h1 : Hp) (its : List W) : R (List W) := lcLoop (lcB call b r t tests e) (fun h2 => sameAt h1 h2 ws) its [] h1
noncomputable def kLst : R (List W) → R W := fun x => x.bind fun ys h2 => .ok (.lst ys) h2
noncomputable def kLc0 (r : Env) (t : Tg) (tests : List Ex) (e : Ex) (ws : List W) (h1 : Hp) (o : Option (List W)) : R W := match o with
  | none => .bad
  | some its => kLst (lcGo call b r t tests e ws h1 its)
noncomputable def kLc (r : Env) (t : Tg) (k : ItK) (tests : List Ex) (e : Ex) : R (List W) → R W := fun x => x.bind fun ws h1 => kLc0 call b r t tests e ws h1 (itemsOf k (ws.map (deref h1)))
noncomputable def lcGoM (r : Env) (t : Tg) (tests : List Ex) (e : Ex) (ws : List W) (h1 : Hp) (its : List W) : R W := lcLoopM (lcB call b r t tests e) (fun h2 => sameAt h1 h2 ws) h1.length its [] (h1 ++ [.lst []])
noncomputable def kLcM0 (r : Env) (t : Tg) (tests : List Ex) (e : Ex) (ws : List W) (h1 : Hp) (o : Option (List W)) : R W := match o with
  | none => .bad
  | some its => lcGoM call b r t tests e ws h1 its
noncomputable def kLcM (r : Env) (t : Tg) (k : ItK) (tests : List Ex) (e : Ex) : R (List W) → R W := fun x => x.bind fun ws h1 => kLcM0 call b r t tests e ws h1 (itemsOf k (ws.map (deref h1)))
noncomputable def kFrz : R W → R W := fun x => x.bind fun w h1 => match w with
    | .ref n => match h1[n]? with
      | some (.lst ws) => .ok (.lst ws) (h1.set n .dead)
      | some (.dic ks vs) => .ok (.dic ks vs) (h1.set n .dead)
      | _ => .bad
    | _ => .bad
noncomputable def kAsg (t : Tg) (r : Env) : R W → RS := fun x => ofR x r fun w h1 => nx (bindT t w r) h1
noncomputable def kAug0 (i : Nat) (r : Env) (h : Hp) (o : Option W) : RS := match o with
  | some z => .nxt (r.set i (some z)) h
  | none => .bad
noncomputable def kAug (i : Nat) (p : Prim) (r : Env) (x : W) : R W → RS := fun q => ofR q r fun y h1 => kAug0 i r h1 (augP p x y)
noncomputable def kAug1 (i : Nat) (p : Prim) (e : Ex) (r : Env) (h : Hp) (o : Option (Option W)) : RS := match o with
  | some (some x) => kAug i p r x (evE call b r e h)
  | _ => .bad
noncomputable def kSet3 (r : Env) (w ow : W) : R W → RS := fun x => ofR x r fun iw h3 => setW b r w ow iw h3
noncomputable def kSet2 (i : Ex) (r : Env) (w : W) : R W → RS := fun x => ofR x r fun ow h2 => kSet3 b r w ow (evE call b r i h2)
noncomputable def kSet1 (o i : Ex) (r : Env) : R W → RS := fun x => ofR x r fun w h1 => kSet2 call b i r w (evE call b r o h1)
noncomputable def kExp (r : Env) : R W → RS := fun x => ofR x r fun _ h1 => .nxt r h1
noncomputable def kRet (r : Env) : R W → RS := fun x => ofR x r fun w h1 => .ret w h1
noncomputable def kIf0 (x y : List St) (r : Env) (h1 : Hp) (o : Option Bool) : RS := tc o (evB call N b x r h1) (evB call N b y r h1) .bad
noncomputable def kIf (x y : List St) (r : Env) : R W → RS := fun q => ofR q r fun c h1 => kIf0 call N b x y r h1 (truthW h1 c)
noncomputable def kThen (ss : List St) : RS → RS := fun x => x.andThen fun r1 h1 => evB call N b ss r1 h1
noncomputable def forGo (t : Tg) (kill : List Nat) (body : List St) (ws : List W) (h1 : Hp) (its : List W) (r : Env) (h : Hp) : RS := forLoop (forB call N b t body) kill (fun h2 => sameAt h1 h2 ws) its r h
noncomputable def kFor0 (t : Tg) (kill : List Nat) (body : List St) (r : Env) (ws : List W) (h1 : Hp) (o : Option (List W)) : RS := match o with
  | none => .bad
  | some its => forGo call N b t kill body ws h1 its r h1
noncomputable def kFor (t : Tg) (k : ItK) (kill : List Nat) (body : List St) (r : Env) : R (List W) → RS := fun x => ofRs x r fun ws h1 => kFor0 call N b t kill body r ws h1 (itemsOf k (ws.map (deref h1)))
noncomputable def whGo (c : Ex) (kill : List Nat) (body : List St) (r : Env) (h : Hp) : RS := whileLoop (fun r2 h2 => evE call b r2 c h2) (fun r2 h2 => evB call N b body r2 h2) kill N r h
end
section
variable {call : Nat → Nat → List W → Hp → R W} {N b : Nat} {r : Env} {h : Hp} {w : W} {ws : List W} {x : W}
@[simp] theorem kPr_ok {m p} : kPr m p (.ok ws h) = runPrim m p ws h := (rfl)
@[simp] theorem kCons2_ok : kCons2 w (.ok ws h) = .ok (w :: ws) h := (rfl)
@[simp] theorem kCons_ok {es} : kCons call b r es (.ok w h) = kCons2 w (evEs call b r es h) := (rfl)
@[simp] theorem kAnd_ok {c} : kAnd call b r c (.ok x h) = kAnd0 call b r c x h (truthW h x) := (rfl)
@[simp] theorem kAnd0_t {c} : kAnd0 call b r c x h (some true) = evE call b r c h := (rfl)
@[simp] theorem kAnd0_f {c} : kAnd0 call b r c x h (some false) = .ok x h := (rfl)
@[simp] theorem kOr_ok {c} : kOr call b r c (.ok x h) = kOr0 call b r c x h (truthW h x) := (rfl)
@[simp] theorem kOr0_t {c} : kOr0 call b r c x h (some true) = .ok x h := (rfl)
@[simp] theorem kOr0_f {c} : kOr0 call b r c x h (some false) = evE call b r c h := (rfl)
@[simp] theorem kNot_ok : kNot (.ok x h) = R.ofO ((truthW h x).map fun k => .bl (!k)) h := (rfl)
@[simp] theorem kIte_ok {c e} : kIte call b r c e (.ok x h) = kIte0 call b r c e h (truthW h x) := (rfl)
@[simp] theorem kIte0_t {c e} : kIte0 call b r c e h (some true) = evE call b r c h := (rfl)
@[simp] theorem kIte0_f {c e} : kIte0 call b r c e h (some false) = evE call b r e h := (rfl)
@[simp] theorem kCall_ok {k} : kCall call b k (.ok ws h) = call b k ws h := (rfl)
@[simp] theorem kMth2_ok {m} : kMth2 b m x (.ok ws h) = runMth b m x ws h := (rfl)
@[simp] theorem kMth1_t {m es} : kMth1 call b r m x es h true = kMth2 b m x (evEs call b r es h) := (rfl)
@[simp] theorem kMth_ok {m es} : kMth call b r m es (.ok x h) = kMth1 call b r m x es h (recvOk m x h) := (rfl)
@[simp] theorem kLst_ok : kLst (.ok ws h) = .ok (.lst ws) h := (rfl)
@[simp] theorem kLc0_s {t tests e us} : kLc0 call b r t tests e us h (some ws) = kLst (lcGo call b r t tests e us h ws) := (rfl)
@[simp] theorem kLc_ok {t k tests e} : kLc call b r t k tests e (.ok ws h) = kLc0 call b r t tests e ws h (itemsOf k (ws.map (deref h))) := (rfl)
@[simp] theorem kLcM0_s {t tests e us} : kLcM0 call b r t tests e us h (some ws) = lcGoM call b r t tests e us h ws := (rfl)
@[simp] theorem kLcM_ok {t k tests e} : kLcM call b r t k tests e (.ok ws h) = kLcM0 call b r t tests e ws h (itemsOf k (ws.map (deref h))) := (rfl)
@[simp] theorem kAsg_ok {t} : kAsg t r (.ok w h) = nx (bindT t w r) h := (rfl)
@[simp] theorem kAug0_s {i z} : kAug0 i r h (some z) = .nxt (r.set i (some z)) h := (rfl)
@[simp] theorem kAug_ok {i p} : kAug i p r x (.ok w h) = kAug0 i r h (augP p x w) := (rfl)
@[simp] theorem kAug1_s {i p e} : kAug1 call b i p e r h (some (some x)) = kAug i p r x (evE call b r e h) := (rfl)
@[simp] theorem kSet3_ok {y} : kSet3 b r w y (.ok x h) = setW b r w y x h := (rfl)
@[simp] theorem kSet2_ok {i} : kSet2 call b i r w (.ok x h) = kSet3 b r w x (evE call b r i h) := (rfl)
@[simp] theorem kSet1_ok {o i} : kSet1 call b o i r (.ok w h) = kSet2 call b i r w (evE call b r o h) := (rfl)
@[simp] theorem kExp_ok : kExp r (.ok w h) = .nxt r h := (rfl)
@[simp] theorem kRet_ok : kRet r (.ok w h) = .ret w h := (rfl)
@[simp] theorem kIf0_t {x y} : kIf0 call N b x y r h (some true) = evB call N b x r h := (rfl)
@[simp] theorem kIf0_f {x y} : kIf0 call N b x y r h (some false) = evB call N b y r h := (rfl)
@[simp] theorem kIf_ok {x y} : kIf call N b x y r (.ok w h) = kIf0 call N b x y r h (truthW h w) := (rfl)
@[simp] theorem kThen_nxt {ss} : kThen call N b ss (.nxt r h) = evB call N b ss r h := (rfl)
@[simp] theorem kThen_ret {ss} : kThen call N b ss (.ret w h) = .ret w h := (rfl)
@[simp] theorem kThen_brk {ss} : kThen call N b ss (.brk r h) = .brk r h := (rfl)
@[simp] theorem kThen_cnt {ss} : kThen call N b ss (.cnt r h) = .cnt r h := (rfl)
@[simp] theorem kFor0_s {t kill body us} : kFor0 call N b t kill body r us h (some ws) = forGo call N b t kill body us h ws r h := (rfl)
@[simp] theorem kFor_ok {t k kill body} : kFor call N b t k kill body r (.ok ws h) = kFor0 call N b t kill body r ws h (itemsOf k (ws.map (deref h))) := (rfl)

@[simp] theorem e_pr (m : Bool) (p : Prim) (args : List Ex) : evE call b r (.pr m p args) h = kPr m p (evEs call b r args h) := e_pr_ m p args
@[simp] theorem e_and (a c : Ex) : evE call b r (.and_ a c) h = kAnd call b r c (evE call b r a h) := e_and_ a c
@[simp] theorem e_or (a c : Ex) : evE call b r (.or_ a c) h = kOr call b r c (evE call b r a h) := e_or_ a c
@[simp] theorem e_not (a : Ex) : evE call b r (.not_ a) h = kNot (evE call b r a h) := e_not_ a
@[simp] theorem e_ite (c x y : Ex) : evE call b r (.ite c x y) h = kIte call b r x y (evE call b r c h) := e_ite_ c x y
@[simp] theorem e_call (k : Nat) (args : List Ex) : evE call b r (.call k args) h = kCall call b k (evEs call b r args h) := e_call_ k args
@[simp] theorem e_mth (m : Mth) (o : Ex) (args : List Ex) : evE call b r (.mth m o args) h = kMth call b r m args (evE call b r o h) := e_mth_ m o args
@[simp] theorem e_cons (e : Ex) (es : List Ex) : evEs call b r (e :: es) h = kCons call b r es (evE call b r e h) := e_cons_ e es
@[simp] theorem e_lcF (t : Tg) (k : ItK) (srcs tests : List Ex) (e : Ex) : evE call b r (.lc false t k srcs tests e) h = kLc call b r t k tests e (evEs call b r srcs h) := by
  rw [e_lcF_]
  unfold kLc
  congr 1
@[simp] theorem e_lcT (t : Tg) (k : ItK) (srcs tests : List Ex) (e : Ex) : evE call b r (.lc true t k srcs tests e) h = kLcM call b r t k tests e (evEs call b r srcs h) := by
  rw [e_lcT_]
  unfold kLcM
  congr 1
@[simp] theorem e_frz (e : Ex) : evE call b r (.frz e) h = kFrz (evE call b r e h) := by rw [evE]; rfl
@[simp] theorem s_asg (t : Tg) (e : Ex) : evS call N b (.asg t e) r h = kAsg t r (evE call b r e h) := s_asg_ t e
@[simp] theorem s_aug (i : Nat) (p : Prim) (e : Ex) : evS call N b (.aug i p e) r h = kAug1 call b i p e r h r[i]? := by
  rw [evS]
  unfold kAug1
  rcases r[i]? with _ | _ | x <;> rfl
@[simp] theorem s_seti (o i e : Ex) : evS call N b (.seti o i e) r h = kSet1 call b o i r (evE call b r e h) := s_seti_ o i e
@[simp] theorem s_exp (e : Ex) : evS call N b (.exp e) r h = kExp r (evE call b r e h) := s_exp_ e
@[simp] theorem s_ret (e : Ex) : evS call N b (.ret e) r h = kRet r (evE call b r e h) := s_ret_ e
@[simp] theorem s_iff (c : Ex) (x y : List St) : evS call N b (.iff c x y) r h = kIf call N b x y r (evE call b r c h) := s_iff_ c x y
@[simp] theorem s_for (t : Tg) (k : ItK) (srcs : List Ex) (kill : List Nat) (body : List St) : evS call N b (.forr false t k srcs kill body) r h = kFor call N b t k kill body r (evEs call b r srcs h) := by
  rw [s_for_]
  unfold kFor
  congr 1
@[simp] theorem s_whl (c : Ex) (kill : List Nat) (body : List St) : evS call N b (.whl c kill body) r h = whGo call N b c kill body r h := by rw [evS]; rfl
@[simp] theorem s_brk : evS call N b .brk r h = .brk r h := by rw [evS]
@[simp] theorem s_cnt : evS call N b .cnt r h = .cnt r h := by rw [evS]
@[simp] theorem s_pass : evS call N b .pass r h = .nxt r h := by rw [evS]
@[simp] theorem b_cons (s : St) (ss : List St) : evB call N b (s :: ss) r h = kThen call N b ss (evS call N b s r h) := b_cons_ s ss
end
end Ow

/-! N2: heaps, primitives, loops as rules. -/
namespace Ow
open PySem

/-! ### reads of the heap -/
def drf (o : Option Obj) (n : Nat) : W := match o with
  | some (.lst ws) => .lst ws
  | some (.dic ks vs) => .dic ks vs
  | _ => .ref n
@[simp] theorem drf_l (ws : List W) (n : Nat) : drf (some (.lst ws)) n = .lst ws := (rfl)
@[simp] theorem deref_ref (h : Hp) (n : Nat) : deref h (.ref n) = drf h[n]? n := by
  unfold deref drf
  rfl
def isL (o : Option Obj) : Bool := match o with
  | some (.lst _) => true
  | _ => false
@[simp] theorem isL_l (ws : List W) : isL (some (.lst ws)) = true := (rfl)
section
variable {h : Hp} {n b : Nat} {x : W} {ws : List W} {i : Int} {z : Str}
@[simp] theorem rc_append : recvOk .append (.ref n) h = isL h[n]? := by simp only [recvOk]; rfl
@[simp] theorem rc_pop : recvOk .pop (.ref n) h = isL h[n]? := by simp only [recvOk]; rfl
@[simp] theorem rc_popAt : recvOk .popAt (.ref n) h = isL h[n]? := by simp only [recvOk]; rfl
@[simp] theorem rc_insert : recvOk .insert (.ref n) h = isL h[n]? := by simp only [recvOk]; rfl
@[simp] theorem rc_reverse : recvOk .reverse (.ref n) h = isL h[n]? := by simp only [recvOk]; rfl
@[simp] theorem rc_join : recvOk .join (.str z) h = true := (rfl)
def mApp (b n : Nat) (x : W) (h : Hp) (o : Option Obj) : R W := match o with
  | some (.lst ws) => if mayPut b n x && decide (ws.length < sizeLine) then .ok .non (h.set n (.lst (ws ++ [x]))) else .bad
  | _ => .bad
@[simp] theorem m_app : runMth b .append (.ref n) [x] h = mApp b n x h h[n]? := by
  simp only [runMth, mApp] <;> rfl
@[simp] theorem mApp_l : mApp b n x h (some (.lst ws)) = if mayPut b n x && decide (ws.length < sizeLine) then .ok .non (h.set n (.lst (ws ++ [x]))) else .bad := (rfl)
def mPop (n : Nat) (h : Hp) (o : Option Obj) : R W := match o with
  | some (.lst ws) => match ws.getLast? with
      | some x => .ok x (h.set n (.lst ws.dropLast))
      | none => .bad
  | _ => .bad
@[simp] theorem m_pop : runMth b .pop (.ref n) [] h = mPop n h h[n]? := by
  simp only [runMth, mPop] <;> rfl
def mIns (b n : Nat) (i : Int) (x : W) (h : Hp) (o : Option Obj) : R W := match o with
  | some (.lst ws) => if mayPut b n x && decide (ws.length < sizeLine) && decide (0 ≤ i ∧ i ≤ ws.length) then .ok .non (h.set n (.lst (ws.take i.toNat ++ x :: ws.drop i.toNat))) else .bad
  | _ => .bad
@[simp] theorem m_ins : runMth b .insert (.ref n) [.int i, x] h = mIns b n i x h h[n]? := by
  simp only [runMth, mIns] <;> rfl
@[simp] theorem mIns_l : mIns b n i x h (some (.lst ws)) = if mayPut b n x && decide (ws.length < sizeLine) && decide (0 ≤ i ∧ i ≤ ws.length) then .ok .non (h.set n (.lst (ws.take i.toNat ++ x :: ws.drop i.toNat))) else .bad := (rfl)
def mRev (n : Nat) (h : Hp) (o : Option Obj) : R W := match o with
  | some (.lst ws) => .ok .non (h.set n (.lst ws.reverse))
  | _ => .bad
@[simp] theorem m_rev : runMth b .reverse (.ref n) [] h = mRev n h h[n]? := by
  simp only [runMth, mRev] <;> rfl
@[simp] theorem mRev_l : mRev n h (some (.lst ws)) = .ok .non (h.set n (.lst ws.reverse)) := (rfl)
@[simp] theorem m_join : runMth b .join (.str z) [x] h = R.ofO ((items (deref h x)).bind (pJoin z)) h := by
  simp only [runMth]
  cases (items (deref h x)).bind (pJoin z) <;> rfl
/-- a new list that may be changed -/
def nObj (h : Hp) (o : Option W) : R W := match o with
  | some (.lst ws) => .ok (.ref h.length) (h ++ [.lst ws])
  | some (.dic ks vs) => .ok (.ref h.length) (h ++ [.dic ks vs])
  | _ => .bad
@[simp] theorem nObj_l : nObj h (some (.lst ws)) = .ok (.ref h.length) (h ++ [.lst ws]) := (rfl)
theorem rp_true {p : Prim} (f : p.fresh = true) : runPrim true p ws h = nObj h (primF p (if p.raw then ws else ws.map (deref h))) := by
  unfold runPrim nObj
  generalize primF p (if p.raw then ws else ws.map (deref h)) = o
  cases o with
  | none => rfl
  | some w => simp only [f, if_true]; cases w <;> rfl
@[simp] theorem rp_lstdT : runPrim true .lstd ws h = nObj h (primF .lstd ws) := rp_true rfl
@[simp] theorem rp_list1T : runPrim true .list1 ws h = nObj h (primF .list1 (ws.map (deref h))) := rp_true rfl
@[simp] theorem rp_sorted1T : runPrim true .sorted1 ws h = nObj h (primF .sorted1 (ws.map (deref h))) := rp_true rfl
@[simp] theorem rp_addT : runPrim true .add ws h = nObj h (primF .add (ws.map (deref h))) := rp_true rfl
@[simp] theorem rp_mulT : runPrim true .mul ws h = nObj h (primF .mul (ws.map (deref h))) := rp_true rfl
@[simp] theorem rp_rangeLT : runPrim true .rangeL ws h = nObj h (primF .rangeL (ws.map (deref h))) := rp_true rfl
@[simp] theorem rp_slT {a c : Bool} : runPrim true (.sl a c) ws h = nObj h (primF (.sl a c) (ws.map (deref h))) := rp_true rfl
end

def sW (b : Nat) (r : Env) (w : W) (n : Nat) (k : Int) (h : Hp) (o : Option Obj) : RS := match o with
  | some (.lst ws) => match ixOf ws.length k with
    | some j => if mayPut b n w then .nxt r (h.set n (.lst (ws.set j w))) else .bad
    | none => .bad
  | _ => .bad
@[simp] theorem setW_m {b n : Nat} {r : Env} {w : W} {k : Int} {h : Hp} : setW b r w (.ref n) (.int k) h = sW b r w n k h h[n]? := by
  unfold setW sW
  rfl
@[simp] theorem sW_l {b n j : Nat} {r : Env} {w : W} {h : Hp} {ws : List W} : sW b r w n (j : Int) h (some (.lst ws)) = if j < ws.length then (if mayPut b n w then .nxt r (h.set n (.lst (ws.set j w))) else .bad) else .bad := by
  unfold sW
  by_cases hj : j < ws.length
  · have := ixOf_ok (n := ws.length) (i := (j : Int)) (by omega) (by omega)
    rw [Int.toNat_natCast] at this
    simp only [this, hj, if_true]
  · have : ixOf ws.length (j : Int) = none := by
      unfold ixOf L2.ixN
      rw [if_pos (by omega), if_neg (by omega)]
    simp only [this, hj, if_false]
/-! ### primitives -/
theorem small64_ok {i : Int} (h : -18446744073709551616 < i ∧ i < 18446744073709551616) : small64 i = true := decide_eq_true ⟨by omega, by omega⟩
@[simp] theorem small64_lit {n : Nat} (h : n < 18446744073709551616) : small64 (no_index (OfNat.ofNat n) : Int) = true := small64_ok ⟨by
  have : (0 : Int) ≤ (n : Int) := by omega
  exact Int.lt_of_lt_of_le (by omega) this, by
  have : (n : Int) < 18446744073709551616 := by omega
  exact this⟩
section
variable {a : W} {ws vs : List W} {i j : Int} {n : Nat}
theorem size_100 : 100000 < sizeLine := size_big
theorem p_tupd (z : ws.length ≤ sizeLine) : primF .tupd ws = some (.tup ws) := by simp [primF, okLen, z]
theorem p_lstd (z : ws.length ≤ sizeLine) : primF .lstd ws = some (.lst ws) := by simp [primF, okLen, z]
theorem okLen_s {n : Nat} (h : n ≤ 100000) : okLen n = true := decide_eq_true (Nat.le_of_lt (Nat.lt_of_le_of_lt h size_big))
@[simp] theorem p_tup0 : primF .tupd [] = some (.tup []) := p_tupd (Nat.zero_le _)
@[simp] theorem p_tup1 {a} : primF .tupd [a] = some (.tup [a]) := p_tupd (by simp; have := size_big; omega)
@[simp] theorem p_tup2 {a b} : primF .tupd [a, b] = some (.tup [a, b]) := p_tupd (by simp; have := size_big; omega)
@[simp] theorem p_tup3 {a b c} : primF .tupd [a, b, c] = some (.tup [a, b, c]) := p_tupd (by simp; have := size_big; omega)
@[simp] theorem p_tup4 {a b c d} : primF .tupd [a, b, c, d] = some (.tup [a, b, c, d]) := p_tupd (by simp; have := size_big; omega)
@[simp] theorem p_tup5 {a b c d e} : primF .tupd [a, b, c, d, e] = some (.tup [a, b, c, d, e]) := p_tupd (by simp; have := size_big; omega)
@[simp] theorem p_lst0 : primF .lstd [] = some (.lst []) := p_lstd (Nat.zero_le _)
@[simp] theorem p_lst1 {a} : primF .lstd [a] = some (.lst [a]) := p_lstd (by simp; have := size_big; omega)
@[simp] theorem p_lst2 {a b} : primF .lstd [a, b] = some (.lst [a, b]) := p_lstd (by simp; have := size_big; omega)
@[simp] theorem p_lst3 {a b c} : primF .lstd [a, b, c] = some (.lst [a, b, c]) := p_lstd (by simp; have := size_big; omega)
@[simp] theorem p_lst4 {a b c d} : primF .lstd [a, b, c, d] = some (.lst [a, b, c, d]) := p_lstd (by simp; have := size_big; omega)
@[simp] theorem p_lst5 {a b c d e} : primF .lstd [a, b, c, d, e] = some (.lst [a, b, c, d, e]) := p_lstd (by simp; have := size_big; omega)
@[simp] theorem p_lst6 {a b c d e f} : primF .lstd [a, b, c, d, e, f] = some (.lst [a, b, c, d, e, f]) := p_lstd (by simp; have := size_big; omega)
@[simp] theorem p_isN : primF .isN [a] = some (.bl (isNon a)) := (rfl)
@[simp] theorem p_notN : primF .notN [a] = some (.bl (!isNon a)) := (rfl)
@[simp] theorem isNon_non : isNon .non = true := (rfl)
@[simp] theorem isNon_tup : isNon (.tup ws) = false := (rfl)
@[simp] theorem isNon_lst : isNon (.lst ws) = false := (rfl)
@[simp] theorem isNon_int : isNon (.int i) = false := (rfl)
@[simp] theorem isNon_bl {k} : isNon (.bl k) = false := (rfl)
@[simp] theorem isNon_str {k} : isNon (.str k) = false := (rfl)
@[simp] theorem p_addS {x y : Str} : primF .add [.str x, .str y] = if okLen (x.length + y.length) then some (.str (x ++ y)) else none := (rfl)
@[simp] theorem p_addT : primF .add [.tup ws, .tup vs] = if okLen (ws.length + vs.length) then some (.tup (ws ++ vs)) else none := (rfl)
@[simp] theorem p_addL : primF .add [.lst ws, .lst vs] = if okLen (ws.length + vs.length) then some (.lst (ws ++ vs)) else none := (rfl)
@[simp] theorem p_modI : primF .mod [.int i, .int j] = if j = 0 then none else some (.int (i.fmod j)) := (rfl)
@[simp] theorem p_mulI : primF .mul [.int i, .int j] = if small64 i || small64 j then some (.int (i * j)) else none := (rfl)
@[simp] theorem p_neg : primF .neg [.int i] = some (.int (-i)) := (rfl)
@[simp] theorem p_idx_t : primF .idx [.tup ws, .int i] = atW ws i := (rfl)
@[simp] theorem p_idx_l : primF .idx [.lst ws, .int i] = atW ws i := (rfl)
@[simp] theorem p_idx_sl : primF .idx [.slst ws, .int i] = atW ws i := (rfl)
@[simp] theorem atW_nat : atW ws (n : Int) = ws[n]? := by
  by_cases h : n < ws.length
  · rw [atW_ok (by omega) (by omega)]
    rfl
  · unfold atW L2.atI L2.ixN
    have h2 : ¬ ((n : Int) < (ws.length : Nat)) := by omega
    rw [if_pos (by omega), if_neg h2, List.getElem?_eq_none (by omega)]
    rfl
@[simp] theorem atW_0 : atW ws 0 = ws[0]? := atW_nat (n := 0)
@[simp] theorem atW_1 : atW ws 1 = ws[1]? := atW_nat (n := 1)
@[simp] theorem atW_lit : atW ws (no_index (OfNat.ofNat n) : Int) = ws[n]? := atW_nat (n := n)
@[simp] theorem p_lstI {x : W} : primF .list1 [x] = (items x).map .lst := (rfl)
@[simp] theorem p_tupI {x : W} : primF .tuple1 [x] = (items x).map .tup := (rfl)
@[simp] theorem items_l : items (.lst ws) = some ws := (rfl)
@[simp] theorem items_t : items (.tup ws) = some ws := (rfl)
@[simp] theorem items_s : items (.slst ws) = some ws := (rfl)
@[simp] theorem p_intB {k : Bool} : primF .int1 [.bl k] = some (.int (if k then 1 else 0)) := (rfl)
@[simp] theorem p_min2 : primF .min2 [.int i, .int j] = some (.int (if j < i then j else i)) := (rfl)
@[simp] theorem p_max2 : primF .max2 [.int i, .int j] = some (.int (if j > i then j else i)) := (rfl)
@[simp] theorem p_str : primF .str1 [.int i] = if i.natAbs.log2 < 1920 then some (.str (toString i)) else none := (rfl)
@[simp] theorem p_isi {T : Tk} {x : W} : primF (.isi T) [x] = (isiF T x).map .bl := (rfl)
@[simp] theorem p_rangeL : primF .rangeL [.int i] = if i ≤ 16777216 ∧ -(2 ^ 62) ≤ i then some (.lst ((List.range i.toNat).map fun i => .int (i : Nat))) else none := (rfl)
@[simp] theorem p_rangeT : primF .rangeT [.int i] = if i ≤ 16777216 ∧ -(2 ^ 62) ≤ i then some (.tup ((List.range i.toNat).map fun i => .int (i : Nat))) else none := (rfl)
@[simp] theorem isi_tup_non  : isiF .tup .non = some false := (rfl)
@[simp] theorem isi_tup_bl {k : Bool} : isiF .tup (.bl k) = some false := (rfl)
@[simp] theorem isi_tup_int {i : Int} : isiF .tup (.int i) = some false := (rfl)
@[simp] theorem isi_tup_str {z : Str} : isiF .tup (.str z) = some false := (rfl)
@[simp] theorem isi_tup_tup {ws : List W} : isiF .tup (.tup ws) = some true := (rfl)
@[simp] theorem isi_tup_lst {ws : List W} : isiF .tup (.lst ws) = some false := (rfl)
@[simp] theorem isi_tup_slst {ws : List W} : isiF .tup (.slst ws) = some false := (rfl)
@[simp] theorem isi_lst_non  : isiF .lst .non = some false := (rfl)
@[simp] theorem isi_lst_bl {k : Bool} : isiF .lst (.bl k) = some false := (rfl)
@[simp] theorem isi_lst_int {i : Int} : isiF .lst (.int i) = some false := (rfl)
@[simp] theorem isi_lst_str {z : Str} : isiF .lst (.str z) = some false := (rfl)
@[simp] theorem isi_lst_tup {ws : List W} : isiF .lst (.tup ws) = some false := (rfl)
@[simp] theorem isi_lst_lst {ws : List W} : isiF .lst (.lst ws) = some true := (rfl)
@[simp] theorem isi_lst_slst {ws : List W} : isiF .lst (.slst ws) = some true := (rfl)
@[simp] theorem isi_str_non  : isiF .str .non = some false := (rfl)
@[simp] theorem isi_str_bl {k : Bool} : isiF .str (.bl k) = some false := (rfl)
@[simp] theorem isi_str_int {i : Int} : isiF .str (.int i) = some false := (rfl)
@[simp] theorem isi_str_str {z : Str} : isiF .str (.str z) = some true := (rfl)
@[simp] theorem isi_str_tup {ws : List W} : isiF .str (.tup ws) = some false := (rfl)
@[simp] theorem isi_str_lst {ws : List W} : isiF .str (.lst ws) = some false := (rfl)
@[simp] theorem isi_str_slst {ws : List W} : isiF .str (.slst ws) = some false := (rfl)
@[simp] theorem isi_bool_non  : isiF .bool .non = some false := (rfl)
@[simp] theorem isi_bool_bl {k : Bool} : isiF .bool (.bl k) = some true := (rfl)
@[simp] theorem isi_bool_int {i : Int} : isiF .bool (.int i) = some false := (rfl)
@[simp] theorem isi_bool_str {z : Str} : isiF .bool (.str z) = some false := (rfl)
@[simp] theorem isi_bool_tup {ws : List W} : isiF .bool (.tup ws) = some false := (rfl)
@[simp] theorem isi_bool_lst {ws : List W} : isiF .bool (.lst ws) = some false := (rfl)
@[simp] theorem isi_bool_slst {ws : List W} : isiF .bool (.slst ws) = some false := (rfl)
@[simp] theorem isi_int_non  : isiF .int .non = some false := (rfl)
@[simp] theorem isi_int_bl {k : Bool} : isiF .int (.bl k) = some true := (rfl)
@[simp] theorem isi_int_int {i : Int} : isiF .int (.int i) = some true := (rfl)
@[simp] theorem isi_int_str {z : Str} : isiF .int (.str z) = some false := (rfl)
@[simp] theorem isi_int_tup {ws : List W} : isiF .int (.tup ws) = some false := (rfl)
@[simp] theorem isi_int_lst {ws : List W} : isiF .int (.lst ws) = some false := (rfl)
@[simp] theorem isi_int_slst {ws : List W} : isiF .int (.slst ws) = some false := (rfl)
@[simp] theorem p_neS {x y : Str} : primF .ne [.str x, .str y] = some (.bl (!decide (x = y))) := (rfl)
@[simp] theorem p_nei (a b : Int) : primF .ne [.int a, .int b] = some (.bl (!decide (a = b))) := by
  have : pEq (.int a) (.int b) = some (decide (a = b)) := by
    simp only [pEq, eqOk, isD, toD]
    rw [if_pos (by rfl)]
    congr 1
  show (pEq (.int a) (.int b)).map (fun c => W.bl (!c)) = _
  rw [this]; rfl
theorem cut_drop : cutW ws (some (n : Int)) none = ws.drop n := by
  unfold cutW
  rw [HT.sIx_nat, HT.sIx_none]
  by_cases h : n ≤ ws.length
  · rw [Nat.min_eq_left h, List.take_of_length_le (by rw [List.length_drop]; omega)]
  · rw [Nat.min_eq_right (by omega), List.drop_eq_nil_of_le (Nat.le_refl _), List.drop_eq_nil_of_le (by omega), List.take_nil]
theorem cut_take : cutW ws none (some (n : Int)) = ws.take n := by
  unfold cutW
  rw [HT.sIx_nat, HT.sIx_none]
  rw [List.drop_zero, Nat.sub_zero]
  by_cases h : n ≤ ws.length
  · rw [Nat.min_eq_left h]
  · rw [Nat.min_eq_right (by omega), List.take_of_length_le (Nat.le_refl _), List.take_of_length_le (by omega)]
@[simp] theorem p_slLo : primF (.sl true false) [.lst ws, .int i] = some (.lst (cutW ws (some i) none)) := (rfl)
@[simp] theorem p_slHi : primF (.sl false true) [.lst ws, .int i] = some (.lst (cutW ws none (some i))) := (rfl)
@[simp] theorem p_slLoT : primF (.sl true false) [.tup ws, .int i] = some (.tup (cutW ws (some i) none)) := (rfl)
@[simp] theorem p_slHiT : primF (.sl false true) [.tup ws, .int i] = some (.tup (cutW ws none (some i))) := (rfl)
@[simp] theorem cut_dropN : cutW ws (some (n : Int)) none = ws.drop n := cut_drop
@[simp] theorem cut_takeN : cutW ws none (some (n : Int)) = ws.take n := cut_take
@[simp] theorem cut_drop1 : cutW ws (some 1) none = ws.drop 1 := cut_drop (n := 1)
@[simp] theorem cut_take1 : cutW ws none (some 1) = ws.take 1 := cut_take (n := 1)
@[simp] theorem cut_dropL : cutW ws (some (no_index (OfNat.ofNat n) : Int)) none = ws.drop n := cut_drop (n := n)
@[simp] theorem cut_takeL : cutW ws none (some (no_index (OfNat.ofNat n) : Int)) = ws.take n := cut_take (n := n)
end
@[simp] theorem tr_bl (h : Hp) (k : Bool) : truthW h (.bl k) = some k := (rfl)
@[simp] theorem it_seq1 {x : W} : itemsOf .seq [x] = items x := (rfl)
theorem inR_s {i : Int} (h0 : -100000000 ≤ i) (h1 : i ≤ 100000000) : inR i = true := decide_eq_true ⟨by omega, by omega⟩
theorem it_rng1 {n : Nat} (h : n ≤ 100000000) : itemsOf .rng1 [.int n] = some ((List.range n).map fun i => .int (i : Nat)) := by
  simp only [itemsOf, inR_s (show -100000000 ≤ (n : Int) by omega) (show (n : Int) ≤ 100000000 by omega), if_true, Int.toNat_natCast]
@[simp] theorem it_rng1L {n : Nat} (h : n ≤ 100000000) : itemsOf .rng1 [.int (no_index (OfNat.ofNat n) : Int)] = some ((List.range n).map fun i => .int (i : Nat)) := it_rng1 h
/-! ### what a call gives back -/
theorem belowL_map {α : Type} {n : Nat} {f : α → W} (xs : List α) (h : ∀ x ∈ xs, below n (f x) = true) : belowL n (xs.map f) = true := by
  induction xs with
  | nil => rfl
  | cons x xs ih =>
    rw [List.map_cons]
    simp only [belowL, Bool.and_eq_true]
    exact ⟨h x (List.mem_cons_self ..), ih fun y hy => h y (List.mem_cons_of_mem _ hy)⟩
@[simp] theorem below_int {n : Nat} {i : Int} : below n (.int i) = true := (rfl)
@[simp] theorem below_bl {n : Nat} {i : Bool} : below n (.bl i) = true := (rfl)
@[simp] theorem below_str {n : Nat} {i : Str} : below n (.str i) = true := (rfl)
@[simp] theorem below_non {n : Nat} : below n .non = true := (rfl)
@[simp] theorem below_tup {n : Nat} {ws : List W} : below n (.tup ws) = belowL n ws := (rfl)
@[simp] theorem below_lst {n : Nat} {ws : List W} : below n (.lst ws) = belowL n ws := (rfl)
@[simp] theorem belowL_nil {n : Nat} : belowL n [] = true := (rfl)
@[simp] theorem belowL_cons {n : Nat} {w : W} {ws : List W} : belowL n (w :: ws) = (below n w && belowL n ws) := (rfl)
@[simp] theorem belowL_iv {n : Nat} {ns : List Int} : belowL n (ns.map W.int) = true := belowL_map _ fun _ _ => rfl
theorem end_val {n : Nat} {w : W} {h : Hp} (hw : below n w = true) : endCall false n w h = .ok w (h.take n) := by simp [endCall, hw]
theorem end_ref {n m : Nat} {h : Hp} {us : List W} (hm : n ≤ m) (e : h[m]? = some (.lst us)) (hu : belowL n us = true) : endCall false n (.ref m) h = .ok (.ref n) (h.take n ++ [.lst us]) := by
  have nb : ¬ (m < n) := by omega
  simp only [endCall, below, nb, decide_false, Bool.false_eq_true, if_false, e, hu, if_true]

/-! ### heaps in which the draws' list stands at a -/
structure Hd (H : List Int → Hp) (a n : Nat) : Prop where
  get : ∀ ds, (H ds)[a]? = some (.lst (iv ds))
  set : ∀ ds ds', (H ds).set a (.lst (iv ds')) = H ds'
  len : ∀ ds, (H ds).length = n
theorem Hd.lt {H : List Int → Hp} {a n : Nat} (hH : Hd H a n) : a < n := by
  have := (List.getElem?_eq_some_iff.mp (hH.get [])).1
  rw [hH.len] at this
  exact this
theorem Hd.base : Hd (fun ds => [.lst (iv ds)]) 0 1 := ⟨fun _ => rfl, fun _ _ => rfl, fun _ => rfl⟩
theorem Hd.app {H : List Int → Hp} {a n : Nat} (hH : Hd H a n) (X : Hp) : Hd (fun ds => H ds ++ X) a (n + X.length) where
  get := fun ds => by rw [List.getElem?_append_left (by rw [hH.len]; exact hH.lt)]; exact hH.get ds
  set := fun ds ds' => by rw [List.set_append_left _ _ (by rw [hH.len]; exact hH.lt), hH.set]
  len := fun ds => by rw [List.length_append, hH.len]
section
variable {H : List Int → Hp} {a n : Nat} (hH : Hd H a n) (ds : List Int) (X : Hp)
include hH
theorem Hd.getX : (H ds ++ X)[a]? = some (.lst (iv ds)) := (hH.app X).get ds
theorem Hd.at0 : (H ds ++ X)[n]? = X[0]? := by rw [List.getElem?_append_right (by rw [hH.len]; omega), hH.len, Nat.sub_self]
theorem Hd.at (i : Nat) : (H ds ++ X)[n + i]? = X[i]? := by
  rw [List.getElem?_append_right (by rw [hH.len]; omega), hH.len]
  congr 1
  omega
theorem Hd.st0 (o : Obj) : (H ds ++ X).set n o = H ds ++ X.set 0 o := by
  rw [List.set_append_right _ _ (by rw [hH.len]; omega), hH.len, Nat.sub_self]
theorem Hd.st (i : Nat) (o : Obj) : (H ds ++ X).set (n + i) o = H ds ++ X.set i o := by
  rw [List.set_append_right _ _ (by rw [hH.len]; omega), hH.len]
  congr 2
  omega
theorem Hd.take0 : (H ds ++ X).take n = H ds := by
  rw [List.take_append_of_le_length (by rw [hH.len]; omega), List.take_of_length_le (by rw [hH.len]; omega)]
theorem Hd.take1 : (H ds).take n = H ds := List.take_of_length_le (by rw [hH.len]; omega)
end
end Ow

/-! N3: loops; the draws. -/
namespace Ow
open PySem

section
variable (call : Nat → Nat → List W → Hp → R W) (N b : Nat)
noncomputable def kIt : R W → R (Option W) := fun x => x.bind fun y h3 => .ok (some y) h3
noncomputable def kTs0 (r : Env) (e : Ex) (h : Hp) (o : Option Bool) : R (Option W) := tc o (kIt (evE call b r e h)) (.ok none h) .bad
noncomputable def kTs (r : Env) (e : Ex) : R W → R (Option W) := fun x => x.bind fun c h => kTs0 call b r e h (truthW h c)
noncomputable def kLb (tests : List Ex) (e : Ex) (h : Hp) (o : Option Env) : R (Option W) := match o with
  | none => .bad
  | some r => match tests with
    | [] => kIt (evE call b r e h)
    | c :: _ => kTs call b r e (evE call b r c h)
noncomputable def kFb (body : List St) (h : Hp) (o : Option Env) : RS := match o with
  | none => .bad
  | some r => evB call N b body r h
end
section
variable {call : Nat → Nat → List W → Hp → R W} {N b : Nat} {r : Env} {h : Hp} {w : W} {ws : List W} {x : W} {t : Tg} {tests : List Ex} {e c : Ex} {body : List St}
@[simp] theorem kIt_ok : kIt (.ok x h) = .ok (some x) h := (rfl)
@[simp] theorem kTs_ok : kTs call b r e (.ok x h) = kTs0 call b r e h (truthW h x) := (rfl)
@[simp] theorem kTs0_t : kTs0 call b r e h (some true) = kIt (evE call b r e h) := (rfl)
@[simp] theorem kTs0_f : kTs0 call b r e h (some false) = .ok none h := (rfl)
@[simp] theorem kLb_0 : kLb call b [] e h (some r) = kIt (evE call b r e h) := (rfl)
@[simp] theorem kLb_1 : kLb call b [c] e h (some r) = kTs call b r e (evE call b r c h) := (rfl)
@[simp] theorem kFb_s : kFb call N b body h (some r) = evB call N b body r h := (rfl)
theorem lcB_m : lcB call b r t tests e w h = kLb call b tests e h (bindT t w (wipeE r t.names)) := by
  unfold lcB kLb
  cases bindT t w (wipeE r t.names) with
  | none => rfl
  | some r2 =>
    simp only
    cases tests with
    | nil => rfl
    | cons c cs =>
      simp only
      unfold kTs kTs0 kIt
      congr 1
theorem forB_m : forB call N b t body w r h = kFb call N b body h (bindT t w r) := by
  unfold forB kFb
  cases bindT t w r <;> rfl
@[simp] theorem tg_nm {i : Nat} : Tg.names (.nm i) = [i] := by rw [Tg.names]
@[simp] theorem same_nil {h h' : Hp} : sameAt h h' [] = True := (rfl)
@[simp] theorem same_int {h h' : Hp} {i : Int} : sameAt h h' (.int i :: ws) = sameAt h h' ws := (rfl)
@[simp] theorem same_tup {h h' : Hp} {us : List W} : sameAt h h' (.tup us :: ws) = sameAt h h' ws := (rfl)
@[simp] theorem same_lst {h h' : Hp} {us : List W} : sameAt h h' (.lst us :: ws) = sameAt h h' ws := (rfl)
@[simp] theorem same_slst {h h' : Hp} {us : List W} : sameAt h h' (.slst us :: ws) = sameAt h h' ws := (rfl)
@[simp] theorem same_ref {h h' : Hp} {n : Nat} : sameAt h h' (.ref n :: ws) = (h[n]? = h'[n]? ∧ sameAt h h' ws) := (rfl)
theorem same_refl {h : Hp} : ∀ ws, sameAt h h ws
  | [] => trivial
  | .ref n :: r => ⟨rfl, same_refl r⟩
  | .non :: r | .bl _ :: r | .int _ :: r | .str _ :: r | .tup _ :: r | .lst _ :: r | .slst _ :: r | .set _ :: r | .dic _ _ :: r | .ty _ :: r | .cls _ :: r | .exc _ _ :: r => same_refl (h := h) r
theorem then_step {ss : List St} {y : RS} {n : Nat} (P : R W → Prop) (hx : y = .nxt r h) (hp : P (endB n (evB call N b ss r h))) : P (endB n (kThen call N b ss y)) := by
  subst hx
  exact hp
end

/-! ### comprehensions -/
section
variable {call : Nat → Nat → List W → Hp → R W} {b : Nat} {r : Env} {t : Tg} {tests : List Ex} {e : Ex} {ws its : List W} {α β : Type} {q : R (List W)}
/-- a map, nothing changes -/
theorem lc_pure {h : Hp} (hq : lcGo call b r t tests e ws h its = q) (en : α → W) (g : α → W) (xs : List α) (hits : its = xs.map en) (st : ∀ x ∈ xs, lcB call b r t tests e (en x) h = .ok (some (g x)) h) (z : xs.length ≤ 100000) : q = .ok (xs.map g) h := by
  subst hq hits
  have key : ∀ (xs : List α) (acc : List W), (∀ x ∈ xs, lcB call b r t tests e (en x) h = .ok (some (g x)) h) → acc.length + xs.length ≤ sizeLine → lcLoop (lcB call b r t tests e) (fun h2 => sameAt h h2 ws) (xs.map en) acc h = .ok (acc ++ xs.map g) h := by
    intro xs
    induction xs with
    | nil => intro acc _ _; rw [List.map_nil, lc_nil, List.map_nil, List.append_nil]
    | cons x xs ih =>
      intro acc st z
      rw [List.length_cons] at z
      rw [List.map_cons, lc_cons_some (st x (List.mem_cons_self ..)) (same_refl ws) (by omega), ih (acc ++ [g x]) (fun y hy => st y (List.mem_cons_of_mem _ hy)) (by rw [List.length_append, List.length_singleton]; omega), List.append_assoc]
      rfl
  have := key xs [] st (by have := size_big; simp; omega)
  rw [List.nil_append] at this
  exact this
/-- with a test -/
theorem lc_pureF {h : Hp} (hq : lcGo call b r t tests e ws h its = q) (en : α → W) (p : α → Bool) (g : α → W) (xs : List α) (hits : its = xs.map en) (st : ∀ x ∈ xs, p x = true → lcB call b r t tests e (en x) h = .ok (some (g x)) h) (sf : ∀ x ∈ xs, p x = false → lcB call b r t tests e (en x) h = .ok none h) (z : xs.length ≤ 100000) :
    q = .ok ((xs.filter p).map g) h := by
  subst hq hits
  have key : ∀ (xs : List α) (acc : List W), (∀ x ∈ xs, p x = true → lcB call b r t tests e (en x) h = .ok (some (g x)) h) → (∀ x ∈ xs, p x = false → lcB call b r t tests e (en x) h = .ok none h) → acc.length + xs.length ≤ sizeLine → lcLoop (lcB call b r t tests e) (fun h2 => sameAt h h2 ws) (xs.map en) acc h = .ok (acc ++ (xs.filter p).map g) h := by
    intro xs
    induction xs with
    | nil => intro acc _ _ _; rw [List.map_nil, lc_nil, List.filter_nil, List.map_nil, List.append_nil]
    | cons x xs ih =>
      intro acc st sf z
      rw [List.length_cons] at z
      cases hp : p x with
      | true =>
        rw [List.map_cons, lc_cons_some (st x (List.mem_cons_self ..) hp) (same_refl ws) (by omega), ih (acc ++ [g x]) (fun y hy => st y (List.mem_cons_of_mem _ hy)) (fun y hy => sf y (List.mem_cons_of_mem _ hy)) (by rw [List.length_append, List.length_singleton]; omega), List.append_assoc, List.filter_cons_of_pos hp]
        rfl
      | false =>
        rw [List.map_cons, lc_cons_none (sf x (List.mem_cons_self ..) hp) (same_refl ws), ih acc (fun y hy => st y (List.mem_cons_of_mem _ hy)) (fun y hy => sf y (List.mem_cons_of_mem _ hy)) (by omega), List.filter_cons_of_neg (by rw [hp]; simp)]
  have := key xs [] st sf (by have := size_big; simp; omega)
  rw [List.nil_append] at this
  exact this
/-- with draws: each item's value -/
theorem lc_draw {h : Hp} (hq : lcGo call b r t tests e ws h its = q) (H : List Int → Hp) (ds : List Int) (hh : h = H ds) (kp : ∀ ds', sameAt (H ds) (H ds') ws) (en : α → W) (g : β → W) (P : α → β → Prop) (xs : List α) (hits : its = xs.map en) (st : ∀ x ∈ xs, ∀ ds, ∃ y ds', lcB call b r t tests e (en x) (H ds) = .ok (some (g y)) (H ds') ∧ P x y) (z : xs.length ≤ 100000) :
    ∃ (ys : List β) (ds' : List Int), q = .ok (ys.map g) (H ds') ∧ ys.length = xs.length ∧ ∀ y ∈ ys, ∃ x ∈ xs, P x y := by
  subst hq hits hh
  have key : ∀ (xs : List α) (acc : List W) (d : List Int), (∀ x ∈ xs, ∀ ds, ∃ y ds', lcB call b r t tests e (en x) (H ds) = .ok (some (g y)) (H ds') ∧ P x y) → acc.length + xs.length ≤ sizeLine → ∃ (ys : List β) (ds' : List Int), lcLoop (lcB call b r t tests e) (fun h2 => sameAt (H ds) h2 ws) (xs.map en) acc (H d) = .ok (acc ++ ys.map g) (H ds') ∧ ys.length = xs.length ∧ ∀ y ∈ ys, ∃ x ∈ xs, P x y := by
    intro xs
    induction xs with
    | nil => intro acc d _ _; exact ⟨[], d, by rw [List.map_nil, lc_nil, List.map_nil, List.append_nil], rfl, fun y hy => by cases hy⟩
    | cons x xs ih =>
      intro acc d st z
      rw [List.length_cons] at z
      obtain ⟨y, d1, e1, p1⟩ := st x (List.mem_cons_self ..) d
      obtain ⟨ys, d2, e2, l2, p2⟩ := ih (acc ++ [g y]) d1 (fun y hy => st y (List.mem_cons_of_mem _ hy)) (by rw [List.length_append, List.length_singleton]; omega)
      refine ⟨y :: ys, d2, ?_, by rw [List.length_cons, List.length_cons, l2], fun y' hy => ?_⟩
      · rw [List.map_cons, lc_cons_some e1 (kp d1) (by omega), e2, List.append_assoc]
        rfl
      · rcases List.mem_cons.mp hy with rfl | hy
        · exact ⟨x, List.mem_cons_self .., p1⟩
        · obtain ⟨x', hx', p'⟩ := p2 y' hy
          exact ⟨x', List.mem_cons_of_mem _ hx', p'⟩
  obtain ⟨ys, ds', e, l, p⟩ := key xs [] ds st (by have := size_big; simp; omega)
  rw [List.nil_append] at e
  exact ⟨ys, ds', e, l, p⟩
/-- with draws: some of the items -/
theorem lc_drawF {h : Hp} (hq : lcGo call b r t tests e ws h its = q) (H : List Int → Hp) (ds : List Int) (hh : h = H ds) (kp : ∀ ds', sameAt (H ds) (H ds') ws) (en : α → W) (g : α → W) (xs : List α) (hits : its = xs.map en) (st : ∀ x ∈ xs, ∀ ds, ∃ ds', lcB call b r t tests e (en x) (H ds) = .ok (some (g x)) (H ds') ∨ lcB call b r t tests e (en x) (H ds) = .ok none (H ds')) (z : xs.length ≤ 100000) :
    ∃ (ys : List α) (ds' : List Int), q = .ok (ys.map g) (H ds') ∧ ys.Sublist xs := by
  subst hq hits hh
  have key : ∀ (xs : List α) (acc : List W) (d : List Int), (∀ x ∈ xs, ∀ ds, ∃ ds', lcB call b r t tests e (en x) (H ds) = .ok (some (g x)) (H ds') ∨ lcB call b r t tests e (en x) (H ds) = .ok none (H ds')) → acc.length + xs.length ≤ sizeLine → ∃ (ys : List α) (ds' : List Int), lcLoop (lcB call b r t tests e) (fun h2 => sameAt (H ds) h2 ws) (xs.map en) acc (H d) = .ok (acc ++ ys.map g) (H ds') ∧ ys.Sublist xs := by
    intro xs
    induction xs with
    | nil => intro acc d _ _; exact ⟨[], d, by rw [List.map_nil, lc_nil, List.map_nil, List.append_nil], List.Sublist.refl _⟩
    | cons x xs ih =>
      intro acc d st z
      rw [List.length_cons] at z
      obtain ⟨d1, e1 | e1⟩ := st x (List.mem_cons_self ..) d
      · obtain ⟨ys, d2, e2, s2⟩ := ih (acc ++ [g x]) d1 (fun y hy => st y (List.mem_cons_of_mem _ hy)) (by rw [List.length_append, List.length_singleton]; omega)
        refine ⟨x :: ys, d2, ?_, s2.cons_cons x⟩
        rw [List.map_cons, lc_cons_some e1 (kp d1) (by omega), e2, List.append_assoc]
        rfl
      · obtain ⟨ys, d2, e2, s2⟩ := ih acc d1 (fun y hy => st y (List.mem_cons_of_mem _ hy)) (by omega)
        exact ⟨ys, d2, by rw [List.map_cons, lc_cons_none e1 (kp d1), e2], s2.cons x⟩
  obtain ⟨ys, ds', e, s⟩ := key xs [] ds st (by have := size_big; simp; omega)
  rw [List.nil_append] at e
  exact ⟨ys, ds', e, s⟩
/-- a comprehension whose heap is told by a state -/
theorem lc_st {σ : Type} {h : Hp} (hq : lcGo call b r t tests e ws h its = q) (en : α → W) (G : σ → Hp) (I : Nat → σ → List W → Prop) (xs : List α) (hits : its = xs.map en) (s : σ) (hh : h = G s) (h0 : I 0 s []) (kp : ∀ s i acc, I i s acc → sameAt h (G s) ws)
    (st : ∀ i x s acc, xs[i]? = some x → I i s acc → ∃ s' o, lcB call b r t tests e (en x) (G s) = .ok o (G s') ∧ I (i + 1) s' (acc ++ o.toList)) (z : xs.length ≤ 100000) :
    ∃ s' ys, q = .ok ys (G s') ∧ I xs.length s' ys ∧ ys.length ≤ xs.length := by
  subst hq hits hh
  have key : ∀ (xs : List α) (k : Nat) (s1 : σ) (acc : List W), (∀ i x s acc, xs[i]? = some x → I (k + i) s acc → ∃ s' o, lcB call b r t tests e (en x) (G s) = .ok o (G s') ∧ I (k + i + 1) s' (acc ++ o.toList)) → I k s1 acc → acc.length + xs.length ≤ sizeLine → 
      ∃ s' ys, lcLoop (lcB call b r t tests e) (fun h2 => sameAt (G s) h2 ws) (xs.map en) acc (G s1) = .ok ys (G s') ∧ I (k + xs.length) s' ys ∧ ys.length ≤ acc.length + xs.length := by
    intro xs
    induction xs with
    | nil => intro k s1 acc _ hI _; exact ⟨s1, acc, by rw [List.map_nil, lc_nil], hI, by simp⟩
    | cons x xs ih =>
      intro k s1 acc st hI z
      rw [List.length_cons] at z
      obtain ⟨s2, o, e1, hI1⟩ := st 0 x s1 acc rfl hI
      have hl : (acc ++ o.toList).length ≤ acc.length + 1 := by
        rw [List.length_append]
        cases o <;> simp
      obtain ⟨s3, ys, e2, hI2, l2⟩ := ih (k + 1) s2 (acc ++ o.toList) (fun i y s acc hy hI => by
        have e1 : k + 1 + i = k + (i + 1) := by omega
        have e2 : k + 1 + i + 1 = k + (i + 1) + 1 := by omega
        rw [e1] at hI
        rw [e2]
        exact st (i + 1) y s acc hy hI) hI1 (by omega)
      refine ⟨s3, ys, ?_, by rw [List.length_cons]; have e : k + (xs.length + 1) = k + 1 + xs.length := by omega
                             rw [e]; exact hI2, by rw [List.length_cons]; omega⟩
      cases o with
      | none =>
        rw [List.map_cons, lc_cons_none e1 (kp _ _ _ hI1)]
        simpa using e2
      | some y =>
        rw [List.map_cons, lc_cons_some e1 (kp _ _ _ hI1) (by omega)]
        simpa using e2
  obtain ⟨s', ys, e, hI, l⟩ := key xs 0 s [] (fun i x s acc hx hI => by
    rw [Nat.zero_add] at hI ⊢
    exact st i x s acc hx hI) h0 (by have := size_big; simp; omega)
  rw [Nat.zero_add] at hI
  exact ⟨s', ys, e, hI, by simpa using l⟩
/-- a new list that may be changed: some of the items, with draws -/
theorem lcM_drawF {n : Nat} {h : Hp} {q : R W} (hq : lcGoM call b r t tests e ws h its = q) (H : List Int → Hp) (ds : List Int) (hh : h = H ds) (hl : ∀ ds, (H ds).length = n) (kp : ∀ ds' acc, sameAt (H ds) (H ds' ++ [.lst acc]) ws) (en : α → W) (g : α → W) (xs : List α) (hits : its = xs.map en)
    (st : ∀ x ∈ xs, ∀ ds acc, ∃ ds', lcB call b r t tests e (en x) (H ds ++ [.lst acc]) = .ok (some (g x)) (H ds' ++ [.lst acc]) ∨ lcB call b r t tests e (en x) (H ds ++ [.lst acc]) = .ok none (H ds' ++ [.lst acc])) (z : xs.length ≤ 100000) :
    ∃ (ys : List α) (ds' : List Int), q = .ok (.ref n) (H ds' ++ [.lst (ys.map g)]) ∧ ys.Sublist xs := by
  subst hq hits hh
  have key : ∀ (xs : List α) (acc : List W) (d : List Int), (∀ x ∈ xs, ∀ ds acc, ∃ ds', lcB call b r t tests e (en x) (H ds ++ [.lst acc]) = .ok (some (g x)) (H ds' ++ [.lst acc]) ∨ lcB call b r t tests e (en x) (H ds ++ [.lst acc]) = .ok none (H ds' ++ [.lst acc])) → acc.length + xs.length ≤ sizeLine →
      ∃ (ys : List α) (ds' : List Int), lcLoopM (lcB call b r t tests e) (fun h2 => sameAt (H ds) h2 ws) (H ds).length (xs.map en) acc (H d ++ [.lst acc]) = .ok (.ref n) (H ds' ++ [.lst (acc ++ ys.map g)]) ∧ ys.Sublist xs := by
    intro xs
    induction xs with
    | nil => intro acc d _ _; exact ⟨[], d, by rw [List.map_nil, lcM_nil, List.map_nil, List.append_nil, hl], List.Sublist.refl _⟩
    | cons x xs ih =>
      intro acc d st z
      rw [List.length_cons] at z
      have hat : ∀ d1 (a : List W), (H d1 ++ [Obj.lst a])[(H ds).length]? = some (.lst a) := fun d1 a => by
        rw [hl, ← hl d1, List.getElem?_append_right (Nat.le_refl _), Nat.sub_self]
        rfl
      have hst : ∀ d1 (a a' : List W), (H d1 ++ [Obj.lst a]).set (H ds).length (.lst a') = H d1 ++ [.lst a'] := fun d1 a a' => by
        rw [hl, ← hl d1, List.set_append_right _ _ (Nat.le_refl _), Nat.sub_self]
        rfl
      obtain ⟨d1, e1 | e1⟩ := st x (List.mem_cons_self ..) d acc
      · obtain ⟨ys, d2, e2, s2⟩ := ih (acc ++ [g x]) d1 (fun y hy => st y (List.mem_cons_of_mem _ hy)) (by rw [List.length_append, List.length_singleton]; omega)
        refine ⟨x :: ys, d2, ?_, s2.cons_cons x⟩
        rw [List.map_cons, lcM_cons_some e1 (kp d1 acc) (hat _ _) (by omega), hst, e2, List.append_assoc]
        rfl
      · obtain ⟨ys, d2, e2, s2⟩ := ih acc d1 (fun y hy => st y (List.mem_cons_of_mem _ hy)) (by omega)
        exact ⟨ys, d2, by rw [List.map_cons, lcM_cons_none e1 (kp d1 acc) (hat _ _), e2], s2.cons x⟩
  obtain ⟨ys, ds', e, s⟩ := key xs [] ds st (by have := size_big; simp; omega)
  rw [List.nil_append] at e
  exact ⟨ys, ds', e, s⟩
end
/-! ### for -/
def wipeN (kill : List Nat) : RS → RS
  | .nxt r h => .nxt (wipeE r kill) h
  | .cnt r h => .nxt (wipeE r kill) h
  | x => x
@[simp] theorem wipeN_nxt {kill : List Nat} {r : Env} {h : Hp} : wipeN kill (.nxt r h) = .nxt (wipeE r kill) h := (rfl)
@[simp] theorem wipeN_cnt {kill : List Nat} {r : Env} {h : Hp} : wipeN kill (.cnt r h) = .nxt (wipeE r kill) h := (rfl)
open Classical in
theorem for_cnt {body : W → Env → Hp → RS} {kill : List Nat} {keep : Hp → Prop} {x : W} {xs : List W} {r r1 : Env} {h h1 : Hp} (e : body x (wipeE r kill) h = .cnt r1 h1) (k : keep h1) : forLoop body kill keep (x :: xs) r h = forLoop body kill keep xs r1 h1 := by
  rw [forLoop, e]
  simp only [k, if_true]
theorem for_next {body : W → Env → Hp → RS} {kill : List Nat} {keep : Hp → Prop} {x : W} {xs : List W} {r r1 : Env} {h h1 : Hp} (e : wipeN kill (body x (wipeE r kill) h) = .nxt r1 h1) (k : keep h1) : ∃ r2, wipeE r2 kill = r1 ∧ forLoop body kill keep (x :: xs) r h = forLoop body kill keep xs r2 h1 := by
  cases q : body x (wipeE r kill) h with
  | nxt r2 h2 =>
    rw [q] at e
    cases e
    exact ⟨r2, rfl, for_nxt q k⟩
  | cnt r2 h2 =>
    rw [q] at e
    cases e
    exact ⟨r2, rfl, for_cnt q k⟩
  | brk _ _ => rw [q] at e; cases e
  | ret _ _ => rw [q] at e; cases e
  | exc _ _ _ => rw [q] at e; cases e
  | bad => rw [q] at e; cases e
section
variable {call : Nat → Nat → List W → Hp → R W} {N b : Nat} {t : Tg} {kill : List Nat} {body : List St} {ws its : List W} {α σ : Type} {q : RS}
/-- a for whose slots and heap are told by a state -/
theorem for_st {h1 h : Hp} {r : Env} (hq : forGo call N b t kill body ws h1 its r h = q) (en : α → W) (E : σ → Env) (G : σ → Hp) (I : Nat → σ → Prop) (xs : List α) (hits : its = xs.map en) (s : σ) (hh : h = G s) (hr : wipeE r kill = E s) (h0 : I 0 s) (kp : ∀ s i, I i s → sameAt h1 (G s) ws)
    (st : ∀ i x s, xs[i]? = some x → I i s → ∃ s', wipeN kill (forB call N b t body (en x) (E s) (G s)) = .nxt (E s') (G s') ∧ I (i + 1) s') :
    ∃ s', q = .nxt (E s') (G s') ∧ I xs.length s' := by
  subst hq hits hh
  have key : ∀ (xs : List α) (k : Nat) (r : Env) (s : σ), (∀ i x s, xs[i]? = some x → I (k + i) s → ∃ s', wipeN kill (forB call N b t body (en x) (E s) (G s)) = .nxt (E s') (G s') ∧ I (k + i + 1) s') → I k s → wipeE r kill = E s →
      ∃ s', forLoop (forB call N b t body) kill (fun h2 => sameAt h1 h2 ws) (xs.map en) r (G s) = .nxt (E s') (G s') ∧ I (k + xs.length) s' := by
    intro xs
    induction xs with
    | nil => intro k r s _ hI hr; exact ⟨s, by rw [List.map_nil, for_nil, hr], hI⟩
    | cons x xs ih =>
      intro k r s st hI hr
      obtain ⟨s1, e1, hI1⟩ := st 0 x s rfl hI
      obtain ⟨r1, hr1, e3⟩ := for_next (body := forB call N b t body) (keep := fun h2 => sameAt h1 h2 ws) (xs := xs.map en) (r := r) (by rw [hr]; exact e1) (kp s1 _ hI1)
      obtain ⟨s2, e2, hI2⟩ := ih (k + 1) r1 s1 (fun i y s hy hI => by
        have e1 : k + 1 + i = k + (i + 1) := by omega
        have e2 : k + 1 + i + 1 = k + (i + 1) + 1 := by omega
        rw [e1] at hI
        rw [e2]
        exact st (i + 1) y s hy hI) hI1 hr1
      refine ⟨s2, ?_, ?_⟩
      · rw [List.map_cons, e3, e2]
      · rw [List.length_cons, ← Nat.add_assoc, Nat.add_right_comm]
        exact hI2
  obtain ⟨s', e, hI⟩ := key xs 0 r s (fun i x s hx hI => by
    rw [Nat.zero_add] at hI ⊢
    exact st i x s hx hI) h0 hr
  rw [Nat.zero_add] at hI
  exact ⟨s', e, hI⟩
end
/-! ### draws -/
def L_take : List St := [.iff (.pr false .eq [.pr false .len [.var 0], .cst (.int 0)]) [.ret (.cst (.int 0))] [], .ret (.pr false .mod [.pr false .int1 [.mth .pop (.var 0) []], .var 1])]
theorem take_run {T : List Def} {N d b k a n : Nat} {H : List Int → Hp} (i : Is T k 2 2 L_take) (hd : 1 ≤ d) (hH : Hd H a n) (ds : List Int) {m : Int} (hm : 0 < m) :
    ∃ (v : Nat) (ds' : List Int), evC T N d b k [.ref a, .int m] (H ds) = .ok (.int v) (H ds') ∧ (v : Int) < m := by
  obtain ⟨d, rfl⟩ : ∃ d', d = d' + 1 := ⟨d - 1, by omega⟩
  rw [i.run rfl]
  rcases List.eq_nil_or_concat ds with rfl | ⟨ds0, c, rfl⟩
  · refine ⟨0, [], ?_, hm⟩
    simp [L_take, hH.get, end_val, hH.len, hH.take1]
  · refine ⟨(c.fmod m).toNat, ds0, ?_, ?_⟩
    · have h0 : ¬ ((ds0.length : Int) + 1 = 0) := by omega
      have h1 : ¬ m = 0 := by omega
      have h2 : ((c.fmod m).toNat : Int) = c.fmod m := Int.toNat_of_nonneg (fmod_pos hm).1
      have hg := hH.get (ds0 ++ [c])
      have hs := hH.set (ds0 ++ [c]) ds0
      simp only [iv, List.map_append, List.map_cons, List.map_nil] at hg hs
      simp [L_take, hg, hs, h0, h1, h2, end_val, hH.len, hH.take1, mPop]
    · have := fmod_pos (a := c) hm
      omega
end Ow

/-! B1: the defs' bodies. -/
namespace Ow
open PySem
/-- words_of: 1 parameters, names 0 numbers 1 number -/
def P_words_of : List St := [.ret (.lc false (.nm 1) .seq [.var 0] [] (.pr false .str1 [.var 1]))]
/-- dependency_words: 1 parameters, names 0 dependency 1 words 2 part -/
def P_dependency_words (c_words_of : Nat) : List St := [.asg (.nm 1) (.pr false .lstd [.pr false .idx [.var 0, .cst (.int 0)], .pr false .str1 [.pr false .idx [.var 0, .cst (.int 1)]]]), .iff (.pr false .eq [.pr false .idx [.var 0, .cst (.int 0)], .cst (.str "joins")]) [.forr false (.nm 2) .seq [.pr false .idx [.var 0, .cst (.int 2)]] [2] [.asg (.nm 1) (.pr false .add [.pr false .add [.var 1, .pr false .lstd [.cst (.str "part")]], .call c_words_of [.var 2]])], .ret (.var 1)] [], .asg (.nm 1) (.pr false .add [.var 1, .call c_words_of [.pr false .idx [.var 0, .cst (.int 2)]]]), .iff (.pr false .eq [.pr false .idx [.var 0, .cst (.int 0)], .cst (.str "within")]) [.ret (.pr false .add [.pr false .add [.var 1, .pr false .lstd [.cst (.str "of"), .pr false .str1 [.pr false .idx [.var 0, .cst (.int 3)]]]], .call c_words_of [.pr false .idx [.var 0, .cst (.int 4)]]])] [], .ret (.pr false .add [.pr false .add [.var 1, .pr false .lstd [.cst (.str "to")]], .call c_words_of [.pr false .idx [.var 0, .cst (.int 3)]]])]
/-- write_book: 1 parameters, names 0 book 1 dependency -/
def P_write_book (c_dependency_words : Nat) : List St := [.ret (.mth .join (.cst (.str "")) [.lc false (.nm 1) .seq [.var 0] [] (.pr false .add [.mth .join (.cst (.str " ")) [.call c_dependency_words [.var 1]], .cst (.str "\n")])])]
/-- _law_draws: 2 parameters, names 0 script 1 many 2 cells 3 rest 4 draws_here 5 k 6 at 7 once 8 cell_here -/
def L_draws : List St := [.asg (.nm 2) (.lc true (.nm 8) .seq [.var 0] [] (.pr false .int1 [.var 8])), .iff (.pr false .eq [.pr false .len [.var 2], .cst (.int 0)]) [.exp (.mth .append (.var 2) [.cst (.int 0)])] [], .asg (.nm 3) (.pr true .list1 [.var 2]), .asg (.nm 4) (.pr true .lstd []), .forr false (.nm 5) .rng1 [.var 1] [5, 6, 7] [.asg (.nm 6) (.pr false .mod [.var 5, .pr false .len [.var 2]]), .iff (.pr false .ge [.pr false .idx [.var 2, .var 6], .pr false .pow [.cst (.int 10), .cst (.int 18)]]) [.exp (.mth .append (.var 4) [.pr false .mod [.pr false .int1 [.pr false .idx [.var 3, .var 6]], .cst (.int 1000)]]), .seti (.var 3) (.var 6) (.pr false .fdiv [.pr false .idx [.var 3, .var 6], .cst (.int 1000)])] [.asg (.nm 7) (.pr false .mod [.pr false .int1 [.pr false .add [.pr false .add [.pr false .mul [.pr false .idx [.var 2, .var 6], .cst (.int 48271)], .pr false .mul [.var 5, .cst (.int 69621)]], .cst (.int 11)]], .cst (.int 2147483647)]), .exp (.mth .append (.var 4) [.pr false .mod [.pr false .int1 [.pr false .add [.pr false .add [.pr false .mul [.var 7, .var 7], .pr false .mul [.cst (.int 3), .var 7]], .var 5]], .cst (.int 1000003)]])]], .exp (.mth .reverse (.var 4) []), .ret (.var 4)]
/-- _law_cell: 2 parameters, names 0 script 1 draws_here -/
def L_cell (c_take : Nat) : List St := [.iff (.pr false .eq [.pr false .len [.var 0], .cst (.int 0)]) [.ret (.cst (.int 0))] [], .ret (.pr false .int1 [.pr false .idx [.var 0, .call c_take [.var 1, .pr false .len [.var 0]]]])]
/-- _law_same: 2 parameters, names 0 actual 1 due 2 k -/
def L_same (c_same : Nat) : List St := [.iff (.or_ (.pr false (.isi .tup) [.var 1]) (.pr false (.isi .lst) [.var 1])) [.iff (.and_ (.pr false (.isi .tup) [.var 1]) (.not_ (.pr false (.isi .tup) [.var 0]))) [.ret (.cst (.bl false))] [], .iff (.and_ (.pr false (.isi .lst) [.var 1]) (.not_ (.pr false (.isi .lst) [.var 0]))) [.ret (.cst (.bl false))] [], .iff (.pr false .ne [.pr false .len [.var 0], .pr false .len [.var 1]]) [.ret (.cst (.bl false))] [], .forr false (.nm 2) .rng1 [.pr false .len [.var 1]] [2] [.iff (.not_ (.call c_same [.pr false .idx [.var 0, .var 2], .pr false .idx [.var 1, .var 2]])) [.ret (.cst (.bl false))] []], .ret (.cst (.bl true))] [], .iff (.pr false .isN [.var 1]) [.ret (.pr false .isN [.var 0])] [], .iff (.pr false (.isi .str) [.var 1]) [.ret (.and_ (.pr false (.isi .str) [.var 0]) (.pr false .eq [.var 0, .var 1]))] [], .iff (.pr false (.isi .bool) [.var 1]) [.ret (.and_ (.pr false (.isi .bool) [.var 0]) (.pr false .eq [.var 0, .var 1]))] [], .ret (.and_ (.pr false (.isi .int) [.var 0]) (.and_ (.not_ (.pr false (.isi .bool) [.var 0])) (.pr false .eq [.var 0, .var 1])))]
/-- _law_shuffled: 2 parameters, names 0 draws_here 1 row 2 found 3 item -/
def L_shuffled (c_take : Nat) : List St := [.asg (.nm 2) (.pr true .lstd []), .forr false (.nm 3) .seq [.var 1] [3] [.exp (.mth .insert (.var 2) [.call c_take [.var 0, .pr false .add [.pr false .len [.var 2], .cst (.int 1)]], .var 3])], .ret (.var 2)]
/-- _law_columns: 2 parameters, names 0 draws_here 1 width 2 share 3 column -/
def L_columns (c_take : Nat) : List St := [.asg (.nm 2) (.pr false .idx [.pr false .lstd [.cst (.int 2), .cst (.int 3), .cst (.int 4)], .call c_take [.var 0, .cst (.int 3)]]), .ret (.pr false .tuple1 [.lc false (.nm 3) .rng1 [.var 1] [.pr false .lt [.call c_take [.var 0, .cst (.int 6)], .var 2]] (.var 3)])]
/-- _law_scheme: 1 parameters, names 0 draws_here 1 many 2 widths 3 table -/
def L_scheme (c_take : Nat) : List St := [.asg (.nm 1) (.pr false .idx [.pr false .lstd [.cst (.int 1), .cst (.int 2), .cst (.int 2), .cst (.int 3)], .call c_take [.var 0, .cst (.int 4)]]), .asg (.nm 2) (.pr false .lstd [.cst (.int 3), .cst (.int 2), .cst (.int 4), .cst (.int 3), .cst (.int 1), .cst (.int 3)]), .iff (.pr false .eq [.call c_take [.var 0, .cst (.int 12)], .cst (.int 0)]) [.asg (.nm 1) (.cst (.int 6)), .asg (.nm 2) (.pr false .lstd [.cst (.int 7), .cst (.int 5), .cst (.int 3), .cst (.int 1), .cst (.int 2), .cst (.int 6)])] [], .ret (.pr false .tuple1 [.lc false (.nm 3) .rng1 [.var 1] [] (.pr false .idx [.var 2, .call c_take [.var 0, .cst (.int 6)]])])]
/-- _law_parts: 3 parameters, names 0 draws_here 1 width 2 most 3 many 4 rows 5 column 6 k 7 row -/
def L_parts (c_take : Nat) : List St := [.asg (.nm 3) (.pr false .add [.cst (.int 1), .call c_take [.var 0, .var 2]]), .asg (.nm 4) (.lc false (.nm 6) .rng1 [.var 3] [] (.lc true (.nm 5) .rng1 [.var 1] [.pr false .lt [.call c_take [.var 0, .cst (.int 5)], .cst (.int 2)]] (.var 5))), .forr false (.nm 5) .rng1 [.var 1] [] [.iff (.pr false .eq [.pr false .len [.lc false (.nm 7) .seq [.var 4] [.pr false .mem [.var 5, .var 7]] (.var 7)], .cst (.int 0)]) [.exp (.mth .append (.pr false .idx [.var 4, .call c_take [.var 0, .var 3]]) [.var 5])] []], .ret (.pr false .tuple1 [.lc false (.nm 7) .seq [.var 4] [.pr false .gt [.pr false .len [.var 7], .cst (.int 0)]] (.pr false .tuple1 [.pr false .sorted1 [.var 7]])])]
/-- _law_inclusion: 3 parameters, names 0 draws_here 1 scheme_here 2 order_here 3 first 4 table 5 other 6 many 7 columns_here 8 others 9 column -/
def L_inclusion (c_take c_shuffled : Nat) : List St := [.asg (.nm 3) (.call c_take [.var 0, .pr false .sub [.pr false .len [.var 2], .cst (.int 1)]]), .asg (.nm 4) (.pr false .idx [.var 2, .var 3]), .asg (.nm 5) (.pr false .idx [.var 2, .pr false .add [.pr false .add [.var 3, .cst (.int 1)], .call c_take [.var 0, .pr false .sub [.pr false .sub [.pr false .len [.var 2], .cst (.int 1)], .var 3]]]]), .asg (.nm 6) (.pr false .add [.cst (.int 1), .call c_take [.var 0, .pr false .min2 [.pr false .idx [.var 1, .var 4], .pr false .idx [.var 1, .var 5]]]]), .asg (.nm 7) (.pr false (.sl false true) [.call c_shuffled [.var 0, .lc false (.nm 9) .rng1 [.pr false .idx [.var 1, .var 4]] [] (.var 9)], .var 6]), .asg (.nm 8) (.pr false (.sl false true) [.call c_shuffled [.var 0, .lc false (.nm 9) .rng1 [.pr false .idx [.var 1, .var 5]] [] (.var 9)], .var 6]), .ret (.pr false .tupd [.cst (.str "within"), .var 4, .pr false .tuple1 [.var 7], .var 5, .pr false .tuple1 [.var 8]])]
/-- _law_dependency: 3 parameters, names 0 draws_here 1 scheme_here 2 order_here 3 kind 4 table -/
def L_dependency (c_take c_columns c_parts c_inclusion : Nat) : List St := [.asg (.nm 3) (.call c_take [.var 0, .cst (.int 9)]), .asg (.nm 4) (.call c_take [.var 0, .pr false .len [.var 1]]), .iff (.and_ (.pr false .lt [.var 3, .cst (.int 3)]) (.pr false .gt [.pr false .len [.var 1], .cst (.int 1)])) [.ret (.call c_inclusion [.var 0, .var 1, .var 2])] [], .iff (.pr false .lt [.var 3, .cst (.int 5)]) [.ret (.pr false .tupd [.cst (.str "joins"), .var 4, .call c_parts [.var 0, .pr false .idx [.var 1, .var 4], .cst (.int 4)]])] [], .iff (.pr false .lt [.var 3, .cst (.int 8)]) [.ret (.pr false .tupd [.cst (.str "deals"), .var 4, .call c_columns [.var 0, .pr false .idx [.var 1, .var 4]], .call c_columns [.var 0, .pr false .idx [.var 1, .var 4]]])] [], .ret (.pr false .tupd [.cst (.str "settles"), .var 4, .call c_columns [.var 0, .pr false .idx [.var 1, .var 4]], .call c_columns [.var 0, .pr false .idx [.var 1, .var 4]]])]
/-- _law_order: 2 parameters, names 0 draws_here 1 scheme_here 2 table -/
def L_order (c_shuffled : Nat) : List St := [.ret (.call c_shuffled [.var 0, .lc false (.nm 2) .rng1 [.pr false .len [.var 1]] [] (.var 2)])]
/-- _law_book: 3 parameters, names 0 draws_here 1 scheme_here 2 most 3 order_here 4 k -/
def L_book (c_take c_dependency c_order : Nat) : List St := [.asg (.nm 3) (.call c_order [.var 0, .var 1]), .ret (.pr false .tuple1 [.lc false (.nm 4) .rng1 [.call c_take [.var 0, .pr false .add [.var 2, .cst (.int 1)]]] [] (.call c_dependency [.var 0, .var 1, .var 3])])]
/-- _law_words: 1 parameters, names 0 dependency_here 1 words_here 2 part 3 column -/
def L_words : List St := [.asg (.nm 1) (.pr false .lstd [.pr false .idx [.var 0, .cst (.int 0)], .pr false .str1 [.pr false .idx [.var 0, .cst (.int 1)]]]), .iff (.pr false .eq [.pr false .idx [.var 0, .cst (.int 0)], .cst (.str "joins")]) [.forr false (.nm 2) .seq [.pr false .idx [.var 0, .cst (.int 2)]] [2] [.asg (.nm 1) (.pr false .add [.pr false .add [.var 1, .pr false .lstd [.cst (.str "part")]], .lc false (.nm 3) .seq [.var 2] [] (.pr false .str1 [.var 3])])], .ret (.var 1)] [], .asg (.nm 1) (.pr false .add [.var 1, .lc false (.nm 3) .seq [.pr false .idx [.var 0, .cst (.int 2)]] [] (.pr false .str1 [.var 3])]), .iff (.pr false .eq [.pr false .idx [.var 0, .cst (.int 0)], .cst (.str "within")]) [.ret (.pr false .add [.pr false .add [.var 1, .pr false .lstd [.cst (.str "of"), .pr false .str1 [.pr false .idx [.var 0, .cst (.int 3)]]]], .lc false (.nm 3) .seq [.pr false .idx [.var 0, .cst (.int 4)]] [] (.pr false .str1 [.var 3])])] [], .ret (.pr false .add [.pr false .add [.var 1, .pr false .lstd [.cst (.str "to")]], .lc false (.nm 3) .seq [.pr false .idx [.var 0, .cst (.int 3)]] [] (.pr false .str1 [.var 3])])]
/-- _law_lines: 1 parameters, names 0 book_here 1 dependency_here -/
def L_lines (c_words : Nat) : List St := [.ret (.lc false (.nm 1) .seq [.var 0] [] (.mth .join (.cst (.str " ")) [.call c_words [.var 1]]))]
/-- _law_large: 1 parameters, names 0 draws_here 1 scheme_here -/
def L_large (c_book : Nat) : List St := [.asg (.nm 1) (.pr false .mul [.pr false .tupd [.cst (.int 13)], .cst (.int 12)]), .ret (.pr false .lstd [.var 1, .call c_book [.var 0, .var 1, .cst (.int 30)]])]
/-- law: 1 parameters, names 0 script 1 draws_here 2 far 3 scheme_here 4 book_here 5 actual 6 line_of -/
def law_k05 (c_write_book c_draws c_take c_cell c_scheme c_book c_lines c_large : Nat) : List St := [.asg (.nm 1) (.call c_draws [.var 0, .cst (.int 1200)]), .asg (.nm 2) (.pr false .idx [.pr false .lstd [.pr false .add [.cst (.int 12), .pr false .mod [.pr false .int1 [.pr false .abs [.call c_cell [.var 0, .var 1]]], .pr false .pow [.cst (.int 10), .cst (.int 59)]]], .pr false .sub [.pr false .pow [.cst (.int 10), .cst (.int 60)], .cst (.int 2)]], .call c_take [.var 1, .cst (.int 2)]]), .asg (.nm 3) (.call c_scheme [.var 1]), .asg (.nm 4) (.call c_book [.var 1, .var 3, .cst (.int 6)]), .iff (.pr false .eq [.call c_take [.var 1, .cst (.int 6)], .cst (.int 0)]) [.asg (.nm 4) (.pr false .idx [.call c_large [.var 1], .cst (.int 1)])] [], .asg (.nm 4) (.pr false .add [.var 4, .pr false .tupd [.pr false .tupd [.cst (.str "deals"), .var 2, .pr false .tupd [.var 2], .pr false .tupd [.var 2, .pr false .add [.var 2, .cst (.int 1)]]], .pr false .tupd [.cst (.str "within"), .pr false .add [.var 2, .cst (.int 1)], .pr false .tupd [.var 2, .cst (.int 0)], .var 2, .pr false .tupd [.cst (.int 1), .var 2]]]]), .asg (.nm 5) (.call c_write_book [.var 4]), .iff (.or_ (.not_ (.pr false (.isi .str) [.var 5])) (.pr false .ne [.var 5, .mth .join (.cst (.str "")) [.lc false (.nm 6) .seq [.call c_lines [.var 4]] [] (.pr false .add [.var 6, .cst (.str "\n")])]])) [.ret (.cst (.bl false))] [], .ret (.and_ (.pr false .eq [.call c_write_book [.pr false .tupd []], .cst (.str "")]) (.pr false .eq [.call c_write_book [.pr false .tupd [.pr false .tupd [.cst (.str "deals"), .cst (.int 0), .pr false .tupd [], .pr false .tupd []]]], .cst (.str "deals 0 to\n")]))]

end Ow

/-! N4: the laws' helpers that draw. -/
namespace Ow
open PySem

abbrev nv (cs : List Nat) : List W := cs.map fun i => W.int (i : Nat)
@[simp] theorem belowL_nv {n : Nat} {cs : List Nat} : belowL n (cs.map fun i => W.int (i : Nat)) = true := belowL_map _ fun _ _ => (rfl)
@[simp] theorem belowL_nvs {n : Nat} {ps : List (List Nat)} : belowL n (ps.map fun p => W.tup (p.map fun i => W.int (i : Nat))) = true := belowL_map _ fun _ _ => belowL_nv
theorem nodup_len : ∀ (l D : List Nat), l.Nodup → (∀ x ∈ l, x ∈ D) → l.length ≤ D.length
  | [], _, _, _ => Nat.zero_le _
  | x :: l, D, hn, hs => by
    obtain ⟨h1, h2⟩ := List.nodup_cons.mp hn
    have hx : x ∈ D := hs x (List.mem_cons_self ..)
    have ih := nodup_len l (D.erase x) h2 fun y hy => by
      have hne : y ≠ x := fun e => h1 (e ▸ hy)
      exact (List.mem_erase_of_ne hne).2 (hs y (List.mem_cons_of_mem _ hy))
    have e := List.length_erase_of_mem hx
    have hp : 0 < D.length := List.length_pos_of_mem hx
    rw [List.length_cons]
    omega
theorem getI (l : List Int) (v : Nat) (h : (v : Int) < l.length) : ∃ s ∈ l, (l.map W.int)[v]? = some (.int s) :=
  ⟨l[v]'(by omega), List.getElem_mem _, by rw [List.getElem?_map, List.getElem?_eq_getElem (by omega)]; rfl⟩
theorem getN (l : List Nat) (v : Nat) (h : v < l.length) : ∃ s ∈ l, (nv l)[v]? = some (.int s) :=
  ⟨l[v], List.getElem_mem _, by rw [List.getElem?_map, List.getElem?_eq_getElem (by omega)]; rfl⟩
theorem getN2 (l : List Nat) (v : Nat) (h : v < l.length) : ∃ s ∈ l, (nv l)[v]? = some (.int s) ∧ l[v]? = some s :=
  ⟨l[v], List.getElem_mem _, by rw [List.getElem?_map, List.getElem?_eq_getElem (by omega)]; rfl, List.getElem?_eq_getElem h⟩
/-! ### data of whole numbers -/
theorem allInt_iv : ∀ ns : List Int, allInt (iv ns) = some ns
  | [] => rfl
  | n :: ns => by
    show (allInt (iv ns)).map (n :: ·) = _
    rw [allInt_iv ns]; rfl
theorem nv_iv (cs : List Nat) : nv cs = iv (cs.map fun c : Nat => (c : Int)) := by
  show _ = (cs.map fun c : Nat => (c : Int)).map W.int
  rw [List.map_map]; rfl
theorem p_sortI (ns : List Int) : primF .sorted1 [.lst (iv ns)] = some (.lst (iv (ns.mergeSort fun a b => decide (a ≤ b)))) := by
  show (pSort (iv ns)).map W.lst = _
  unfold pSort
  rw [allInt_iv]; rfl
theorem p_sortN (cs : List Nat) : primF .sorted1 [.lst (nv cs)] = some (.lst (nv (cs.mergeSort fun a b => decide (a ≤ b)))) := by
  rw [nv_iv, p_sortI, nv_iv]
  congr 3
  refine (List.map_mergeSort fun a _ b _ => ?_).symm
  simp
theorem all_flat : ∀ ns : List Int, (iv ns).all flatW = true
  | [] => rfl
  | n :: ns => by
    show (W.int n :: iv ns).all flatW = true
    rw [List.all_cons, all_flat ns]; rfl
theorem any_eqF (x : Int) : ∀ ns : List Int, (iv ns).any (fun y => eqF y (.int x)) = decide (x ∈ ns)
  | [] => by simp
  | n :: ns => by
    show (W.int n :: iv ns).any (fun y => eqF y (.int x)) = _
    rw [List.any_cons, any_eqF x ns]
    have : eqF (.int n) (.int x) = decide (x = n) := by
      show (n == x) = _
      by_cases h : x = n
      · subst h; simp
      · simp [h, Ne.symm h]
    rw [this]
    by_cases h : x = n <;> simp [h]
theorem memF (x : Int) (ns : List Int) : pMemF (.int x) (iv ns) = some (decide (x ∈ ns)) := by
  unfold pMemF
  rw [all_flat, any_eqF]; rfl
theorem p_memL (x : Int) (ns : List Int) : primF .mem [.int x, .lst (iv ns)] = some (.bl (decide (x ∈ ns))) := by
  have : pMem (.int x) (.lst (iv ns)) = some (decide (x ∈ ns)) := by
    simp only [pMem, memF]
  show (pMem (.int x) (.lst (iv ns))).map W.bl = _
  rw [this]; rfl
theorem p_memT (x : Int) (ns : List Int) : primF .mem [.int x, .tup (iv ns)] = some (.bl (decide (x ∈ ns))) := by
  have : pMem (.int x) (.tup (iv ns)) = some (decide (x ∈ ns)) := by
    simp only [pMem, memF]
  show (pMem (.int x) (.tup (iv ns))).map W.bl = _
  rw [this]; rfl
theorem mem_cast (x : Nat) (cs : List Nat) : ((x : Int) ∈ cs.map fun c : Nat => (c : Int)) ↔ x ∈ cs := by
  constructor
  · intro h
    obtain ⟨c, hc, e⟩ := List.mem_map.mp h
    have : c = x := by omega
    exact this ▸ hc
  · intro h
    exact List.mem_map.mpr ⟨x, h, rfl⟩
theorem p_memNL (x : Nat) (cs : List Nat) : primF .mem [.int x, .lst (nv cs)] = some (.bl (decide (x ∈ cs))) := by
  rw [nv_iv, p_memL]
  simp only [mem_cast]
theorem p_memNT (x : Nat) (cs : List Nat) : primF .mem [.int x, .tup (nv cs)] = some (.bl (decide (x ∈ cs))) := by
  rw [nv_iv, p_memT]
  simp only [mem_cast]

section
variable {T : List Def} {N d b k kt ks a n : Nat} {H : List Int → Hp}
theorem cell_run (it : Is T kt 2 2 L_take) (i : Is T k 2 2 (L_cell kt)) (hd : 2 ≤ d) (hH : Hd H a n) (ds : List Int) (ns : List Int) :
    ∃ (v : Int) (ds' : List Int), evC T N d b k [.slst (iv ns), .ref a] (H ds) = .ok (.int v) (H ds') := by
  obtain ⟨d, rfl⟩ : ∃ d', d = d' + 1 := ⟨d - 1, by omega⟩
  rw [i.run rfl]
  by_cases h0 : ns = []
  · subst h0
    exact ⟨0, ds, by simp [L_cell, hH.len, end_val, hH.take1]⟩
  · have hl : 0 < ns.length := List.length_pos_iff.mpr h0
    obtain ⟨v, d1, e1, h1⟩ := take_run (N := N) (b := n) it (by omega : 1 ≤ d) hH ds (m := ns.length) (by omega)
    obtain ⟨s, hs, es⟩ := getI ns v h1
    exact ⟨s, d1, by simp [L_cell, hH.len, e1, h0, es, end_val, hH.take1]⟩
theorem columns_run (it : Is T kt 2 2 L_take) (i : Is T k 2 4 (L_columns kt)) (hd : 2 ≤ d) (hH : Hd H a n) (ds : List Int) (w : Nat) (hw : w ≤ 1000) :
    ∃ (cs : List Nat) (ds' : List Int), evC T N d b k [.ref a, .int w] (H ds) = .ok (.tup (nv cs)) (H ds') ∧ cs.Sublist (List.range w) := by
  obtain ⟨d, rfl⟩ : ∃ d', d = d' + 1 := ⟨d - 1, by omega⟩
  rw [i.run rfl]
  obtain ⟨v, d1, e1, h1⟩ := take_run (N := N) (b := n) it (by omega : 1 ≤ d) hH ds (m := 3) (by omega)
  obtain ⟨s, hs, es⟩ := getI [2, 3, 4] v (by simpa using h1)
  simp only [List.map] at es
  simp [L_columns, hH.len, e1, es, it_rng1 (show w ≤ 100000000 by omega)]
  generalize hq : lcGo _ _ _ _ _ _ _ _ _ = q
  obtain ⟨cs, d2, rfl, h2⟩ := lc_drawF hq H d1 rfl (fun _ => by simp) (fun i : Nat => W.int i) (fun i : Nat => W.int i) (List.range w) rfl (fun x hx ds => by
    obtain ⟨v, d1, e1, h1⟩ := take_run (N := N) (b := n) it (by omega : 1 ≤ d) hH ds (m := 6) (by omega)
    refine ⟨d1, ?_⟩
    simp [lcB_m, e1]
    by_cases hv : (v : Int) < s <;> simp [hv]) (by simp; omega)
  refine ⟨cs, ⟨d2, ?_⟩, h2⟩
  simp [end_val, belowL_map, hH.take1]
theorem shuffled_run (it : Is T kt 2 2 L_take) (i : Is T k 2 4 (L_shuffled kt)) (hd : 2 ≤ d) (hH : Hd H a n) (ds : List Int) {row : W} {ws : List W} (hr : row = .lst ws ∨ row = .tup ws) (hw : belowL n ws = true) (hl : ws.length ≤ 1000) :
    ∃ (zs : List W) (ds' : List Int), evC T N d b k [.ref a, row] (H ds) = .ok (.ref n) (H ds' ++ [.lst zs]) ∧ zs.Perm ws := by
  obtain ⟨d, rfl⟩ : ∃ d', d = d' + 1 := ⟨d - 1, by omega⟩
  rw [i.run rfl]
  have e1 : itemsOf .seq [deref (H ds ++ [.lst []]) row] = some ws := by rcases hr with rfl | rfl <;> rfl
  have e2 : ∀ h h', sameAt h h' [row] := fun h h' => by rcases hr with rfl | rfl <;> trivial
  simp [L_shuffled, hH.len, -it_seq1, e1]
  generalize hq : forGo _ _ _ _ _ _ _ _ _ _ _ = q
  obtain ⟨⟨d1, zs⟩, rfl, h1⟩ := for_st hq id (fun _ : List Int × List W => [some (.ref a), some row, some (.ref n), none]) (fun s => H s.1 ++ [.lst s.2]) (fun i s => s.2.Perm (ws.take i)) ws (by simp) (ds, []) rfl (by simp) (by simp) (fun s i _ => e2 _ _) (fun i x s hx hI => by
    obtain ⟨ds, zs⟩ := s
    have hzl : zs.length ≤ ws.length := by
      have := hI.length_eq
      simp only [List.length_take] at this
      omega
    have hH1 := hH.app [.lst zs]
    obtain ⟨v, d1, e1, h1⟩ := take_run (N := N) (b := n) it (by omega : 1 ≤ d) hH1 ds (m := zs.length + 1) (by omega)
    have hz := size_big
    have hm : mayPut n n x = true := by simp [mayPut]
    refine ⟨(d1, zs.take v ++ x :: zs.drop v), ?_, ?_⟩
    · simp [forB_m, hH.at0, e1, hm]
      have c1 : zs.length < sizeLine := by omega
      have c2 : v ≤ zs.length := by omega
      simp [c1, c2, hH.st0]
    · refine (List.perm_middle).trans ?_
      rw [List.take_append_drop]
      have hx' : ws[i]? = some x := hx
      rw [List.take_succ, hx']
      exact (List.Perm.cons x hI).trans (List.perm_append_comm (l₁ := [x]))) 
  simp only [List.take_length] at h1
  refine ⟨zs, ⟨d1, ?_⟩, h1⟩
  have hb : belowL n zs = true := by
    have : ∀ ws : List W, belowL n ws = ws.all (below n) := fun ws => by
      induction ws with
      | nil => rfl
      | cons w ws ih => rw [belowL_cons, List.all_cons, ih]
    rw [this] at hw ⊢
    rw [List.all_eq_true] at hw ⊢
    exact fun x hx => hw x (h1.subset hx)
  simp [end_ref (Nat.le_refl n) (hH.at0 d1 [.lst zs]) hb, hH.take0]
end
end Ow

/-! N5: drawn schemes, parts, dependencies, books. -/
namespace Ow
open PySem

inductive Dep where
  | settles (t : Nat) (l r : List Nat)
  | deals (t : Nat) (l r : List Nat)
  | joins (t : Nat) (ps : List (List Nat))
  | within (t : Nat) (cs : List Nat) (o : Nat) (os : List Nat)
def Dep.w : Dep → W
  | .settles t l r => .tup [.str "settles", .int t, .tup (nv l), .tup (nv r)]
  | .deals t l r => .tup [.str "deals", .int t, .tup (nv l), .tup (nv r)]
  | .joins t ps => .tup [.str "joins", .int t, .tup (ps.map fun p => .tup (nv p))]
  | .within t cs o os => .tup [.str "within", .int t, .tup (nv cs), .int o, .tup (nv os)]
/-- parts that have every column together -/
structure PartsOk (w m : Nat) (ps : List (List Nat)) : Prop where
  len : ps.length ≤ m
  each : ∀ p ∈ ps, p ≠ [] ∧ p.Pairwise (· < ·) ∧ ∀ c ∈ p, c < w
  all : ∀ c, c < w → ∃ p ∈ ps, c ∈ p
structure SchemeOk (ws : List Nat) (many most : Nat) : Prop where
  ne : ws ≠ []
  len : ws.length ≤ many
  each : ∀ w ∈ ws, 1 ≤ w ∧ w ≤ most
def DepOk (ws : List Nat) (m : Nat) (order : List Nat) : Dep → Prop
  | .settles t l r => ∃ w, ws[t]? = some w ∧ l.Sublist (List.range w) ∧ r.Sublist (List.range w)
  | .deals t l r => ∃ w, ws[t]? = some w ∧ l.Sublist (List.range w) ∧ r.Sublist (List.range w)
  | .joins t ps => ∃ w, ws[t]? = some w ∧ PartsOk w m ps
  | .within t cs o os => ∃ w u, ws[t]? = some w ∧ ws[o]? = some u ∧ cs.Nodup ∧ (∀ c ∈ cs, c < w) ∧ os.Nodup ∧ (∀ c ∈ os, c < u) ∧ cs.length = os.length ∧ cs ≠ [] ∧ ∃ i j : Nat, i < j ∧ order[i]? = some t ∧ order[j]? = some o
@[simp] theorem Dep.below (n : Nat) : ∀ d : Dep, Ow.below n d.w = true
  | .settles _ _ _ => by simp [Dep.w, belowL_map]
  | .deals _ _ _ => by simp [Dep.w, belowL_map]
  | .joins _ _ => by simp [Dep.w, belowL_map]
  | .within _ _ _ _ => by simp [Dep.w, belowL_map]
section
variable {T : List Def} {N d b k kt ks a n : Nat} {H : List Int → Hp}
theorem scheme_run (it : Is T kt 2 2 L_take) (i : Is T k 1 4 (L_scheme kt)) (hd : 2 ≤ d) (hH : Hd H a n) (ds : List Int) :
    ∃ (ws : List Nat) (ds' : List Int), evC T N d b k [.ref a] (H ds) = .ok (.tup (nv ws)) (H ds') ∧ SchemeOk ws 6 7 := by
  obtain ⟨d, rfl⟩ : ∃ d', d = d' + 1 := ⟨d - 1, by omega⟩
  rw [i.run rfl]
  obtain ⟨v, d1, e1, h1⟩ := take_run (N := N) (b := n) it (by omega : 1 ≤ d) hH ds (m := 4) (by omega)
  obtain ⟨s, hs, es⟩ := getN [1, 2, 2, 3] v (by simp; omega)
  obtain ⟨u, d2, e2, h2⟩ := take_run (N := N) (b := n) it (by omega : 1 ≤ d) hH d1 (m := 12) (by omega)
  simp only [List.map, Int.cast_ofNat_Int] at es
  have key : ∀ (m : Nat) (l : List Nat) (lw : List W) (x y z : Option W) (us its : List W) (q : R (List W)), lcGo (evC T N d) n [some (.ref a), x, some (.lst lw), z] (.nm 3) [] (.pr false .idx [.var 2, .call kt [.var 0, .cst (.int 6)]]) us (H d2) its = q → us = [.int m] → lw = nv l → its = (List.range m).map (fun i => .int (i : Nat)) → 1 ≤ m → m ≤ 6 → l.length = 6 → (∀ w ∈ l, 1 ≤ w ∧ w ≤ 7) →
      ∃ (ws : List Nat) (ds' : List Int), q = .ok (nv ws) (H ds') ∧ SchemeOk ws 6 7 := by
    intro m l lw x y z us its q hq hus hlw hits hm hm2 hl hw
    subst hus hlw
    obtain ⟨ws, d2, rfl, h2, h3⟩ := lc_draw hq H d2 rfl (fun _ => by simp) (fun i : Nat => W.int i) (fun i : Nat => W.int i) (fun _ w => 1 ≤ w ∧ w ≤ 7) (List.range m) hits (fun x hx ds => by
      obtain ⟨v, d1, e1, h1⟩ := take_run (N := N) (b := n) it (by omega : 1 ≤ d) hH ds (m := 6) (by omega)
      obtain ⟨s, hs, es⟩ := getN l v (by omega)
      refine ⟨s, d1, ?_, hw s hs⟩
      simp only [lcB_m]
      simp [e1, es]) (by simp; omega)
    refine ⟨ws, d2, rfl, ?_, ?_, fun w hw => ?_⟩
    · rw [List.length_range] at h2
      intro e
      have h4 : ws.length = 0 := by rw [e]; rfl
      omega
    · rw [List.length_range] at h2
      omega
    · obtain ⟨x, _, hx⟩ := h3 w hw
      exact hx
  have hs2 : 1 ≤ s ∧ s ≤ 3 := by
    simp only [List.mem_cons, List.not_mem_nil, or_false] at hs
    omega
  by_cases h0 : u = 0
  · simp [L_scheme, hH.len, e1, es, e2, h0]
    generalize hq : lcGo _ _ _ _ _ _ _ _ _ = q
    obtain ⟨ws, d3, rfl, ok⟩ := key 6 [7, 5, 3, 1, 2, 6] _ _ none _ _ _ _ hq rfl rfl rfl (by omega) (by omega) rfl (by decide)
    exact ⟨ws, ⟨d3, by simp [end_val, belowL_map, hH.take1]⟩, ok⟩
  · simp [L_scheme, hH.len, e1, es, e2, h0, it_rng1 (show s ≤ 100000000 by omega)]
    generalize hq : lcGo _ _ _ _ _ _ _ _ _ = q
    obtain ⟨ws, d3, rfl, ok⟩ := key s [3, 2, 4, 3, 1, 3] _ _ none _ _ _ _ hq rfl rfl rfl (by omega) (by omega) rfl (by decide)
    exact ⟨ws, ⟨d3, by simp [end_val, belowL_map, hH.take1]⟩, ok⟩
theorem rows_at (hH : Hd H a n) (ds : List Int) (rows : List (List Nat)) (j : Nat) (hj : j < rows.length) : (H ds ++ rows.map fun r => Obj.lst (nv r))[n + j]? = some (.lst (nv (rows[j]?.getD []))) := by
  rw [hH.at, List.getElem?_map, List.getElem?_eq_getElem hj]
  rfl
theorem rows_set (hH : Hd H a n) (ds : List Int) (rows : List (List Nat)) (j : Nat) (r : List Nat) : (H ds ++ rows.map fun r => Obj.lst (nv r)).set (n + j) (.lst (nv r)) = H ds ++ (rows.set j r).map fun r => Obj.lst (nv r) := by
  rw [hH.st, List.map_set]
theorem getD_mem {rows : List (List Nat)} {j : Nat} (hj : j < rows.length) : rows[j]?.getD [] ∈ rows := by
  rw [List.getElem?_eq_getElem hj]
  exact List.getElem_mem hj
theorem mem_getD {rows : List (List Nat)} {r : List Nat} (hr : r ∈ rows) : ∃ j, j < rows.length ∧ rows[j]?.getD [] = r := by
  obtain ⟨j, hj, e⟩ := List.mem_iff_getElem.mp hr
  exact ⟨j, hj, by rw [List.getElem?_eq_getElem hj]; exact e⟩
theorem sort_lt {r : List Nat} (h : r.Nodup) : (r.mergeSort fun a b => decide (a ≤ b)).Pairwise (· < ·) := by
  have h1 := List.pairwise_mergeSort (le := fun a b : Nat => decide (a ≤ b)) (fun a b c => by simp; omega) (fun a b => by simp; omega) r
  have h2 : (r.mergeSort fun a b => decide (a ≤ b)).Nodup := (List.mergeSort_perm r _).nodup_iff.mpr h
  refine List.Pairwise.imp₂ (R := fun a b => decide (a ≤ b) = true) (S := fun a b => a ≠ b) (fun a b h1 h2 => ?_) h1 h2
  have := of_decide_eq_true h1
  omega
theorem parts_run (it : Is T kt 2 2 L_take) (i : Is T k 3 8 (L_parts kt)) (hd : 2 ≤ d) (hH : Hd H a n) (ds : List Int) (w m : Nat) (hw : 1 ≤ w ∧ w ≤ 1000) (hm : 1 ≤ m ∧ m ≤ 1000) :
    ∃ (ps : List (List Nat)) (ds' : List Int), evC T N d b k [.ref a, .int w, .int m] (H ds) = .ok (.tup (ps.map fun p => .tup (nv p))) (H ds') ∧ PartsOk w m ps := by
  obtain ⟨d, rfl⟩ : ∃ d', d = d' + 1 := ⟨d - 1, by omega⟩
  rw [i.run rfl]
  obtain ⟨v, d1, e1, h1⟩ := take_run (N := N) (b := n) it (by omega : 1 ≤ d) hH ds (m := m) (by omega)
  have e1v : (1 : Int) + (v : Int) = ((1 + v : Nat) : Int) := by omega
  have hv : 1 + v ≤ m := by omega
  generalize hmv : 1 + v = mv at e1v hv
  have hz := size_big
  simp [L_parts, hH.len, e1, e1v, it_rng1 (show mv ≤ 100000000 by omega)]
  generalize hq : lcGo _ _ _ _ _ _ _ _ _ = q
  obtain ⟨⟨d2, rows⟩, ys, rfl, ⟨hI1, hI2, hI3⟩, _⟩ := lc_st hq (fun i : Nat => W.int i) (fun s : List Int × List (List Nat) => H s.1 ++ s.2.map fun r => Obj.lst (nv r)) (fun i s acc => s.2.length = i ∧ acc = (List.range i).map (fun j => W.ref (n + j)) ∧ ∀ r ∈ s.2, r.Sublist (List.range w)) (List.range mv) rfl (d1, []) (by simp) ⟨rfl, rfl, fun r hr => by cases hr⟩ (fun s i acc _ => by simp) (fun i x s acc hx hI => by
    obtain ⟨ds, rows⟩ := s
    obtain ⟨hI1, hI2, hI3⟩ := hI
    simp only at hI1 hI2 hI3
    have hHr := hH.app (rows.map fun r => Obj.lst (nv r))
    simp [lcB_m, it_rng1 (show w ≤ 100000000 by omega)]
    generalize hq : lcGoM _ _ _ _ _ _ _ _ _ = q
    obtain ⟨r, d3, rfl, hs⟩ := lcM_drawF hq (fun ds => H ds ++ rows.map fun r => Obj.lst (nv r)) ds rfl (n := n + rows.length) (fun ds => by simp [hH.len]) (fun _ _ => by simp) (fun i : Nat => W.int i) (fun i : Nat => W.int i) (List.range w) rfl (fun x hx ds acc => by
      have hHa := hHr.app [.lst acc]
      obtain ⟨v, d1, e1, h1⟩ := take_run (N := N) (b := n) it (by omega : 1 ≤ d) hHa ds (m := 5) (by omega)
      refine ⟨d1, ?_⟩
      simp at e1
      simp [lcB_m, e1]
      by_cases hv : (v : Int) < 2 <;> simp [hv]) (by simp; omega)
    refine ⟨d3, rows ++ [r], ⟨some (.ref (n + rows.length)), ?_, ?_⟩⟩
    · simp
    · refine ⟨by simp [hI1], ?_, fun r' hr => ?_⟩
      · rw [hI2, List.range_succ]
        simp [hI1]
      · rcases List.mem_append.mp hr with hr | hr
        · exact hI3 r' hr
        · rw [List.mem_singleton.mp hr]
          exact hs) (by simp; omega)
  rw [List.length_range] at hI1 hI2
  simp only at hI1 hI2 hI3
  subst hI2
  have hItem : ∀ (ds : List Int) (rows : List (List Nat)), rows.length = mv → ∀ j, j < mv → (H ds ++ rows.map fun r => Obj.lst (nv r))[n + j]? = some (.lst (nv (rows[j]?.getD []))) := fun ds rows hl j hj => rows_at hH ds rows j (by omega)
  simp [it_rng1 (show w ≤ 100000000 by omega)]
  generalize hq : forGo _ _ _ _ _ _ _ _ _ _ _ = q
  obtain ⟨⟨d3, rows3, o3⟩, rfl, hJ1, hJ2, hJ3⟩ := for_st hq (fun i : Nat => W.int i) (fun s : List Int × List (List Nat) × Option W => [some (.ref a), some (.int w), some (.int m), some (.int mv), some (.lst ((List.range mv).map fun j => .ref (n + j))), s.2.2, none, none]) (fun s => H s.1 ++ s.2.1.map fun r => Obj.lst (nv r))
    (fun i s => s.2.1.length = mv ∧ (∀ r ∈ s.2.1, r.Nodup ∧ ∀ c ∈ r, c < w) ∧ ∀ c, c < i → ∃ r ∈ s.2.1, c ∈ r) (List.range w) rfl (d2, rows, none) rfl rfl
    ⟨hI1, fun r hr => ⟨(hI3 r hr).nodup List.nodup_range, fun c hc => List.mem_range.mp ((hI3 r hr).subset hc)⟩, fun c hc => by omega⟩ (fun s i _ => by simp) (fun i x s hx hI => by
    obtain ⟨ds, rows, o⟩ := s
    obtain ⟨hJ1, hJ2, hJ3⟩ := hI
    simp only at hJ1 hJ2 hJ3
    obtain ⟨hi, rfl⟩ : i < w ∧ i = x := by
      have := List.getElem?_eq_some_iff.mp hx
      obtain ⟨h1, h2⟩ := this
      rw [List.getElem_range] at h2
      rw [List.length_range] at h1
      exact ⟨h1, h2⟩
    have hat := hItem ds rows hJ1
    simp [forB_m, -Prod.exists]
    generalize hq : lcGo _ _ _ _ _ _ _ _ _ = q
    have e2 := lc_pureF hq (fun j : Nat => W.ref (n + j)) (fun j => decide (i ∈ rows[j]?.getD [])) (fun j : Nat => W.ref (n + j)) (List.range mv) rfl (fun j hj hp => by
      have hat' := hat j (List.mem_range.mp hj)
      simp only [decide_eq_true_eq] at hp
      simp only [lcB_m]
      simp [hat', p_memNL, hp]) (fun j hj hp => by
      have hat' := hat j (List.mem_range.mp hj)
      simp only [decide_eq_false_iff_not] at hp
      simp only [lcB_m]
      simp [hat', p_memNL, hp]) (by simp; omega)
    subst e2
    by_cases hc : ∃ r ∈ rows, i ∈ r
    · have hne : (List.range mv).filter (fun j => decide (i ∈ rows[j]?.getD [])) ≠ [] := by
        obtain ⟨r, hr, hir⟩ := hc
        obtain ⟨j, hj, e⟩ := mem_getD hr
        intro z
        have : j ∈ (List.range mv).filter (fun j => decide (i ∈ rows[j]?.getD [])) := List.mem_filter.mpr ⟨List.mem_range.mpr (by omega), by rw [e]; exact decide_eq_true hir⟩
        rw [z] at this
        cases this
      refine ⟨(ds, rows, some (.int i)), ?_, hJ1, hJ2, fun c hc' => ?_⟩
      · simp [hne]
      · by_cases e : c = i
        · rw [e]; exact hc
        · exact hJ3 c (by omega)
    · have he : (List.range mv).filter (fun j => decide (i ∈ rows[j]?.getD [])) = [] := by
        rw [List.filter_eq_nil_iff]
        intro j hj hp
        have hj' := List.mem_range.mp hj
        exact hc ⟨rows[j]?.getD [], getD_mem (by omega), of_decide_eq_true hp⟩
      have hHr := hH.app (rows.map fun r => Obj.lst (nv r))
      obtain ⟨u, d3, e3, h3⟩ := take_run (N := N) (b := n) it (by omega : 1 ≤ d) hHr ds (m := mv) (by omega)
      have hu : u < mv := by omega
      have hat2 := hItem d3 rows hJ1 u hu
      have hr3 := getD_mem (rows := rows) (j := u) (by omega)
      have hlen : (rows[u]?.getD []).length ≤ w := by
        have := (hJ2 _ hr3)
        have h4 := nodup_len _ (List.range w) this.1 fun c hc => List.mem_range.mpr (this.2 c hc)
        simpa using h4
      have hlt : (rows[u]?.getD []).length < sizeLine := by omega
      refine ⟨(d3, rows.set u (rows.getD u [] ++ [i]), some (.int i)), ?_, by simpa using hJ1, fun r hr => ?_, fun c hc' => ?_⟩
      · have hu2 : (List.range mv)[u]? = some u := by rw [List.getElem?_range hu]
        simp [he, e3, hu2, hat2, mayPut, hlt]
        rw [hH.st]
      · rcases List.mem_or_eq_of_mem_set hr with hr | hr
        · exact hJ2 r hr
        · obtain ⟨g1, g2⟩ := hJ2 _ hr3
          rw [hr]
          refine ⟨List.nodup_append.mpr ⟨g1, by simp, fun x hx y hy => ?_⟩, fun c hc' => ?_⟩
          · rw [List.mem_singleton.mp hy]
            intro e
            exact hc ⟨_, hr3, by rw [← e]; exact hx⟩
          · rcases List.mem_append.mp hc' with h | h
            · exact g2 c h
            · rw [List.mem_singleton.mp h]; exact hi
      · by_cases e : c = i
        · exact ⟨rows[u]?.getD [] ++ [i], List.mem_set (by omega) _, by rw [e]; simp⟩
        · obtain ⟨r, hr, hcr⟩ := hJ3 c (by omega)
          obtain ⟨j, hj, ej⟩ := mem_getD hr
          by_cases hju : j = u
          · exact ⟨rows[u]?.getD [] ++ [i], List.mem_set (by omega) _, by rw [← hju, ej]; exact List.mem_append_left _ hcr⟩
          · refine ⟨r, ?_, hcr⟩
            rw [List.mem_iff_getElem?]
            refine ⟨j, ?_⟩
            rw [List.getElem?_set_ne (Ne.symm hju), ← ej, List.getElem?_eq_getElem hj]
            rfl)
  rw [List.length_range] at hJ3
  simp only at hJ1 hJ2 hJ3
  have hat := hItem d3 rows3 hJ1
  simp
  generalize hq : lcGo _ _ _ _ _ _ _ _ _ = q
  have e2 := lc_pureF hq (fun j : Nat => W.ref (n + j)) (fun j => decide (0 < (rows3[j]?.getD []).length)) (fun j : Nat => W.tup (nv ((rows3[j]?.getD []).mergeSort fun a b => decide (a ≤ b)))) (List.range mv) rfl (fun j hj hp => by
      have hat' := hat j (List.mem_range.mp hj)
      simp only [decide_eq_true_eq] at hp
      simp only [lcB_m]
      simp [hat', hp, p_sortN]) (fun j hj hp => by
      have hat' := hat j (List.mem_range.mp hj)
      simp only [decide_eq_false_iff_not] at hp
      simp only [lcB_m]
      simp [hat', hp]) (by simp; omega)
  subst e2
  refine ⟨((List.range mv).filter fun j => decide (0 < (rows3[j]?.getD []).length)).map fun j => (rows3[j]?.getD []).mergeSort fun a b => decide (a ≤ b), ⟨d3, ?_⟩, ?_, fun p hp => ?_, fun c hc => ?_⟩
  · rw [List.map_map]
    simp [end_val, belowL_map, hH.take0]
  · rw [List.length_map]
    have := List.length_filter_le (fun j => decide (0 < (rows3[j]?.getD []).length)) (List.range mv)
    rw [List.length_range] at this
    omega
  · obtain ⟨j, hj, rfl⟩ := List.mem_map.mp hp
    obtain ⟨h3, h4⟩ := List.mem_filter.mp hj
    have h5 := of_decide_eq_true h4
    obtain ⟨g1, g2⟩ := hJ2 _ (getD_mem (rows := rows3) (j := j) (by have := List.mem_range.mp h3; omega))
    refine ⟨fun z => ?_, sort_lt g1, fun c hc => g2 c ((List.mergeSort_perm _ _).subset hc)⟩
    have := congrArg List.length z
    rw [List.length_mergeSort] at this
    simp at this
    rw [this] at h5
    simp at h5
  · obtain ⟨r, hr, hcr⟩ := hJ3 c hc
    obtain ⟨j, hj, e⟩ := mem_getD hr
    refine ⟨_, List.mem_map.mpr ⟨j, List.mem_filter.mpr ⟨List.mem_range.mpr (by omega), decide_eq_true ?_⟩, rfl⟩, ?_⟩
    · rw [e]
      exact List.length_pos_of_mem hcr
    · rw [e]
      exact (List.mergeSort_perm _ _).symm.subset hcr
end
end Ow

/-! N6: drawn dependencies, books. -/
namespace Ow
open PySem
section
variable {T : List Def} {N d b k kt ks kc kp ki a n m : Nat} {H : List Int → Hp}
theorem perm_nv {zs : List W} {cs : List Nat} (h : zs.Perm (nv cs)) : ∃ ds : List Nat, zs = nv ds ∧ ds.Perm cs := by
  have : ∀ z ∈ zs, ∃ c ∈ cs, z = W.int (c : Nat) := fun z hz => by
    obtain ⟨c, hc, e⟩ := List.mem_map.mp (h.subset hz)
    exact ⟨c, hc, e.symm⟩
  have key : ∀ zs : List W, (∀ z ∈ zs, ∃ c ∈ cs, z = W.int (c : Nat)) → ∃ ds : List Nat, zs = nv ds := by
    intro zs
    induction zs with
    | nil => intro _; exact ⟨[], rfl⟩
    | cons z zs ih =>
      intro hz
      obtain ⟨c, _, e⟩ := hz z (List.mem_cons_self ..)
      obtain ⟨ds, e2⟩ := ih fun y hy => hz y (List.mem_cons_of_mem _ hy)
      exact ⟨c :: ds, by rw [e, e2]; rfl⟩
  obtain ⟨ds, rfl⟩ := key zs this
  refine ⟨ds, rfl, ?_⟩
  have h2 := h.map (fun w => match w with | W.int i => i.toNat | _ => 0)
  simpa [nv, List.map_map, Function.comp_def] using h2
theorem take_nodup {ds cs : List Nat} (h : ds.Perm cs) (hc : cs.Nodup) (m : Nat) : (ds.take m).Nodup ∧ ∀ c ∈ ds.take m, c ∈ cs :=
  ⟨(List.take_sublist m ds).nodup (h.nodup_iff.mpr hc), fun c hc => h.subset ((List.take_sublist m ds).subset hc)⟩
theorem inclusion_run (it : Is T kt 2 2 L_take) (is : Is T ks 2 4 (L_shuffled kt)) (i : Is T k 3 10 (L_inclusion kt ks)) (hd : 3 ≤ d) (hH : Hd H a n) (ds : List Int) {ws order : List Nat} {many most : Nat} (hws : SchemeOk ws many most) (hmost : most ≤ 1000) (hwl : 2 ≤ ws.length)
    (ho : ∀ ds, (H ds)[m]? = some (.lst (nv order))) (hm : m < n) (hp : order.Perm (List.range ws.length)) :
    ∃ (t o : Nat) (cs os : List Nat) (ds' : List Int), evC T N d b k [.ref a, .tup (nv ws), .ref m] (H ds) = .ok (Dep.within t cs o os).w (H ds') ∧ DepOk ws 4 order (.within t cs o os) := by
  obtain ⟨d, rfl⟩ : ∃ d', d = d' + 1 := ⟨d - 1, by omega⟩
  rw [i.run rfl]
  have hol : order.length = ws.length := by simpa using hp.length_eq
  obtain ⟨f, d1, e1, h1⟩ := take_run (N := N) (b := n) it (by omega : 1 ≤ d) hH ds (m := (order.length : Int) - 1) (by omega)
  obtain ⟨t, ht, et, et'⟩ := getN2 order f (by omega)
  obtain ⟨g, d2, e2, h2⟩ := take_run (N := N) (b := n) it (by omega : 1 ≤ d) hH d1 (m := (order.length : Int) - 1 - f) (by omega)
  obtain ⟨fg, c1, hfg⟩ : ∃ fg : Nat, ((f : Int) + 1 + g) = (fg : Int) ∧ fg = f + 1 + g := ⟨f + 1 + g, by omega, rfl⟩
  obtain ⟨o, hoo, eo, eo'⟩ := getN2 order fg (by omega)
  have lt_of : ∀ x ∈ order, x < ws.length := fun x hx => List.mem_range.mp (hp.subset hx)
  have htl := lt_of t ht
  have hotl := lt_of o hoo
  obtain ⟨wt, hwt, ewt, ewt'⟩ := getN2 ws t htl
  obtain ⟨wo, hwo, ewo, ewo'⟩ := getN2 ws o hotl
  have w1 := hws.each wt hwt
  have w2 := hws.each wo hwo
  obtain ⟨mn, hmn, hm1, hm2, hm3⟩ : ∃ mn : Nat, (if wo < wt then (wo : Int) else (wt : Int)) = (mn : Int) ∧ 1 ≤ mn ∧ mn ≤ wt ∧ mn ≤ wo := by
    by_cases h : wo < wt
    · exact ⟨wo, by rw [if_pos h], by omega, by omega, by omega⟩
    · exact ⟨wt, by rw [if_neg h], by omega, by omega, by omega⟩
  obtain ⟨u, d3, e3, h3⟩ := take_run (N := N) (b := n) it (by omega : 1 ≤ d) hH d2 (m := mn) (by omega)
  obtain ⟨u1, c2, hu1⟩ : ∃ u1 : Nat, (1 : Int) + (u : Int) = (u1 : Int) ∧ u1 = 1 + u := ⟨1 + u, by omega, rfl⟩
  have hz := size_big
  simp only [L_inclusion]
  have r1 := it_rng1 (show wt ≤ 100000000 by omega)
  have r2 := it_rng1 (show wo ≤ 100000000 by omega)
  simp [hH.len, ho, e1, et, e2, c1, eo, ewt, ewo, hmn, e3, c2, r1]
  generalize hq : lcGo _ _ _ _ _ _ _ _ _ = q
  have q1 := lc_pure hq (fun i : Nat => W.int i) (fun i : Nat => W.int i) (List.range wt) rfl (fun x hx => by simp [lcB_m]) (by simp; omega)
  subst q1
  obtain ⟨zs, d4, e4, p4⟩ := shuffled_run (N := N) (b := n) it is (by omega : 2 ≤ d) hH d3 (row := .lst (nv (List.range wt))) (ws := nv (List.range wt)) (.inl rfl) (by simp) (by simp; omega)
  obtain ⟨cs, rfl, hcs⟩ := perm_nv p4
  have hH1 := hH.app [.lst (nv cs)]
  have ho1 : ∀ ds, (H ds ++ [Obj.lst (nv cs)])[m]? = some (.lst (nv order)) := fun ds => by
    rw [List.getElem?_append_left (by rw [hH.len]; exact hm)]
    exact ho ds
  simp [e4, hH.at0, ewo, r2]
  generalize hq : lcGo _ _ _ _ _ _ _ _ _ = q
  have q1 := lc_pure hq (fun i : Nat => W.int i) (fun i : Nat => W.int i) (List.range wo) rfl (fun x hx => by simp [lcB_m]) (by simp; omega)
  subst q1
  obtain ⟨zs, d5, e5, p5⟩ := shuffled_run (N := N) (b := n) it is (by omega : 2 ≤ d) hH1 d4 (row := .lst (nv (List.range wo))) (ws := nv (List.range wo)) (.inl rfl) (by simp) (by simp; omega)
  obtain ⟨os, rfl, hos⟩ := perm_nv p5
  simp at e5
  have hat : ((H d5 ++ [Obj.lst (nv cs)]) ++ [Obj.lst (nv os)])[n + 1]? = some (.lst (nv os)) := by
    rw [List.append_assoc, hH.at]; rfl
  have hcl : cs.length = wt := by simpa using hcs.length_eq
  have hos2 : os.length = wo := by simpa using hos.length_eq
  obtain ⟨n1, n2⟩ := take_nodup hcs List.nodup_range u1
  obtain ⟨n3, n4⟩ := take_nodup hos List.nodup_range u1
  simp at e5 hat
  refine ⟨t, o, cs.take u1, os.take u1, ⟨d5, ?_⟩, wt, wo, ?_, ?_, n1, fun c hc => List.mem_range.mp (n2 c hc), n3, fun c hc => List.mem_range.mp (n4 c hc), ?_, ?_, f, fg, by omega, ?_, ?_⟩
  · have hb : below n (Dep.within t (cs.take u1) o (os.take u1)).w = true := Dep.below n _
    simp [e5, hat]
    rw [← List.map_take, ← List.map_take]
    show endCall false n (Dep.within t (cs.take u1) o (os.take u1)).w _ = _
    rw [end_val hb, hH.take0]
  · exact ewt'
  · exact ewo'
  · simp [hcl, hos2]
    omega
  · intro z
    have := congrArg List.length z
    simp [hcl] at this
    omega
  · exact et'
  · exact eo'
theorem dependency_run (it : Is T kt 2 2 L_take) (is : Is T ks 2 4 (L_shuffled kt)) (ic : Is T kc 2 4 (L_columns kt)) (ip : Is T kp 3 8 (L_parts kt)) (ii : Is T ki 3 10 (L_inclusion kt ks)) (i : Is T k 3 5 (L_dependency kt kc kp ki)) (hd : 4 ≤ d) (hH : Hd H a n) (ds : List Int) {ws order : List Nat} {many most : Nat} (hws : SchemeOk ws many most) (hmost : most ≤ 1000)
    (ho : ∀ ds, (H ds)[m]? = some (.lst (nv order))) (hm : m < n) (hp : order.Perm (List.range ws.length)) :
    ∃ (dep : Dep) (ds' : List Int), evC T N d b k [.ref a, .tup (nv ws), .ref m] (H ds) = .ok dep.w (H ds') ∧ DepOk ws 4 order dep := by
  obtain ⟨d, rfl⟩ : ∃ d', d = d' + 1 := ⟨d - 1, by omega⟩
  rw [i.run rfl]
  obtain ⟨f, d1, e1, h1⟩ := take_run (N := N) (b := n) it (by omega : 1 ≤ d) hH ds (m := 9) (by omega)
  have hl : 0 < ws.length := List.length_pos_iff.mpr hws.ne
  obtain ⟨t, d2, e2, h2⟩ := take_run (N := N) (b := n) it (by omega : 1 ≤ d) hH d1 (m := ws.length) (by omega)
  obtain ⟨wt, hwt, ewt, ewt'⟩ := getN2 ws t (by omega)
  have w1 := hws.each wt hwt
  have fin : ∀ (dep : Dep) ds, endCall false n dep.w (H ds) = .ok dep.w (H ds) := fun dep ds => by rw [end_val (Dep.below n dep), hH.take1]
  by_cases c1 : f < 3 ∧ 1 < ws.length
  · obtain ⟨t, o, cs, os, d3, e3, h3⟩ := inclusion_run (N := N) (b := n) it is ii (by omega : 3 ≤ d) hH d2 hws hmost (by omega) ho hm hp
    have c2 : (f : Int) < 3 := by omega
    have c3 : (1 : Int) < ws.length := by omega
    refine ⟨_, d3, ?_, h3⟩
    simp [L_dependency, hH.len, e1, e2, c2, c3, e3, fin]
  · have pre : ∀ q : R W, endB n (kThen (evC T N d) N n
        [.iff (.pr false .lt [.var 3, .cst (.int 5)]) [.ret (.pr false .tupd [.cst (.str "joins"), .var 4, .call kp [.var 0, .pr false .idx [.var 1, .var 4], .cst (.int 4)]])] [], .iff (.pr false .lt [.var 3, .cst (.int 8)]) [.ret (.pr false .tupd [.cst (.str "deals"), .var 4, .call kc [.var 0, .pr false .idx [.var 1, .var 4]], .call kc [.var 0, .pr false .idx [.var 1, .var 4]]])] [], .ret (.pr false .tupd [.cst (.str "settles"), .var 4, .call kc [.var 0, .pr false .idx [.var 1, .var 4]], .call kc [.var 0, .pr false .idx [.var 1, .var 4]]])]
        (.nxt [some (.ref a), some (.tup (nv ws)), some (.ref m), some (.int f), some (.int t)] (H d2))) = q →
        endB n (evB (evC T N d) N n (L_dependency kt kc kp ki) [some (.ref a), some (.tup (nv ws)), some (.ref m), none, none] (H ds)) = q := fun q hq => by
      rw [← hq]
      by_cases c4 : f < 3
      · have c2 : (f : Int) < 3 := by omega
        have c6 : ¬ (1 : Int) < ws.length := fun z => c1 ⟨c4, by omega⟩
        simp only [L_dependency]
        simp [hH.len, e1, e2, c2, c6]
      · have c2 : ¬ (f : Int) < 3 := by omega
        simp only [L_dependency]
        simp [hH.len, e1, e2, c2]
    rw [hH.len]
    by_cases c3 : f < 5
    · obtain ⟨ps, d3, e3, h3⟩ := parts_run (N := N) (b := n) it ip (by omega : 2 ≤ d) hH d2 wt 4 (by omega) (by omega)
      refine ⟨.joins t ps, d3, pre _ ?_, wt, ewt', h3⟩
      have c5 : (f : Int) < 5 := by omega
      simp at e3
      simp [c5, ewt, e3]
      exact fin (.joins t ps) d3
    · obtain ⟨l, d3, e3, h3⟩ := columns_run (N := N) (b := n) it ic (by omega : 2 ≤ d) hH d2 wt (by omega)
      obtain ⟨r, d4, e4, h4⟩ := columns_run (N := N) (b := n) it ic (by omega : 2 ≤ d) hH d3 wt (by omega)
      have c5 : ¬ (f : Int) < 5 := by omega
      by_cases c6 : f < 8
      · refine ⟨.deals t l r, d4, pre _ ?_, wt, ewt', h3, h4⟩
        have c7 : (f : Int) < 8 := by omega
        simp [c5, c7, ewt, e3, e4]
        exact fin (.deals t l r) d4
      · refine ⟨.settles t l r, d4, pre _ ?_, wt, ewt', h3, h4⟩
        have c7 : ¬ (f : Int) < 8 := by omega
        simp [c5, c7, ewt, e3, e4]
        exact fin (.settles t l r) d4
theorem order_run {ws : List Nat} (it : Is T kt 2 2 L_take) (is : Is T ks 2 4 (L_shuffled kt)) (i : Is T k 2 3 (L_order ks)) (hd : 3 ≤ d) (hH : Hd H a n) (ds : List Int) (hw : ws.length ≤ 1000) :
    ∃ (order : List Nat) (ds' : List Int), evC T N d b k [.ref a, .tup (nv ws)] (H ds) = .ok (.ref n) (H ds' ++ [.lst (nv order)]) ∧ order.Perm (List.range ws.length) := by
  obtain ⟨d, rfl⟩ : ∃ d', d = d' + 1 := ⟨d - 1, by omega⟩
  rw [i.run rfl]
  simp [L_order, hH.len, it_rng1 (show ws.length ≤ 100000000 by omega)]
  generalize hq : lcGo _ _ _ _ _ _ _ _ _ = q
  have q1 := lc_pure hq (fun i : Nat => W.int i) (fun i : Nat => W.int i) (List.range ws.length) rfl (fun x hx => by simp [lcB_m]) (by simp; omega)
  subst q1
  obtain ⟨zs, d4, e4, p4⟩ := shuffled_run (N := N) (b := n) it is (by omega : 2 ≤ d) hH ds (row := .lst (nv (List.range ws.length))) (ws := nv (List.range ws.length)) (.inl rfl) (by simp) (by simp; omega)
  obtain ⟨cs, rfl, hcs⟩ := perm_nv p4
  refine ⟨cs, ⟨d4, ?_⟩, hcs⟩
  simp [e4]
  rw [end_ref (Nat.le_refl n) (by rw [hH.at0]; rfl) (by simp), hH.take0]
/-- a book's dependencies -/
theorem book_run {kd ko : Nat} (it : Is T kt 2 2 L_take) (is : Is T ks 2 4 (L_shuffled kt)) (ic : Is T kc 2 4 (L_columns kt)) (ip : Is T kp 3 8 (L_parts kt)) (ii : Is T ki 3 10 (L_inclusion kt ks)) (id_ : Is T kd 3 5 (L_dependency kt kc kp ki)) (io : Is T ko 2 3 (L_order ks)) (i : Is T k 3 5 (L_book kt kd ko)) (hd : 5 ≤ d) (hH : Hd H a n) (ds : List Int) {ws : List Nat} {many most mo : Nat} (hws : SchemeOk ws many most) (hmany : many ≤ 1000) (hmost : most ≤ 1000) (hmo : mo ≤ 1000) :
    ∃ (order : List Nat) (book : List Dep) (ds' : List Int), evC T N d b k [.ref a, .tup (nv ws), .int mo] (H ds) = .ok (.tup (book.map Dep.w)) (H ds') ∧ order.Perm (List.range ws.length) ∧ book.length ≤ mo ∧ ∀ dep ∈ book, DepOk ws 4 order dep := by
  obtain ⟨d, rfl⟩ : ∃ d', d = d' + 1 := ⟨d - 1, by omega⟩
  rw [i.run rfl]
  have hwl := hws.len
  obtain ⟨order, d1, e1, h1⟩ := order_run (N := N) (b := n) (ws := ws) it is io (by omega : 3 ≤ d) hH ds (by omega)
  have hH1 := hH.app [.lst (nv order)]
  obtain ⟨v, d2, e2, h2⟩ := take_run (N := N) (b := n) it (by omega : 1 ≤ d) hH1 d1 (m := (mo : Int) + 1) (by omega)
  simp [L_book, hH.len, e1, e2, it_rng1 (show v ≤ 100000000 by omega)]
  generalize hq : lcGo _ _ _ _ _ _ _ _ _ = q
  obtain ⟨book, d3, rfl, h3, h4⟩ := lc_draw hq (fun ds => H ds ++ [.lst (nv order)]) d2 rfl (fun _ => by simp) (fun i : Nat => W.int i) Dep.w (fun _ dep => DepOk ws 4 order dep) (List.range v) rfl (fun x hx ds => by
    obtain ⟨dep, d3, e3, h3⟩ := dependency_run (N := N) (b := n) (m := n) it is ic ip ii id_ (by omega : 4 ≤ d) hH1 ds hws hmost (fun ds => by rw [hH.at0]; rfl) (by simp) h1
    refine ⟨dep, d3, ?_, h3⟩
    simp [lcB_m, e3]) (by simp; omega)
  refine ⟨order, book, ⟨d3, ?_⟩, h1, ?_, fun dep hdep => ?_⟩
  · simp [end_val, belowL_map, hH.take0]
  · rw [h3, List.length_range]
    omega
  · obtain ⟨x, _, hx⟩ := h4 dep hdep
    exact hx
end
end Ow

/-! N7: the draws' list. -/
namespace Ow
open PySem
section
variable {T : List Def} {N d b k : Nat}
theorem hp_at {h : Hp} {X : List Obj} (i : Nat) : (h ++ X)[h.length + i]? = X[i]? := by
  rw [List.getElem?_append_right (by omega)]
  congr 1
  omega
theorem hp_at0 {h : Hp} {X : List Obj} : (h ++ X)[h.length]? = X[0]? := hp_at 0
theorem hp_st {h : Hp} {X : List Obj} (i : Nat) (o : Obj) : (h ++ X).set (h.length + i) o = h ++ X.set i o := by
  rw [List.set_append_right _ _ (by omega)]
  congr 2
  omega
theorem hp_st0 {h : Hp} {X : List Obj} (o : Obj) : (h ++ X).set h.length o = h ++ X.set 0 o := hp_st 0 o
/-- a copy of a list of numbers, as a list that may be changed -/
theorem lcM_copy {call : Nat → Nat → List W → Hp → R W} {b : Nat} {r : Ow.Env} {t : Tg} {tests : List Ex} {e : Ex} {ws its : List W} {h : Hp} {q : R W} (hq : lcGoM call b r t tests e ws h its = q) {α : Type} (en : α → W) (g : α → W) (xs : List α) (hits : its = xs.map en) (kp : ∀ acc, sameAt h (h ++ [.lst acc]) ws)
    (st : ∀ x ∈ xs, ∀ acc, lcB call b r t tests e (en x) (h ++ [.lst acc]) = .ok (some (g x)) (h ++ [.lst acc])) (z : xs.length ≤ 100000) : q = .ok (.ref h.length) (h ++ [.lst (xs.map g)]) := by
  subst hq hits
  have key : ∀ (xs : List α) (acc : List W), (∀ x ∈ xs, ∀ acc, lcB call b r t tests e (en x) (h ++ [.lst acc]) = .ok (some (g x)) (h ++ [.lst acc])) → acc.length + xs.length ≤ sizeLine →
      lcLoopM (lcB call b r t tests e) (fun h2 => sameAt h h2 ws) h.length (xs.map en) acc (h ++ [.lst acc]) = .ok (.ref h.length) (h ++ [.lst (acc ++ xs.map g)]) := by
    intro xs
    induction xs with
    | nil => intro acc _ _; rw [List.map_nil, lcM_nil, List.map_nil, List.append_nil]
    | cons x xs ih =>
      intro acc st z
      rw [List.length_cons] at z
      rw [List.map_cons, lcM_cons_some (st x (List.mem_cons_self ..) acc) (kp acc) (hp_at0) (by omega), hp_st0]
      have := ih (acc ++ [g x]) (fun y hy => st y (List.mem_cons_of_mem _ hy)) (by rw [List.length_append, List.length_singleton]; omega)
      rw [List.append_assoc] at this
      exact this
  have := key xs [] st (by have := size_big; simp; omega)
  rw [List.nil_append] at this
  exact this
theorem draws_run {h : Hp} {ns : List Int} {m : Nat} (i : Is T k 2 9 L_draws) (hd : 1 ≤ d) (hn : ns.length ≤ 1000) (hm : m ≤ 2000) :
    ∃ ds, evC T N d b k [.slst (iv ns), .int m] h = .ok (.ref h.length) (h ++ [.lst (iv ds)]) := by
  obtain ⟨d, rfl⟩ : ∃ d', d = d' + 1 := ⟨d - 1, by omega⟩
  rw [i.run rfl]
  simp only [L_draws]
  simp
  generalize hq : lcGoM _ _ _ _ _ _ _ _ _ = q
  have q1 := lcM_copy hq W.int W.int ns rfl (fun _ => by simp) (fun x _ acc => by simp [lcB_m]) (by omega)
  subst q1
  have hz := size_big
  obtain ⟨cs, hcs⟩ : ∃ cs : List Int, cs = if ns = [] then [0] else ns := ⟨_, rfl⟩
  have hc0 : 0 < cs.length := by
    rw [hcs]
    split
    · simp
    · exact List.length_pos_iff.mpr (by assumption)
  have hc1 : cs.length ≤ 1000 := by
    rw [hcs]
    split
    · simp
    · exact hn
  simp
  refine then_step (P := fun q => ∃ ds, q = .ok (.ref h.length) (h ++ [.lst (iv ds)])) (r := [some (.slst (iv ns)), some (.int m), some (.ref h.length), none, none, none, none, none, none]) (h := h ++ [.lst (iv cs)]) ?_ ?_
  · by_cases h0 : ns = []
    · simp only [h0] at hcs ⊢
      simp [hcs, hp_at0, hp_st0, mayPut]
      rw [if_pos (by omega)]
      simp
    · simp only [h0] at hcs
      simp [hcs, hp_at0, h0]
  simp [hp_at0, it_rng1 (show m ≤ 100000000 by omega)]
  generalize hq : forGo _ _ _ _ _ _ _ _ _ _ _ = q
  obtain ⟨⟨rs, ds⟩, rfl, hI1, hI2⟩ := for_st hq (fun i : Nat => W.int i) (fun s : List Int × List Int => [some (.slst (iv ns)), some (.int m), some (.ref h.length), some (.ref (h.length + 1)), some (.ref (h.length + 2)), none, none, none, none]) (fun s => h ++ [.lst (iv cs), .lst (iv s.1), .lst (iv s.2)]) (fun i s => s.1.length = cs.length ∧ s.2.length = i) (List.range m) rfl (cs, []) (by simp) rfl ⟨rfl, rfl⟩ (fun s i _ => by simp) (fun i x s hx hI => by
    obtain ⟨rs, ds⟩ := s
    obtain ⟨hI1, hI2⟩ := hI
    simp only at hI1 hI2
    obtain ⟨hi, rfl⟩ : i < m ∧ i = x := by
      obtain ⟨h1, h2⟩ := List.getElem?_eq_some_iff.mp hx
      rw [List.getElem_range] at h2
      rw [List.length_range] at h1
      exact ⟨h1, h2⟩
    obtain ⟨j, ej, hj⟩ : ∃ j : Nat, (i : Int).fmod cs.length = (j : Int) ∧ j < cs.length := by
      have := fmod_pos (a := (i : Int)) (m := (cs.length : Int)) (by omega)
      exact ⟨((i : Int).fmod cs.length).toNat, by omega, by omega⟩
    obtain ⟨cv, _, ec⟩ := getI cs j (by omega)
    have hjr : j < rs.length := by omega
    have er := iv_get (ds := rs) (i := j) hjr
    have c0 : ¬ (cs.length : Int) = 0 := by omega
    have c1 : ¬ cs = [] := fun z => by rw [z] at hc0; simp at hc0
    have c2 : ds.length < sizeLine := by omega
    have c3 : j < rs.length := by omega
    by_cases hb : 1000000000000000000 ≤ cv
    · refine ⟨(rs.set j ((rs[j]'hjr).fdiv 1000), ds ++ [(rs[j]'hjr).fmod 1000]), ?_, by simpa using hI1, by simp [hI2]⟩
      simp only [forB_m]
      simp [hp_at0, hp_at, hp_st, c0, c1, ej, ec, er, pow18, hb, mayPut, c2, c3, p_fdiv, List.map_set]
    · obtain ⟨v1, hv1⟩ : ∃ v, (cv * 48271 + (i : Int) * 69621 + 11).fmod 2147483647 = v := ⟨_, rfl⟩
      obtain ⟨k1, k2⟩ := fmod_pos (a := cv * 48271 + (i : Int) * 69621 + 11) (m := 2147483647) (by omega)
      rw [hv1] at k1 k2
      have s1 : small64 v1 = true := small64_ok ⟨by omega, by omega⟩
      refine ⟨(rs, ds ++ [(v1 * v1 + 3 * v1 + (i : Int)).fmod 1000003]), ?_, hI1, by simp [hI2]⟩
      simp only [forB_m]
      simp [hp_at0, hp_at, hp_st, c0, c1, ej, ec, er, pow18, hb, mayPut, c2, c3, hv1, s1])
  rw [List.length_range] at hI2
  refine ⟨ds.reverse, ?_⟩
  simp [hp_at, hp_st]
  rw [end_ref (us := iv ds.reverse) (by omega) (by rw [hp_at]; simp) belowL_iv]
  simp
end
end Ow

/-! N2b: data with a Lean type: ==, in, sorted, set. -/
namespace Ow
open PySem SetF

/-- values that stand for the x : α, one for each, nested at most k deep -/
structure Dt {α : Type} [DecidableEq α] (en : α → W) (k : Nat) : Prop where
  d : ∀ x, isD (en x) = true
  c : ∀ x, (toD (en x)).canLay0 = true
  dp : ∀ x, (toD (en x)).depth ≤ k
  e : ∀ x y, PyData.eqv (toD (en x)) (toD (en y)) = decide (x = y)
section
variable {α : Type} [DecidableEq α] {en : α → W} {k : Nat}
theorem toD_int (i : Int) : toD (.int i) = .int i := by rw [toD]
theorem toD_tup (ws : List W) : toD (.tup ws) = .tuple (ws.map toD) := by rw [toD]
theorem toD_lst (ws : List W) : toD (.lst ws) = .list (ws.map toD) := by rw [toD]
theorem Dt.int : Dt W.int 0 := ⟨fun _ => by simp [isD], fun _ => by rw [toD_int]; rfl, fun x => by simp [toD, PyData.depth], fun x y => by
  rw [toD_int, toD_int]
  show (x == y) = decide (x = y)
  by_cases h : x = y <;> simp [h]⟩
theorem Dt.nat : Dt (fun n : Nat => W.int n) 0 := ⟨fun _ => by simp [isD], fun _ => by rw [toD_int]; rfl, fun x => by simp [toD, PyData.depth], fun x y => by
  rw [toD_int, toD_int]
  show ((x : Int) == (y : Int)) = decide (x = y)
  by_cases h : x = y
  · simp [h]
  · have : ¬ (x : Int) = y := by omega
    simp [h, this]⟩
theorem Dt.dl (D : Dt en k) : ∀ l : List α, isDL (l.map en) = true
  | [] => by simp [isDL]
  | x :: l => by
    rw [List.map_cons]
    simp only [isDL, D.d x, D.dl l, Bool.and_self]
theorem Dt.cl (D : Dt en k) : ∀ l : List α, PyData.canLayAll0 ((l.map en).map toD) = true
  | [] => by simp [PyData.canLayAll0]
  | x :: l => by
    rw [List.map_cons, List.map_cons]
    simp only [PyData.canLayAll0, D.c x, D.cl l, Bool.and_self]
theorem Dt.dpl (D : Dt en k) : ∀ l : List α, PyData.depthAll ((l.map en).map toD) ≤ k
  | [] => by simp [PyData.depthAll]
  | x :: l => by
    rw [List.map_cons, List.map_cons]
    have h1 := D.dp x
    have h2 := D.dpl l
    simp only [PyData.depthAll]
    omega
theorem Dt.el (D : Dt en k) : ∀ l m : List α, PyData.eqvAll ((l.map en).map toD) ((m.map en).map toD) = decide (l = m)
  | [], [] => by simp [PyData.eqvAll]
  | [], y :: m => by simp [PyData.eqvAll]
  | x :: l, [] => by simp [PyData.eqvAll]
  | x :: l, y :: m => by
    rw [List.map_cons, List.map_cons, List.map_cons, List.map_cons]
    simp only [PyData.eqvAll, D.e x y, D.el l m]
    by_cases h : x = y <;> by_cases h2 : l = m <;> simp [h, h2]
theorem Dt.tup (D : Dt en k) : Dt (fun l : List α => W.tup (l.map en)) (k + 1) := ⟨fun l => by simp only [isD, D.dl l], fun l => by
  rw [toD_tup]
  simp only [PyData.canLay0, D.cl l], fun l => by
  rw [toD_tup]
  have := D.dpl l
  simp only [PyData.depth]
  omega, fun l m => by
  rw [toD_tup, toD_tup]
  simp only [PyData.eqv, D.el l m]⟩
theorem Dt.lst (D : Dt en k) : Dt (fun l : List α => W.lst (l.map en)) (k + 1) := ⟨fun l => by simp only [isD, D.dl l], fun l => by
  rw [toD_lst]
  simp only [PyData.canLay0, D.cl l], fun l => by
  rw [toD_lst]
  have := D.dpl l
  simp only [PyData.depth]
  omega, fun l m => by
  rw [toD_lst, toD_lst]
  simp only [PyData.eqv, D.el l m]⟩
theorem Dt.row : Dt rowW 1 := Dt.int.tup
theorem Dt.rows : Dt (fun l : List (List Int) => W.tup (l.map rowW)) 2 := Dt.row.tup
theorem Dt.sh (D : Dt en k) (hk : k ≤ 64) (x : α) : SeqAt.shaped (toD (en x)) = true := by
  unfold SeqAt.shaped
  rw [D.c x, Bool.true_and]
  exact decide_eq_true (Nat.le_trans (D.dp x) hk)
theorem Dt.ok (D : Dt en k) (hk : k ≤ 64) (x y : α) : eqOk (en x) (en y) = true := by
  unfold eqOk
  rw [D.d x, D.d y, D.sh hk x, D.sh hk y]
  rfl
theorem Dt.pEqT (D : Dt en k) (hk : k < 64) (l m : List α) : pEq (.tup (l.map en)) (.tup (m.map en)) = some (decide (l = m)) := by
  show (if eqOk (.tup (l.map en)) (.tup (m.map en)) then some (PyData.eqv (toD (.tup (l.map en))) (toD (.tup (m.map en)))) else none) = _
  rw [D.tup.ok (by omega) l m, D.tup.e l m, if_pos rfl]
theorem Dt.pEqL (D : Dt en k) (hk : k < 64) (l m : List α) : pEq (.lst (l.map en)) (.lst (m.map en)) = some (decide (l = m)) := by
  show (if eqOk (.lst (l.map en)) (.lst (m.map en)) then some (PyData.eqv (toD (.lst (l.map en))) (toD (.lst (m.map en)))) else none) = _
  rw [D.lst.ok (by omega) l m, D.lst.e l m, if_pos rfl]
theorem Dt.eqT (D : Dt en k) (hk : k < 64) (l m : List α) : primF .eq [.tup (l.map en), .tup (m.map en)] = some (.bl (decide (l = m))) := by
  show (pEq _ _).map W.bl = _
  rw [D.pEqT hk]; rfl
theorem Dt.neT (D : Dt en k) (hk : k < 64) (l m : List α) : primF .ne [.tup (l.map en), .tup (m.map en)] = some (.bl (!decide (l = m))) := by
  show (pEq _ _).map (fun c => W.bl (!c)) = _
  rw [D.pEqT hk]; rfl
theorem Dt.eqL (D : Dt en k) (hk : k < 64) (l m : List α) : primF .eq [.lst (l.map en), .lst (m.map en)] = some (.bl (decide (l = m))) := by
  show (pEq _ _).map W.bl = _
  rw [D.pEqL hk]; rfl
theorem Dt.neL (D : Dt en k) (hk : k < 64) (l m : List α) : primF .ne [.lst (l.map en), .lst (m.map en)] = some (.bl (!decide (l = m))) := by
  show (pEq _ _).map (fun c => W.bl (!c)) = _
  rw [D.pEqL hk]; rfl
theorem Dt.any (D : Dt en k) (x : α) : ∀ l : List α, (l.map en).any (fun y => PyData.eqv (toD y) (toD (en x))) = decide (x ∈ l)
  | [] => by simp
  | y :: l => by
    rw [List.map_cons, List.any_cons, D.any x l, D.e y x]
    by_cases h : y = x
    · subst h; simp
    · simp [h, Ne.symm h]
/-- a row in a list of rows -/
theorem Dt.memT (D : Dt en k) (hk : k < 63) (x : List α) (l : List (List α)) : pMem (.tup (x.map en)) (.lst (l.map fun r => W.tup (r.map en))) = some (decide (x ∈ l)) := by
  have h1 : pMemF (.tup (x.map en)) (l.map fun r => W.tup (r.map en)) = none := by
    unfold pMemF
    rw [show flatW (.tup (x.map en)) = false from rfl]
    rfl
  have h2 : pMemD (.tup (x.map en)) (l.map fun r => W.tup (r.map en)) = some (decide (x ∈ l)) := by
    unfold pMemD
    rw [D.tup.d x, D.tup.dl l, D.tup.sh (by omega) x]
    have := D.tup.lst.sh (by omega) l
    have e : toD (.lst (l.map fun r => W.tup (r.map en))) = .list ((l.map fun r => W.tup (r.map en)).map toD) := by rw [toD]
    rw [e] at this
    rw [this]
    simp only [Bool.and_self, if_true]
    rw [D.tup.any x l]
    exact congrArg some (decide_eq_decide.mpr Iff.rfl)
  simp only [pMem, h1, h2]
end
abbrev rv (rows : List (List Int)) : List W := rows.map rowW
theorem memRows (x : List Int) (l : List (List Int)) : primF .mem [rowW x, .lst (rv l)] = some (.bl (decide (x ∈ l))) := by
  show (pMem _ _).map W.bl = _
  rw [show pMem (rowW x) (.lst (rv l)) = some (decide (x ∈ l)) from Dt.int.memT (by omega) x l]; rfl
theorem nmemRows (x : List Int) (l : List (List Int)) : primF .nmem [rowW x, .lst (rv l)] = some (.bl (!decide (x ∈ l))) := by
  show (pMem _ _).map (fun c => W.bl (!c)) = _
  rw [show pMem (rowW x) (.lst (rv l)) = some (decide (x ∈ l)) from Dt.int.memT (by omega) x l]; rfl
theorem rowsW_rv : ∀ rows : List (List Int), rowsW (rv rows) = some rows
  | [] => rfl
  | r :: rows => by
    show rowsW (W.tup (r.map W.int) :: rv rows) = _
    simp only [rowsW]
    rw [show allInt (r.map W.int) = some r from ?_, rowsW_rv rows]
    · rfl
    · induction r with
      | nil => rfl
      | cons x r ih =>
        show (allInt (r.map W.int)).map (x :: ·) = _
        rw [ih]; rfl
theorem allInt_ns : ∀ ns : List Int, allInt (ns.map W.int) = some ns
  | [] => rfl
  | n :: ns => by
    show (allInt (ns.map W.int)).map (n :: ·) = _
    rw [allInt_ns ns]; rfl
theorem allInt_rv {rows : List (List Int)} (h : rows ≠ []) : allInt (rv rows) = none := by
  cases rows with
  | nil => exact absurd rfl h
  | cons r rows => rfl
/-- rows that can be in a set: none is empty, or all are the same -/
def RowsOk (rows : List (List Int)) : Prop := (∀ r ∈ rows, r ≠ []) ∨ (∀ r ∈ rows, r = [])
theorem uniq_one {rows : List (List Int)} (h : ∀ r ∈ rows, r = []) : (uniq rows).length ≤ 1 := by
  have h1 : ∀ r ∈ uniq rows, r = [] := fun r hr => h r (mem_uniq.mp hr)
  have h2 := nodup_uniq rows
  revert h1 h2
  generalize uniq rows = l
  intro h1 h2
  cases l with
  | nil => simp
  | cons a l =>
    cases l with
    | nil => simp
    | cons b l =>
      have e1 := h1 a (by simp)
      have e2 := h1 b (by simp)
      subst e1 e2
      simp at h2
theorem RowsOk.b {rows : List (List Int)} (h : RowsOk rows) : (rows.all (fun r => !r.isEmpty) || decide ((uniq rows).length ≤ 1)) = true := by
  rw [Bool.or_eq_true]
  rcases h with h | h
  · refine .inl (List.all_eq_true.mpr fun r hr => ?_)
    have := h r hr
    cases r with
    | nil => exact absurd rfl this
    | cons _ _ => rfl
  · exact .inr (decide_eq_true (uniq_one h))
theorem RowsOk.len {w : Nat} {rows : List (List Int)} (h : ∀ r ∈ rows, r.length = w) : RowsOk rows := by
  by_cases hw : w = 0
  · exact .inr fun r hr => List.length_eq_zero_iff.mp ((h r hr).trans hw)
  · exact .inl fun r hr e => by
      have := h r hr
      rw [e] at this
      exact hw this.symm
theorem pSset_rows {x : W} {rows : List (List Int)} (hx : items x = some (rv rows)) (hl : rows.length < 64) (ho : RowsOk rows) : primF .sset [x] = some (.lst (rv (sortRows rows))) := by
  show pSset x = _
  unfold pSset
  rw [hx, Option.bind_some]
  by_cases h0 : rows = []
  · subst h0; simp [allInt, sortRows, sortInts, uniq, rowsW]
  · simp only [allInt_rv h0, rowsW_rv, Option.bind_some]
    rw [if_pos ⟨hl, ho.b⟩]
theorem pSset_ints {x : W} {ns : List Int} (hx : items x = some (ns.map W.int)) (hl : ns.length < 64) : primF .sset [x] = some (.lst ((sortInts ns).map W.int)) := by
  show pSset x = _
  unfold pSset
  rw [hx, Option.bind_some]
  simp only [allInt_ns, hl, if_true]
theorem pLset_rows {x : W} {rows : List (List Int)} (hx : items x = some (rv rows)) (hl : rows.length < 64) : primF .lset [x] = some (.int (uniq rows).length) := by
  show pLset x = _
  unfold pLset
  rw [hx, Option.bind_some]
  by_cases h0 : rows = []
  · subst h0; simp [allInt, sortRows, sortInts, uniq, rowsW]
  · simp only [allInt_rv h0, rowsW_rv, Option.bind_some, hl, if_true]
theorem pLset_ints {x : W} {ns : List Int} (hx : items x = some (ns.map W.int)) (hl : ns.length < 4000) : primF .lset [x] = some (.int (uniq ns).length) := by
  show pLset x = _
  unfold pLset
  rw [hx, Option.bind_some]
  simp only [allInt_ns, hl, if_true]
theorem pSort_rows {x : W} {rows : List (List Int)} (hx : items x = some (rv rows)) (ho : (∀ r ∈ rows, r ≠ []) ∨ rows.length ≤ 1) : primF .sorted1 [x] = some (.lst (rv (rows.mergeSort rowLe))) := by
  show ((items x).bind pSort).map W.lst = _
  rw [hx, Option.bind_some]
  unfold pSort
  by_cases h0 : rows = []
  · subst h0; simp [allInt, sortRows, sortInts, uniq, rowsW]
  · simp only [allInt_rv h0, rowsW_rv, Option.bind_some]
    rw [if_pos]
    · rfl
    · rw [Bool.or_eq_true]
      rcases ho with h | h
      · refine .inl (List.all_eq_true.mpr fun r hr => ?_)
        have := h r hr
        cases r with
        | nil => exact absurd rfl this
        | cons _ _ => rfl
      · exact .inr (decide_eq_true h)
theorem pSort_ints {x : W} {ns : List Int} (hx : items x = some (ns.map W.int)) : primF .sorted1 [x] = some (.lst ((ns.mergeSort fun a b => decide (a ≤ b)).map W.int)) := by
  show ((items x).bind pSort).map W.lst = _
  rw [hx, Option.bind_some]
  unfold pSort
  rw [allInt_ns]
  rfl
@[simp] theorem below_row {n : Nat} {r : List Int} : below n (rowW r) = true := by
  unfold rowW
  rw [below_tup]
  exact belowL_map _ fun _ _ => (rfl)
@[simp] theorem belowL_rv {n : Nat} {rows : List (List Int)} : belowL n (rows.map rowW) = true := belowL_map _ fun _ _ => below_row
theorem eqRows (a b : List (List Int)) : primF .eq [.tup (rv a), .tup (rv b)] = some (.bl (decide (a = b))) := Dt.row.eqT (by omega) a b
theorem neRows (a b : List (List Int)) : primF .ne [.tup (rv a), .tup (rv b)] = some (.bl (!decide (a = b))) := Dt.row.neT (by omega) a b
theorem neRows0 (a : List (List Int)) : primF .ne [.tup (rv a), .tup []] = some (.bl (!decide (a = []))) := neRows a []
@[simp] theorem d_row (h : Hp) (r : List Int) : deref h (rowW r) = rowW r := (rfl)
@[simp] theorem rp_ssetT {ws : List W} {h : Hp} : runPrim true .sset ws h = nObj h (primF .sset (ws.map (deref h))) := rp_true (rfl)
@[simp] theorem w_sset : Prim.raw .sset = false := (rfl)
@[simp] theorem w_lset : Prim.raw .lset = false := (rfl)
end Ow

/-! B2: more defs' bodies. -/
namespace Ow
open PySem
/-- picked: 2 parameters, names 0 row 1 columns 2 column -/
def P_picked : List St := [.ret (.pr false .tuple1 [.lc false (.nm 2) .seq [.var 1] [] (.pr false .idx [.var 0, .var 2])])]
/-- projected: 2 parameters, names 0 rows 1 columns 2 row -/
def P_projected (c_picked : Nat) : List St := [.ret (.pr false .tuple1 [.pr false .sset [.lc false (.nm 2) .seq [.var 0] [] (.call c_picked [.var 2, .var 1])]])]
/-- projection: 2 parameters, names 0 rows 1 columns -/
def P_projection (c_projected : Nat) : List St := [.ret (.call c_projected [.var 0, .var 1])]
/-- _law_wide: 2 parameters, names 0 draws_here 1 cell_here 2 many 3 base 4 k -/
def L_wide (c_take : Nat) : List St := [.asg (.nm 2) (.pr false .idx [.pr false .lstd [.cst (.int 2), .cst (.int 2), .cst (.int 3), .cst (.int 5)], .call c_take [.var 0, .cst (.int 4)]]), .asg (.nm 3) (.pr false .idx [.pr false .lstd [.cst (.int 0), .cst (.int 0), .pr false .neg [.cst (.int 2)], .var 1], .call c_take [.var 0, .cst (.int 4)]]), .iff (.pr false .eq [.call c_take [.var 0, .cst (.int 5)], .cst (.int 0)]) [.ret (.pr false (.sl false true) [.pr false .lstd [.cst (.int 0), .cst (.int 11), .cst (.int 1), .cst (.int 111), .var 3], .var 2])] [], .ret (.lc false (.nm 4) .rng1 [.var 2] [] (.pr false .add [.var 3, .var 4]))]
/-- _law_rows: 4 parameters, names 0 draws_here 1 width 2 most 3 wide_here 4 rows_here 5 k 6 column -/
def L_rows (c_take : Nat) : List St := [.asg (.nm 4) (.pr true .lstd []), .forr false (.nm 5) .rng1 [.call c_take [.var 0, .pr false .add [.var 2, .cst (.int 1)]]] [5] [.exp (.mth .append (.var 4) [.pr false .tuple1 [.lc false (.nm 6) .rng1 [.var 1] [] (.pr false .idx [.var 3, .call c_take [.var 0, .pr false .len [.var 3]]])]])], .ret (.pr false .tuple1 [.pr false .sset [.var 4]])]
/-- _law_due: 2 parameters, names 0 rows_here 1 columns_here 2 found 3 row 4 values 5 column -/
def L_due : List St := [.asg (.nm 2) (.pr true .lstd []), .forr false (.nm 3) .seq [.var 0] [3, 4] [.asg (.nm 4) (.pr false .tuple1 [.lc false (.nm 5) .seq [.var 1] [] (.pr false .idx [.var 3, .var 5])]), .iff (.pr false .nmem [.var 4, .var 2]) [.exp (.mth .append (.var 2) [.var 4])] []], .ret (.pr false .tuple1 [.pr false .sorted1 [.var 2]])]
/-- law: 1 parameters, names 0 script 1 draws_here 2 cell_here 3 width 4 rows_here 5 mixed 6 k 7 columns_here 8 due_here 9 some 10 less 11 every 12 place 13 column -/
def law_k18 (c_projection c_draws c_take c_cell c_same c_shuffled c_columns c_wide c_rows c_due : Nat) : List St := [.asg (.nm 1) (.call c_draws [.var 0, .cst (.int 200)]), .asg (.nm 2) (.call c_cell [.var 0, .var 1]), .asg (.nm 3) (.pr false .idx [.pr false .lstd [.cst (.int 3), .cst (.int 2), .cst (.int 4), .cst (.int 1), .cst (.int 3), .cst (.int 4)], .call c_take [.var 1, .cst (.int 6)]]), .iff (.pr false .eq [.call c_take [.var 1, .cst (.int 12)], .cst (.int 0)]) [.asg (.nm 3) (.cst (.int 7))] [], .asg (.nm 4) (.call c_rows [.var 1, .var 3, .cst (.int 8), .call c_wide [.var 1, .var 2]]), .asg (.nm 5) (.pr false .tuple1 [.call c_shuffled [.var 1, .pr false .add [.var 4, .pr false (.sl false true) [.var 4, .call c_take [.var 1, .cst (.int 3)]]]]]), .forr false (.nm 6) .rng1 [.cst (.int 8)] [6, 7, 8, 9, 10] [.asg (.nm 7) (.call c_columns [.var 1, .var 3]), .asg (.nm 8) (.call c_due [.var 4, .var 7]), .iff (.or_ (.not_ (.call c_same [.call c_projection [.var 4, .var 7], .var 8])) (.pr false .ne [.call c_projection [.var 5, .var 7], .var 8])) [.ret (.cst (.bl false))] [], .asg (.nm 9) (.lc false (.nm 12) .rng1 [.pr false .len [.var 7]] [.pr false .eq [.call c_take [.var 1, .cst (.int 2)], .cst (.int 0)]] (.var 12)), .asg (.nm 10) (.pr false .tuple1 [.lc false (.nm 12) .seq [.var 9] [] (.pr false .idx [.var 7, .var 12])]), .iff (.or_ (.pr false .ne [.call c_projection [.var 8, .pr false .tuple1 [.var 9]], .call c_projection [.var 4, .var 10]]) (.pr false .ne [.call c_projection [.pr false .tupd [], .var 7], .pr false .tupd []])) [.ret (.cst (.bl false))] []], .asg (.nm 11) (.pr false .tuple1 [.lc false (.nm 13) .rng1 [.var 3] [] (.var 13)]), .ret (.and_ (.pr false .eq [.call c_projection [.var 4, .var 11], .var 4]) (.pr false .eq [.call c_projection [.var 4, .pr false .tupd []], .pr false .mul [.pr false .tupd [.pr false .tupd []], .pr false .int1 [.pr false .gt [.pr false .len [.var 4], .cst (.int 0)]]]]))]
end Ow

/-! N9: rows, projections. -/
namespace Ow
open PySem SetF
section
variable {T : List Def} {N d b k kt kp a n : Nat} {H : List Int → Hp} {h : Hp}
/-- the values of a row in these columns -/
def pick (row : List Int) (cs : List Nat) : List Int := cs.map fun c => row[c]?.getD 0
theorem picked_run (i : Is T k 2 3 P_picked) (hd : 1 ≤ d) (row : List Int) (cs : List Nat) (hc : ∀ c ∈ cs, c < row.length) (hl : cs.length ≤ 1000) : evC T N d b k [rowW row, .tup (nv cs)] h = .ok (rowW (pick row cs)) h := by
  obtain ⟨d, rfl⟩ : ∃ d', d = d' + 1 := ⟨d - 1, by omega⟩
  rw [i.run rfl]
  simp [P_picked, rowW]
  generalize hq : lcGo _ _ _ _ _ _ _ _ _ = q
  have q1 := lc_pure hq (fun c : Nat => W.int c) (fun c => W.int (row[c]?.getD 0)) cs rfl (fun c hx => by
    have e := iv_get (ds := row) (i := c) (hc c hx)
    have e2 : row[c]?.getD 0 = row[c]'(hc c hx) := by rw [List.getElem?_eq_getElem (hc c hx)]; rfl
    simp only [lcB_m]
    simp [e, e2]) (by omega)
  subst q1
  simp [pick, end_val, belowL_map]
theorem pick_len (row : List Int) (cs : List Nat) : (pick row cs).length = cs.length := List.length_map _
/-- the rows' values in these columns -/
abbrev picks (rows : List (List Int)) (cs : List Nat) : List (List Int) := rows.map fun r => pick r cs
theorem picks_ok (rows : List (List Int)) (cs : List Nat) : RowsOk (picks rows cs) := RowsOk.len (w := cs.length) fun r hr => by
  obtain ⟨q, _, rfl⟩ := List.mem_map.mp hr
  exact pick_len q cs
theorem projected_run (ip : Is T kp 2 3 P_picked) (i : Is T k 2 3 (P_projected kp)) (hd : 2 ≤ d) {x : W} {rows : List (List Int)} (hx : x = .tup (rv rows) ∨ x = .lst (rv rows)) (cs : List Nat) (hc : ∀ r ∈ rows, ∀ c ∈ cs, c < r.length) (hl : cs.length ≤ 1000) (hr : rows.length < 64) :
    evC T N d b k [x, .tup (nv cs)] h = .ok (.tup (rv (sortRows (picks rows cs)))) h := by
  obtain ⟨d, rfl⟩ : ∃ d', d = d' + 1 := ⟨d - 1, by omega⟩
  rw [i.run rfl]
  have e1 : itemsOf .seq [deref h x] = some (rv rows) := by rcases hx with rfl | rfl <;> rfl
  simp [P_projected, -it_seq1, e1]
  generalize hq : lcGo _ _ _ _ _ _ _ _ _ = q
  have q1 := lc_pure hq rowW (fun r => rowW (pick r cs)) rows rfl (fun r hx => by
    have e := picked_run (N := N) (b := h.length) (h := h) ip (by omega : 1 ≤ d) r cs (hc r hx) hl
    simp only [lcB_m]
    simp [e]) (by omega)
  subst q1
  have e2 := pSset_rows (x := .lst (rv (picks rows cs))) rfl (by simpa using hr) (picks_ok rows cs)
  have e3 : rows.map (fun r => rowW (pick r cs)) = rv (picks rows cs) := by rw [rv, List.map_map]; rfl
  rw [e3]
  simp [-List.map_map, e2, end_val]
theorem projection_run {kq : Nat} (ip : Is T kp 2 3 P_picked) (iq : Is T kq 2 3 (P_projected kp)) (i : Is T k 2 2 (P_projection kq)) (hd : 3 ≤ d) {x : W} {rows : List (List Int)} (hx : x = .tup (rv rows) ∨ x = .lst (rv rows)) (cs : List Nat) (hc : ∀ r ∈ rows, ∀ c ∈ cs, c < r.length) (hl : cs.length ≤ 1000) (hr : rows.length < 64) :
    evC T N d b k [x, .tup (nv cs)] h = .ok (.tup (rv (sortRows (picks rows cs)))) h := by
  obtain ⟨d, rfl⟩ : ∃ d', d = d' + 1 := ⟨d - 1, by omega⟩
  rw [i.run rfl]
  have e := projected_run (N := N) (b := h.length) (h := h) ip iq (by omega : 2 ≤ d) hx cs hc hl hr
  simp [P_projection, e, end_val]
theorem wide_run (it : Is T kt 2 2 L_take) (i : Is T k 2 5 (L_wide kt)) (hd : 2 ≤ d) (hH : Hd H a n) (ds : List Int) (cell : Int) :
    ∃ (vs : List Int) (ds' : List Int), evC T N d b k [.ref a, .int cell] (H ds) = .ok (.lst (iv vs)) (H ds') ∧ 2 ≤ vs.length ∧ vs.length ≤ 5 := by
  obtain ⟨d, rfl⟩ : ∃ d', d = d' + 1 := ⟨d - 1, by omega⟩
  rw [i.run rfl]
  obtain ⟨v1, d1, e1, h1⟩ := take_run (N := N) (b := n) it (by omega : 1 ≤ d) hH ds (m := 4) (by omega)
  obtain ⟨m, hm, em⟩ := getN [2, 2, 3, 5] v1 (by simp; omega)
  obtain ⟨v2, d2, e2, h2⟩ := take_run (N := N) (b := n) it (by omega : 1 ≤ d) hH d1 (m := 4) (by omega)
  obtain ⟨base, hb, eb⟩ := getI [0, 0, -2, cell] v2 (by simp; omega)
  obtain ⟨v3, d3, e3, h3⟩ := take_run (N := N) (b := n) it (by omega : 1 ≤ d) hH d2 (m := 5) (by omega)
  simp only [List.map, Int.cast_ofNat_Int] at em eb
  have hm2 : 2 ≤ m ∧ m ≤ 5 := by
    simp only [List.mem_cons, List.not_mem_nil, or_false] at hm
    omega
  by_cases h0 : v3 = 0
  · refine ⟨[0, 11, 1, 111, base].take m, d3, ?_, by simp; omega, by simp; omega⟩
    have hbb : belowL n ([W.int 0, .int 11, .int 1, .int 111, .int base].take m) = true := by
      rw [show [W.int 0, .int 11, .int 1, .int 111, .int base] = [0, 11, 1, 111, base].map W.int from rfl, ← List.map_take]
      exact belowL_iv
    simp only [L_wide]
    simp [hH.len, e1, em, e2, eb, e3, h0, end_val, hbb, hH.take1]
  · simp only [L_wide]
    simp [hH.len, e1, em, e2, eb, e3, h0, it_rng1 (show m ≤ 100000000 by omega)]
    generalize hq : lcGo _ _ _ _ _ _ _ _ _ = q
    have q1 := lc_pure hq (fun i : Nat => W.int i) (fun i : Nat => W.int (base + i)) (List.range m) rfl (fun x hx => by simp [lcB_m]) (by simp; omega)
    subst q1
    refine ⟨(List.range m).map fun i : Nat => base + (i : Int), ⟨d3, ?_⟩, by simp; omega, by simp; omega⟩
    simp [end_val, belowL_map, hH.take1]
/-- drawn rows -/
structure RowsIn (w m : Nat) (rows : List (List Int)) : Prop where
  len : rows.length ≤ m
  each : ∀ r ∈ rows, r.length = w
  eq : ∃ rs, rows = sortRows rs
theorem RowsIn.fix {w m : Nat} {rows : List (List Int)} (h : RowsIn w m rows) : sortRows rows = rows := by
  obtain ⟨rs, rfl⟩ := h.eq
  exact (sortRows_eq (sortRows_pair rs) (sortRows_nodup rs) fun r => Iff.rfl).symm
theorem rows_run (it : Is T kt 2 2 L_take) (i : Is T k 4 7 (L_rows kt)) (hd : 2 ≤ d) (hH : Hd H a n) (ds : List Int) (w m : Nat) (vs : List Int) (hw : w ≤ 1000) (hm : m < 64) (hv : 0 < vs.length) :
    ∃ (rows : List (List Int)) (ds' : List Int), evC T N d b k [.ref a, .int w, .int m, .lst (iv vs)] (H ds) = .ok (.tup (rv rows)) (H ds') ∧ RowsIn w m rows := by
  obtain ⟨d, rfl⟩ : ∃ d', d = d' + 1 := ⟨d - 1, by omega⟩
  rw [i.run rfl]
  have hH0 := hH.app [.lst (rv [])]
  obtain ⟨v, d1, e1, h1⟩ := take_run (N := N) (b := n) it (by omega : 1 ≤ d) hH0 ds (m := (m : Int) + 1) (by omega)
  have e1' : evC T N d n kt [.ref a, .int ((m : Int) + 1)] (H ds ++ [.lst []]) = .ok (.int v) (H d1 ++ [.lst []]) := e1
  have hz := size_big
  simp only [L_rows]
  simp [hH.len, e1', it_rng1 (show v ≤ 100000000 by omega)]
  trace_state
  generalize hq : forGo _ _ _ _ _ _ _ _ _ _ _ = q
  obtain ⟨⟨d2, rs⟩, rfl, hI1, hI2⟩ := for_st hq (fun i : Nat => W.int i) (fun s : List Int × List (List Int) => [some (.ref a), some (.int w), some (.int m), some (.lst (iv vs)), some (.ref n), none, none]) (fun s => H s.1 ++ [.lst (rv s.2)]) (fun i s => s.2.length = i ∧ ∀ r ∈ s.2, r.length = w) (List.range v) rfl (d1, []) rfl rfl ⟨rfl, fun r hr => by cases hr⟩ (fun s i _ => by simp) (fun i x s hx hI => by
    obtain ⟨ds, rs⟩ := s
    obtain ⟨hI1, hI2⟩ := hI
    simp only at hI1 hI2
    have hi : i < v := by
      have := (List.getElem?_eq_some_iff.mp hx).1
      rwa [List.length_range] at this
    have hH1 := hH.app [.lst (rv rs)]
    simp [forB_m, hH.at0, it_rng1 (show w ≤ 100000000 by omega), -Prod.exists]
    generalize hq : lcGo _ _ _ _ _ _ _ _ _ = q
    obtain ⟨r, d2, rfl, h2, _⟩ := lc_draw hq (fun ds => H ds ++ [.lst (rv rs)]) ds rfl (fun _ => by simp) (fun i : Nat => W.int i) W.int (fun _ _ => True) (List.range w) rfl (fun x hx ds => by
      obtain ⟨u, d1, e1, h1⟩ := take_run (N := N) (b := n) it (by omega : 1 ≤ d) hH1 ds (m := vs.length) (by omega)
      obtain ⟨s, hs, es⟩ := getI vs u h1
      refine ⟨s, d1, ?_, trivial⟩
      simp only [lcB_m]
      simp [e1, es]) (by simp; omega)
    have hl : rs.length < sizeLine := by omega
    refine ⟨(d2, rs ++ [r]), ?_, by simp [hI1], fun r' hr => ?_⟩
    · simp [hH.at0, hH.st0, mayPut, hl]
      rfl
    · rcases List.mem_append.mp hr with hr | hr
      · exact hI2 r' hr
      · rw [List.mem_singleton.mp hr, h2, List.length_range])
  rw [List.length_range] at hI1
  have e2 := pSset_rows (x := .lst (rv rs)) rfl (by simp only at hI1; omega) (RowsOk.len (w := w) hI2)
  refine ⟨sortRows rs, ⟨d2, ?_⟩, ?_, fun r hr => hI2 r (mem_sortRows.mp hr), rs, rfl⟩
  · simp [hH.at0, e2, end_val, hH.take0]
  · rw [sortRows_len]
    have := length_uniq rs
    simp only at hI1
    omega
theorem due_run (i : Is T k 2 6 L_due) (hd : 1 ≤ d) (rows : List (List Int)) (cs : List Nat) (hc : ∀ r ∈ rows, ∀ c ∈ cs, c < r.length) (hl : cs.length ≤ 1000) (hr : rows.length ≤ 1000) :
    evC T N d b k [.tup (rv rows), .tup (nv cs)] h = .ok (.tup (rv (sortRows (picks rows cs)))) h := by
  obtain ⟨d, rfl⟩ : ∃ d', d = d' + 1 := ⟨d - 1, by omega⟩
  rw [i.run rfl]
  have hz := size_big
  simp [L_due]
  generalize hq : forGo _ _ _ _ _ _ _ _ _ _ _ = q
  obtain ⟨found, rfl, hI1, hI2, hI3⟩ := for_st hq rowW (fun s : List (List Int) => [some (.tup (rv rows)), some (.tup (nv cs)), some (.ref h.length), none, none, none]) (fun s => h ++ [.lst (rv s)]) (fun i s => s.Nodup ∧ (∀ r, r ∈ s ↔ r ∈ (picks rows cs).take i) ∧ s.length ≤ i) rows rfl [] rfl rfl ⟨List.nodup_nil, fun r => by simp, Nat.le_refl _⟩ (fun s i _ => by simp) (fun i x s hx hI => by
    obtain ⟨hI1, hI2, hI3⟩ := hI
    obtain ⟨hi, he⟩ := List.getElem?_eq_some_iff.mp hx
    have hxm : x ∈ rows := he ▸ List.getElem_mem hi
    have hpk : (picks rows cs).take (i + 1) = (picks rows cs).take i ++ [pick x cs] := by
      rw [List.take_succ, List.getElem?_map, hx]
      rfl
    simp [forB_m, rowW]
    generalize hq : lcGo _ _ _ _ _ _ _ _ _ = q
    have q1 := lc_pure hq (fun c : Nat => W.int c) (fun c => W.int (x[c]?.getD 0)) cs rfl (fun c hcx => by
      have hcl := hc x hxm c hcx
      have e := iv_get (ds := x) (i := c) hcl
      have e2 : x[c]?.getD 0 = x[c]'hcl := by rw [List.getElem?_eq_getElem hcl]; rfl
      simp only [lcB_m]
      simp [e, e2]) (by omega)
    subst q1
    have e3 : W.tup (cs.map fun c => W.int (x[c]?.getD 0)) = rowW (pick x cs) := by
      unfold rowW pick
      rw [List.map_map]
      rfl
    have hl2 : s.length < sizeLine := by omega
    by_cases hm : pick x cs ∈ s
    · refine ⟨s, ?_, hI1, fun r => ?_, by omega⟩
      · simp [e3, hp_at0, nmemRows, hm]
      · rw [hpk, List.mem_append, hI2, List.mem_singleton]
        exact ⟨.inl, fun z => z.elim id fun e => e ▸ (hI2 _).mp hm⟩
    · refine ⟨s ++ [pick x cs], ?_, ?_, fun r => ?_, by simp; omega⟩
      · simp [e3, hp_at0, hp_st0, nmemRows, hm, mayPut, hl2]
      · exact List.nodup_append.mpr ⟨hI1, by simp, fun y hy z hz e => hm (by rw [List.mem_singleton.mp hz] at e; exact e ▸ hy)⟩
      · rw [hpk, List.mem_append, List.mem_append, hI2])
  rw [show rows.length = (picks rows cs).length from (List.length_map _).symm, List.take_length] at hI2
  have hok : (∀ r ∈ found, r ≠ []) ∨ found.length ≤ 1 := by
    rcases picks_ok rows cs with g | g
    · exact .inl fun r hr => g r ((hI2 r).mp hr)
    · refine .inr ?_
      have := uniq_one fun r hr => g r ((hI2 r).mp hr)
      have e := (perm_of_same hI1 (nodup_uniq found) fun r => mem_uniq.symm).length_eq
      omega
  have e2 := pSort_rows (x := .lst (rv found)) rfl hok
  have e3 : found.mergeSort rowLe = sortRows (picks rows cs) := sortRows_eq (List.pairwise_mergeSort rowLe_trans rowLe_total _) ((List.mergeSort_perm _ _).nodup_iff.mpr hI1) fun r => by rw [(List.mergeSort_perm _ _).mem_iff, hI2]
  rw [e3] at e2
  simp [hp_at0, e2, end_val]
/-- the same values are the same -/
def SameAt (T : List Def) (N k d : Nat) (w : W) : Prop := ∀ b h, evC T N d b k [w, w] h = .ok (.bl true) h
theorem same_int_run (i : Is T k 2 3 (L_same k)) (hd : 1 ≤ d) (x : Int) : SameAt T N k d (.int x) := by
  intro b h
  obtain ⟨d, rfl⟩ : ∃ d', d = d' + 1 := ⟨d - 1, by omega⟩
  rw [i.run rfl]
  simp [L_same, end_val]
theorem same_tup_run (i : Is T k 2 3 (L_same k)) (ws : List W) (hl : ws.length ≤ 100000) (h1 : ∀ w ∈ ws, SameAt T N k d w) : SameAt T N k (d + 1) (.tup ws) := by
  intro b h
  rw [i.run rfl]
  simp [L_same, it_rng1 (show ws.length ≤ 100000000 by omega)]
  generalize hq : forGo _ _ _ _ _ _ _ _ _ _ _ = q
  obtain ⟨_, rfl, _⟩ := for_st hq (fun i : Nat => W.int i) (fun _ : Unit => [some (.tup ws), some (.tup ws), none]) (fun _ => h) (fun _ _ => True) (List.range ws.length) rfl () rfl rfl trivial (fun _ _ _ => by simp) (fun i x s hx _ => by
    have hi : i < ws.length := by
      have := (List.getElem?_eq_some_iff.mp hx).1
      rwa [List.length_range] at this
    obtain ⟨_, he⟩ := List.getElem?_eq_some_iff.mp hx
    rw [List.getElem_range] at he
    subst he
    have e1 := h1 ws[i] (List.getElem_mem hi) h.length h
    have e2 : ws[i]? = some ws[i] := List.getElem?_eq_getElem hi
    refine ⟨(), ?_, trivial⟩
    simp only [forB_m]
    simp [hi, e1])
  simp [end_val]
theorem same_row_run (i : Is T k 2 3 (L_same k)) (hd : 2 ≤ d) (r : List Int) (hl : r.length ≤ 100000) : SameAt T N k d (rowW r) := by
  obtain ⟨d, rfl⟩ : ∃ d', d = d' + 1 := ⟨d - 1, by omega⟩
  refine same_tup_run i _ (by simpa using hl) fun w hw => ?_
  obtain ⟨x, _, rfl⟩ := List.mem_map.mp hw
  exact same_int_run i (by omega) x
theorem same_rows_run (i : Is T k 2 3 (L_same k)) (hd : 3 ≤ d) (rows : List (List Int)) (hl : rows.length ≤ 100000) (hr : ∀ r ∈ rows, r.length ≤ 100000) : SameAt T N k d (.tup (rv rows)) := by
  obtain ⟨d, rfl⟩ : ∃ d', d = d' + 1 := ⟨d - 1, by omega⟩
  refine same_tup_run i _ (by simpa using hl) fun w hw => ?_
  obtain ⟨x, hx, rfl⟩ := List.mem_map.mp hw
  exact same_row_run i (by omega) x (hr x hx)
end
end Ow

/-! B3: the defs' bodies of starts. -/
namespace Ow
open PySem
/-- parts_of: 2 parameters, names 0 width 1 dependency 2 left 3 right 4 one 5 column -/
def P_parts_of : List St := [.iff (.pr false .eq [.pr false .idx [.var 1, .cst (.int 0)], .cst (.str "joins")]) [.ret (.pr false .idx [.var 1, .cst (.int 2)])] [], .asg (.tp [.nm 2, .nm 3]) (.pr false (.sl true false) [.var 1, .cst (.int 2)]), .asg (.nm 4) (.lc false (.nm 5) .rng1 [.var 0] [.or_ (.pr false .mem [.var 5, .var 2]) (.pr false .mem [.var 5, .var 3])] (.var 5)), .ret (.pr false .tupd [.pr false .tuple1 [.var 4], .pr false .tuple1 [.lc false (.nm 5) .rng1 [.var 0] [.or_ (.pr false .mem [.var 5, .var 2]) (.pr false .nmem [.var 5, .var 3])] (.var 5)]])]
/-- told_value: 1 parameters, names 0 number -/
def P_told_value : List St := [.ret (.pr false .sub [.pr false .neg [.cst (.int 1)], .var 0])]
/-- first_row: 1 parameters, names 0 width 1 column -/
def P_first_row (c_told_value : Nat) : List St := [.ret (.pr false .tuple1 [.lc false (.nm 1) .rng1 [.var 0] [] (.call c_told_value [.var 1])])]
/-- part_row: 3 parameters, names 0 width 1 part 2 turn 3 column -/
def P_part_row (c_told_value : Nat) : List St := [.ret (.pr false .tuple1 [.lc false (.nm 3) .rng1 [.var 0] [] (.call c_told_value [.ite (.pr false .mem [.var 3, .var 1]) (.var 3) (.pr false .add [.pr false .mul [.var 0, .var 2], .var 3])])])]
/-- start: 2 parameters, names 0 scheme 1 dependency 2 kind 3 table 4 width 5 rows 6 parts 7 empty 8 turn 9 part -/
def P_start (c_parts_of c_first_row c_part_row : Nat) : List St := [.asg (.tp [.nm 2, .nm 3]) (.pr false (.sl false true) [.var 1, .cst (.int 2)]), .asg (.nm 4) (.pr false .idx [.var 0, .var 3]), .iff (.pr false .eq [.var 2, .cst (.str "settles")]) [.asg (.nm 5) (.pr false .lstd [.call c_first_row [.var 4], .call c_part_row [.var 4, .pr false .idx [.var 1, .cst (.int 2)], .cst (.int 1)]])] [.iff (.pr false .eq [.var 2, .cst (.str "within")]) [.asg (.nm 5) (.pr false .lstd [.call c_first_row [.var 4]])] [.asg (.nm 6) (.call c_parts_of [.var 4, .var 1]), .asg (.nm 5) (.lc false (.tp [.nm 8, .nm 9]) .enum [.var 6] [] (.call c_part_row [.var 4, .var 9, .pr false .add [.var 8, .cst (.int 1)]]))]], .asg (.nm 7) (.pr false .mul [.pr false .tupd [.pr false .tupd []], .pr false .len [.var 0]]), .ret (.pr false .add [.pr false .add [.pr false (.sl false true) [.var 7, .var 3], .pr false .tupd [.pr false .tuple1 [.pr false .sset [.var 5]]]], .pr false (.sl true false) [.var 7, .pr false .add [.var 3, .cst (.int 1)]]])]
/-- _law_same: 2 parameters, names 0 actual 1 due 2 k -/
def L_same_2 (c_same : Nat) : List St := [.iff (.pr false (.isi .bool) [.var 1]) [.ret (.and_ (.pr false (.isi .bool) [.var 0]) (.pr false .eq [.var 0, .var 1]))] [], .iff (.pr false (.isi .int) [.var 1]) [.ret (.and_ (.pr false (.isi .int) [.var 0]) (.and_ (.not_ (.pr false (.isi .bool) [.var 0])) (.pr false .eq [.var 0, .var 1])))] [], .iff (.pr false (.isi .str) [.var 1]) [.ret (.and_ (.pr false (.isi .str) [.var 0]) (.pr false .eq [.var 0, .var 1]))] [], .iff (.pr false .isN [.var 1]) [.ret (.pr false .isN [.var 0])] [], .iff (.and_ (.pr false (.isi .tup) [.var 1]) (.not_ (.pr false (.isi .tup) [.var 0]))) [.ret (.cst (.bl false))] [], .iff (.and_ (.pr false (.isi .lst) [.var 1]) (.not_ (.pr false (.isi .lst) [.var 0]))) [.ret (.cst (.bl false))] [], .iff (.pr false .ne [.pr false .len [.var 0], .pr false .len [.var 1]]) [.ret (.cst (.bl false))] [], .forr false (.nm 2) .rng1 [.pr false .len [.var 1]] [2] [.iff (.not_ (.call c_same [.pr false .idx [.var 0, .var 2], .pr false .idx [.var 1, .var 2]])) [.ret (.cst (.bl false))] []], .ret (.cst (.bl true))]
/-- _law_scheme: 1 parameters, names 0 draws_here 1 kind -/
def L_scheme_2 (c_take : Nat) : List St := [.asg (.nm 1) (.call c_take [.var 0, .cst (.int 5)]), .iff (.pr false .lt [.var 1, .cst (.int 2)]) [.ret (.pr false .tupd [.pr false .idx [.pr false .lstd [.cst (.int 2), .cst (.int 3), .cst (.int 3), .cst (.int 4), .cst (.int 4), .cst (.int 4)], .call c_take [.var 0, .cst (.int 6)]]])] [], .iff (.pr false .lt [.var 1, .cst (.int 4)]) [.ret (.pr false .tupd [.pr false .add [.cst (.int 1), .call c_take [.var 0, .cst (.int 3)]], .pr false .add [.cst (.int 1), .call c_take [.var 0, .cst (.int 3)]]])] [], .ret (.pr false .tupd [.pr false .add [.cst (.int 1), .call c_take [.var 0, .cst (.int 2)]], .pr false .add [.cst (.int 1), .call c_take [.var 0, .cst (.int 2)]], .pr false .add [.cst (.int 1), .call c_take [.var 0, .cst (.int 2)]]])]
/-- _law_mixed: 2 parameters, names 0 draws_here 1 many 2 row 3 number -/
def L_mixed (c_take : Nat) : List St := [.asg (.nm 2) (.pr true .lstd []), .forr false (.nm 3) .rng1 [.var 1] [3] [.exp (.mth .insert (.var 2) [.call c_take [.var 0, .pr false .add [.pr false .len [.var 2], .cst (.int 1)]], .var 3])], .ret (.var 2)]
/-- _law_columns: 2 parameters, names 0 draws_here 1 width 2 column -/
def L_columns_2 (c_take : Nat) : List St := [.ret (.pr false .tuple1 [.lc false (.nm 2) .rng1 [.var 1] [.pr false .eq [.call c_take [.var 0, .cst (.int 2)], .cst (.int 0)]] (.var 2)])]
/-- _law_parts: 2 parameters, names 0 draws_here 1 width 2 parts_here 3 column 4 first 5 k 6 part -/
def L_parts_2 (c_take : Nat) : List St := [.asg (.nm 2) (.lc false (.nm 5) .rng1 [.pr false .add [.cst (.int 2), .call c_take [.var 0, .cst (.int 2)]]] [] (.pr true .lstd [])), .forr false (.nm 3) .rng1 [.var 1] [3, 4] [.asg (.nm 4) (.call c_take [.var 0, .pr false .len [.var 2]]), .forr false (.nm 5) .rng1 [.pr false .len [.var 2]] [] [.iff (.or_ (.pr false .eq [.var 5, .var 4]) (.pr false .eq [.call c_take [.var 0, .cst (.int 3)], .cst (.int 0)])) [.exp (.mth .append (.pr false .idx [.var 2, .var 5]) [.var 3])] []]], .ret (.pr false .tuple1 [.lc false (.nm 6) .seq [.var 2] [.pr false .gt [.pr false .len [.var 6], .cst (.int 0)]] (.pr false .tuple1 [.var 6])])]
/-- _law_in_table: 3 parameters, names 0 draws_here 1 scheme_here 2 table 3 kind 4 width -/
def L_in_table (c_take c_columns c_parts : Nat) : List St := [.asg (.nm 3) (.call c_take [.var 0, .cst (.int 6)]), .asg (.nm 4) (.pr false .idx [.var 1, .var 2]), .iff (.pr false .lt [.var 3, .cst (.int 2)]) [.ret (.pr false .tupd [.cst (.str "settles"), .var 2, .call c_columns [.var 0, .var 4], .call c_columns [.var 0, .var 4]])] [], .iff (.pr false .lt [.var 3, .cst (.int 5)]) [.ret (.pr false .tupd [.cst (.str "deals"), .var 2, .call c_columns [.var 0, .var 4], .call c_columns [.var 0, .var 4]])] [], .ret (.pr false .tupd [.cst (.str "joins"), .var 2, .call c_parts [.var 0, .var 4]])]
/-- _law_inclusion: 3 parameters, names 0 draws_here 1 scheme_here 2 order 3 first 4 second 5 table 6 other 7 many 8 columns_here -/
def L_inclusion_2 (c_take c_mixed : Nat) : List St := [.asg (.nm 3) (.call c_take [.var 0, .pr false .sub [.pr false .len [.var 2], .cst (.int 1)]]), .asg (.nm 4) (.pr false .add [.pr false .add [.var 3, .cst (.int 1)], .call c_take [.var 0, .pr false .sub [.pr false .sub [.pr false .len [.var 2], .cst (.int 1)], .var 3]]]), .asg (.nm 5) (.pr false .idx [.var 2, .var 3]), .asg (.nm 6) (.pr false .idx [.var 2, .var 4]), .asg (.nm 7) (.pr false .add [.cst (.int 1), .call c_take [.var 0, .pr false .min2 [.pr false .idx [.var 1, .var 5], .pr false .idx [.var 1, .var 6]]]]), .asg (.nm 8) (.pr false .tuple1 [.pr false (.sl false true) [.call c_mixed [.var 0, .pr false .idx [.var 1, .var 5]], .var 7]]), .ret (.pr false .tupd [.cst (.str "within"), .var 5, .var 8, .var 6, .pr false .tuple1 [.pr false (.sl false true) [.call c_mixed [.var 0, .pr false .idx [.var 1, .var 6]], .var 7]]])]
/-- _law_dependency: 3 parameters, names 0 draws_here 1 scheme_here 2 order -/
def L_dependency_2 (c_take c_in_table c_inclusion : Nat) : List St := [.iff (.and_ (.pr false .gt [.pr false .len [.var 1], .cst (.int 1)]) (.pr false .eq [.call c_take [.var 0, .cst (.int 2)], .cst (.int 0)])) [.ret (.call c_inclusion [.var 0, .var 1, .var 2])] [], .ret (.call c_in_table [.var 0, .var 1, .call c_take [.var 0, .pr false .len [.var 1]]])]
/-- _law_parts_of: 2 parameters, names 0 width 1 dependency_here 2 one 3 other 4 column -/
def L_parts_of_2 : List St := [.iff (.pr false .eq [.pr false .idx [.var 1, .cst (.int 0)], .cst (.str "joins")]) [.ret (.pr false .idx [.var 1, .cst (.int 2)])] [], .asg (.nm 2) (.lc false (.nm 4) .rng1 [.var 0] [.pr false .mem [.var 4, .pr false .add [.pr false .idx [.var 1, .cst (.int 2)], .pr false .idx [.var 1, .cst (.int 3)]]]] (.var 4)), .asg (.nm 3) (.lc false (.nm 4) .rng1 [.var 0] [.or_ (.pr false .mem [.var 4, .pr false .idx [.var 1, .cst (.int 2)]]) (.pr false .nmem [.var 4, .pr false .idx [.var 1, .cst (.int 3)]])] (.var 4)), .ret (.pr false .tupd [.pr false .tuple1 [.var 2], .pr false .tuple1 [.var 3]])]
/-- _law_row_of: 3 parameters, names 0 width 1 part 2 turn 3 column -/
def L_row_of_2 : List St := [.ret (.pr false .tuple1 [.lc false (.nm 3) .rng1 [.var 0] [] (.pr false .idx [.pr false .lstd [.pr false .sub [.pr false .sub [.pr false .neg [.cst (.int 1)], .pr false .mul [.var 0, .var 2]], .var 3], .pr false .sub [.pr false .neg [.cst (.int 1)], .var 3]], .pr false .int1 [.pr false .mem [.var 3, .var 1]]])])]
/-- _law_start: 2 parameters, names 0 scheme_here 1 dependency_here 2 width 3 rows 4 parts_here 5 tables 6 table 7 column 8 k -/
def L_start (c_parts_of c_row_of : Nat) : List St := [.asg (.nm 2) (.pr false .idx [.var 0, .pr false .idx [.var 1, .cst (.int 1)]]), .asg (.nm 3) (.pr true .lstd [.pr false .tuple1 [.lc false (.nm 7) .rng1 [.var 2] [] (.pr false .sub [.pr false .neg [.cst (.int 1)], .var 7])]]), .iff (.pr false .eq [.pr false .idx [.var 1, .cst (.int 0)], .cst (.str "settles")]) [.exp (.mth .append (.var 3) [.call c_row_of [.var 2, .pr false .idx [.var 1, .cst (.int 2)], .cst (.int 1)]])] [.iff (.pr false .ne [.pr false .idx [.var 1, .cst (.int 0)], .cst (.str "within")]) [.asg (.nm 4) (.call c_parts_of [.var 2, .var 1]), .asg (.nm 3) (.lc true (.nm 8) .rng1 [.pr false .len [.var 4]] [] (.call c_row_of [.var 2, .pr false .idx [.var 4, .var 8], .pr false .add [.var 8, .cst (.int 1)]]))] []], .asg (.nm 5) (.lc true (.nm 6) .seq [.var 0] [] (.pr false .tupd [])), .seti (.var 5) (.pr false .idx [.var 1, .cst (.int 1)]) (.pr false .tuple1 [.pr false .sset [.var 3]]), .ret (.pr false .tuple1 [.var 5])]
/-- law: 1 parameters, names 0 script 1 draws_here 2 scheme_here 3 order 4 k 5 wish 6 width 7 every -/
def law_k41 (c_start c_draws c_take c_same c_scheme c_mixed c_parts c_dependency qc_start : Nat) : List St := [.asg (.nm 1) (.call c_draws [.var 0, .cst (.int 830)]), .asg (.nm 2) (.call c_scheme [.var 1]), .asg (.nm 3) (.call c_mixed [.var 1, .pr false .len [.var 2]]), .iff (.pr false .eq [.call c_take [.var 1, .cst (.int 2)], .cst (.int 0)]) [.asg (.nm 2) (.pr false .tuple1 [.lc false (.nm 4) .rng1 [.pr false .add [.cst (.int 1), .call c_take [.var 1, .cst (.int 6)]]] [] (.pr false .add [.cst (.int 1), .call c_take [.var 1, .cst (.int 7)]])]), .asg (.nm 3) (.call c_mixed [.var 1, .pr false .len [.var 2]])] [], .forr false (.nm 4) .rng1 [.cst (.int 6)] [] [.asg (.nm 5) (.call c_dependency [.var 1, .var 2, .var 3]), .iff (.and_ (.pr false .eq [.pr false .idx [.var 5, .cst (.int 0)], .cst (.str "joins")]) (.pr false .eq [.call c_take [.var 1, .cst (.int 2)], .cst (.int 0)])) [.asg (.nm 5) (.pr false .tupd [.cst (.str "joins"), .pr false .idx [.var 5, .cst (.int 1)], .pr false .add [.pr false .idx [.var 5, .cst (.int 2)], .call c_parts [.var 1, .pr false .idx [.var 2, .pr false .idx [.var 5, .cst (.int 1)]]]]])] [], .iff (.not_ (.call c_same [.call c_start [.var 2, .var 5], .call qc_start [.var 2, .var 5]])) [.ret (.cst (.bl false))] []], .asg (.nm 6) (.pr false .idx [.var 2, .cst (.int 0)]), .asg (.nm 7) (.pr false .rangeT [.var 6]), .forr false (.nm 5) .seq [.pr false .lstd [.pr false .tupd [.cst (.str "settles"), .cst (.int 0), .var 7, .pr false .tupd []], .pr false .tupd [.cst (.str "deals"), .cst (.int 0), .pr false .tupd [], .var 7], .pr false .tupd [.cst (.str "deals"), .cst (.int 0), .var 7, .var 7], .pr false .tupd [.cst (.str "joins"), .cst (.int 0), .pr false .tupd [.var 7, .var 7]]]] [] [.iff (.not_ (.call c_same [.call c_start [.var 2, .var 5], .call qc_start [.var 2, .var 5]])) [.ret (.cst (.bl false))] []], .ret (.call c_same [.call c_start [.pr false .tupd [.cst (.int 2)], .pr false .tupd [.cst (.str "deals"), .cst (.int 0), .pr false .tupd [], .pr false .tupd []]], .pr false .tupd [.pr false .tupd [.pr false .tupd [.pr false .neg [.cst (.int 3)], .pr false .neg [.cst (.int 4)]], .pr false .tupd [.pr false .neg [.cst (.int 1)], .pr false .neg [.cst (.int 2)]]]]])]
end Ow

/-! N10: starts of dependencies. -/
namespace Ow
open PySem SetF
@[simp] theorem kd_settles_deals : (Str.ofString "settles" = Str.ofString "deals") = False := by decide
@[simp] theorem kd_settles_joins : (Str.ofString "settles" = Str.ofString "joins") = False := by decide
@[simp] theorem kd_settles_within : (Str.ofString "settles" = Str.ofString "within") = False := by decide
@[simp] theorem kd_deals_settles : (Str.ofString "deals" = Str.ofString "settles") = False := by decide
@[simp] theorem kd_deals_joins : (Str.ofString "deals" = Str.ofString "joins") = False := by decide
@[simp] theorem kd_deals_within : (Str.ofString "deals" = Str.ofString "within") = False := by decide
@[simp] theorem kd_joins_settles : (Str.ofString "joins" = Str.ofString "settles") = False := by decide
@[simp] theorem kd_joins_deals : (Str.ofString "joins" = Str.ofString "deals") = False := by decide
@[simp] theorem kd_joins_within : (Str.ofString "joins" = Str.ofString "within") = False := by decide
@[simp] theorem kd_within_settles : (Str.ofString "within" = Str.ofString "settles") = False := by decide
@[simp] theorem kd_within_deals : (Str.ofString "within" = Str.ofString "deals") = False := by decide
@[simp] theorem kd_within_joins : (Str.ofString "within" = Str.ofString "joins") = False := by decide
@[simp] theorem bind_tp {ts : List Tg} {ws : List W} {r : Env} : bindT (.tp ts) (.tup ws) r = bindTs ts ws r := by rw [bindT]
@[simp] theorem bind_nil {r : Env} : bindTs [] [] r = some r := by rw [bindTs]
@[simp] theorem bind_cons {t : Tg} {ts : List Tg} {w : W} {ws : List W} {r : Env} : bindTs (t :: ts) (w :: ws) r = (bindT t w r).bind (bindTs ts ws) := by rw [bindTs]
theorem small64N {w : Nat} (h : w ≤ 1000) : small64 (w : Int) = true := by
  unfold small64
  simp
  omega
theorem p_nmemNT (x : Nat) (cs : List Nat) : primF .nmem [.int x, .tup (nv cs)] = some (.bl (!decide (x ∈ cs))) := by
  have e := p_memNT x cs
  have e2 : (pMem (.int x) (.tup (nv cs))).map W.bl = some (.bl (decide (x ∈ cs))) := e
  show (pMem (.int x) (.tup (nv cs))).map (fun c => W.bl (!c)) = _
  cases h : pMem (.int x) (.tup (nv cs)) with
  | none => rw [h] at e2; cases e2
  | some c => rw [h] at e2; cases e2; rfl
/-- the row of the first values -/
def base (w : Nat) : List Int := (List.range w).map fun c : Nat => -1 - (c : Int)
/-- the row with the first values in a part -/
def rowOf (w : Nat) (part : List Nat) (turn : Nat) : List Int := (List.range w).map fun c : Nat => if c ∈ part then -1 - (c : Int) else -1 - (w : Int) * turn - c
theorem base_len (w : Nat) : (base w).length = w := by simp [base]
theorem rowOf_len (w : Nat) (part : List Nat) (turn : Nat) : (rowOf w part turn).length = w := by simp [rowOf]
/-- the two parts -/
def oneP (w : Nat) (l r : List Nat) : List Nat := (List.range w).filter fun c => decide (c ∈ l) || decide (c ∈ r)
def twoP (w : Nat) (l r : List Nat) : List Nat := (List.range w).filter fun c => decide (c ∈ l) || !decide (c ∈ r)
def partRows (w : Nat) (ps : List (List Nat)) : List (List Int) := (List.range ps.length).map fun i => rowOf w (ps[i]?.getD []) (i + 1)
def startRows (w : Nat) : Dep → List (List Int)
  | .settles _ l _ => [base w, rowOf w l 1]
  | .deals _ l r => partRows w [oneP w l r, twoP w l r]
  | .joins _ ps => partRows w ps
  | .within _ _ _ _ => [base w]
def Dep.tab : Dep → Nat
  | .settles t _ _ => t
  | .deals t _ _ => t
  | .joins t _ => t
  | .within t _ _ _ => t
/-- the start -/
def startW (ws : List Nat) (w : Nat) (dep : Dep) : W := .tup ((List.replicate ws.length (W.tup [])).set dep.tab (.tup (rv (sortRows (startRows w dep)))))
theorem belowL_all {n : Nat} : ∀ ws : List W, belowL n ws = ws.all (below n)
  | [] => rfl
  | w :: ws => by rw [belowL_cons, List.all_cons, belowL_all ws]
theorem rv_below {n : Nat} (rows : List (List Int)) : below n (.tup (rv rows)) = true := by
  show belowL n (rv rows) = true
  rw [belowL_all, List.all_eq_true]
  intro x hx
  obtain ⟨r, _, rfl⟩ := List.mem_map.mp hx
  show belowL n (r.map W.int) = true
  rw [belowL_all, List.all_eq_true]
  intro y hy
  obtain ⟨z, _, rfl⟩ := List.mem_map.mp hy
  rfl
theorem startW_below {n : Nat} {ws : List Nat} {w : Nat} {dep : Dep} : below n (startW ws w dep) = true := by
  show belowL n _ = true
  rw [belowL_all, List.all_eq_true]
  intro x hx
  rcases List.mem_or_eq_of_mem_set hx with hx | rfl
  · rw [List.eq_of_mem_replicate hx]
    rfl
  · exact rv_below _
theorem startRows_len {w : Nat} {dep : Dep} : ∀ r ∈ startRows w dep, r.length = w := by
  intro r hr
  have pr : ∀ ps, r ∈ partRows w ps → r.length = w := fun ps h => by
    obtain ⟨i, _, rfl⟩ := List.mem_map.mp h
    exact rowOf_len _ _ _
  cases dep with
  | settles t l r' =>
    simp only [startRows, List.mem_cons, List.not_mem_nil, or_false] at hr
    rcases hr with rfl | rfl
    · exact base_len w
    · exact rowOf_len _ _ _
  | deals t l r' => exact pr _ hr
  | joins t ps => exact pr _ hr
  | within t cs o os =>
    simp only [startRows, List.mem_cons, List.not_mem_nil, or_false] at hr
    subst hr
    exact base_len w
section
variable {T : List Def} {N d b k kt kp kf kq kr a n : Nat} {H : List Int → Hp} {h : Hp}
theorem told_run (i : Is T k 1 1 P_told_value) (hd : 1 ≤ d) (x : Int) : evC T N d b k [.int x] h = .ok (.int (-1 - x)) h := by
  obtain ⟨d, rfl⟩ : ∃ d', d = d' + 1 := ⟨d - 1, by omega⟩
  rw [i.run rfl]
  simp [P_told_value, end_val]
theorem first_row_run (it : Is T kt 1 1 P_told_value) (i : Is T k 1 2 (P_first_row kt)) (hd : 2 ≤ d) (w : Nat) (hw : w ≤ 1000) : evC T N d b k [.int w] h = .ok (rowW (base w)) h := by
  obtain ⟨d, rfl⟩ : ∃ d', d = d' + 1 := ⟨d - 1, by omega⟩
  rw [i.run rfl]
  simp [P_first_row, it_rng1 (show w ≤ 100000000 by omega)]
  generalize hq : lcGo _ _ _ _ _ _ _ _ _ = q
  have q1 := lc_pure hq (fun c : Nat => W.int c) (fun c : Nat => W.int (-1 - (c : Int))) (List.range w) rfl (fun c hx => by
    have e := told_run (N := N) (b := h.length) (h := h) it (by omega : 1 ≤ d) c
    simp only [lcB_m]
    simp [e]) (by simp; omega)
  subst q1
  simp [rowW, base, end_val, belowL_map]
theorem part_row_run (it : Is T kt 1 1 P_told_value) (i : Is T k 3 4 (P_part_row kt)) (hd : 2 ≤ d) (w : Nat) (hw : w ≤ 1000) (part : List Nat) (turn : Nat) : evC T N d b k [.int w, .tup (nv part), .int turn] h = .ok (rowW (rowOf w part turn)) h := by
  obtain ⟨d, rfl⟩ : ∃ d', d = d' + 1 := ⟨d - 1, by omega⟩
  rw [i.run rfl]
  simp [P_part_row, it_rng1 (show w ≤ 100000000 by omega)]
  generalize hq : lcGo _ _ _ _ _ _ _ _ _ = q
  have q1 := lc_pure hq (fun c : Nat => W.int c) (fun c : Nat => W.int (if c ∈ part then -1 - (c : Int) else -1 - (w : Int) * turn - c)) (List.range w) rfl (fun c hx => by
    have e1 := told_run (N := N) (b := h.length) (h := h) it (by omega : 1 ≤ d) c
    have e2 := told_run (N := N) (b := h.length) (h := h) it (by omega : 1 ≤ d) ((w : Int) * turn + c)
    have e3 : (-1 : Int) - ((w : Int) * turn + c) = -1 - (w : Int) * turn - c := by omega
    simp only [lcB_m]
    by_cases hc : c ∈ part
    · simp [p_memNT, hc, e1]
    · simp [p_memNT, hc, e2, e3, small64N hw]) (by simp; omega)
  subst q1
  simp [rowW, rowOf, end_val, belowL_map]
theorem row_of_run (i : Is T k 3 4 L_row_of_2) (hd : 1 ≤ d) (w : Nat) (hw : w ≤ 1000) (part : List Nat) (turn : Nat) : evC T N d b k [.int w, .tup (nv part), .int turn] h = .ok (rowW (rowOf w part turn)) h := by
  obtain ⟨d, rfl⟩ : ∃ d', d = d' + 1 := ⟨d - 1, by omega⟩
  rw [i.run rfl]
  simp [L_row_of_2, it_rng1 (show w ≤ 100000000 by omega)]
  generalize hq : lcGo _ _ _ _ _ _ _ _ _ = q
  have q1 := lc_pure hq (fun c : Nat => W.int c) (fun c : Nat => W.int (if c ∈ part then -1 - (c : Int) else -1 - (w : Int) * turn - c)) (List.range w) rfl (fun c hx => by
    simp only [lcB_m]
    by_cases hc : c ∈ part
    · simp [p_memNT, hc, small64N hw]
    · simp [p_memNT, hc, small64N hw]) (by simp; omega)
  subst q1
  simp [rowW, rowOf, end_val, belowL_map]
abbrev pv (ps : List (List Nat)) : List W := ps.map fun p => W.tup (nv p)
theorem parts_deals (i : Is T k 2 6 P_parts_of) (hd : 1 ≤ d) (w : Nat) (hw : w ≤ 1000) (t : Nat) (l r : List Nat) : evC T N d b k [.int w, (Dep.deals t l r).w] h = .ok (.tup (pv [oneP w l r, twoP w l r])) h := by
  obtain ⟨d, rfl⟩ : ∃ d', d = d' + 1 := ⟨d - 1, by omega⟩
  rw [i.run rfl]
  simp [P_parts_of, Dep.w, it_rng1 (show w ≤ 100000000 by omega)]
  generalize hq : lcGo _ _ _ _ _ _ _ _ _ = q
  have q1 := lc_pureF hq (fun c : Nat => W.int c) (fun c => decide (c ∈ l) || decide (c ∈ r)) (fun c : Nat => W.int c) (List.range w) rfl (fun c hx hp => by
    simp only [lcB_m]
    by_cases h1 : c ∈ l
    · simp [p_memNT, h1]
    · simp [h1] at hp
      simp [p_memNT, h1, hp]) (fun c hx hp => by
    simp [not_or] at hp
    simp only [lcB_m]
    simp [p_memNT, hp.1, hp.2]) (by simp; omega)
  subst q1
  simp [it_rng1 (show w ≤ 100000000 by omega)]
  generalize hq : lcGo _ _ _ _ _ _ _ _ _ = q
  have q1 := lc_pureF hq (fun c : Nat => W.int c) (fun c => decide (c ∈ l) || !decide (c ∈ r)) (fun c : Nat => W.int c) (List.range w) rfl (fun c hx hp => by
    simp only [lcB_m]
    by_cases h1 : c ∈ l
    · simp [p_memNT, h1]
    · simp [h1] at hp
      simp [p_memNT, p_nmemNT, h1, hp]) (fun c hx hp => by
    simp at hp
    simp only [lcB_m]
    simp [p_memNT, p_nmemNT, hp.1, hp.2]) (by simp; omega)
  subst q1
  simp [end_val, belowL_map, oneP, twoP]
theorem parts_joins (i : Is T k 2 6 P_parts_of) (hd : 1 ≤ d) (w : Nat) (t : Nat) (ps : List (List Nat)) : evC T N d b k [.int w, (Dep.joins t ps).w] h = .ok (.tup (pv ps)) h := by
  obtain ⟨d, rfl⟩ : ∃ d', d = d' + 1 := ⟨d - 1, by omega⟩
  rw [i.run rfl]
  simp [P_parts_of, Dep.w, end_val, belowL_map]
theorem lparts_deals (i : Is T k 2 5 L_parts_of_2) (hd : 1 ≤ d) (w : Nat) (hw : w ≤ 1000) (t : Nat) (l r : List Nat) (hl : l.length ≤ 1000) (hr : r.length ≤ 1000) : evC T N d b k [.int w, (Dep.deals t l r).w] h = .ok (.tup (pv [oneP w l r, twoP w l r])) h := by
  obtain ⟨d, rfl⟩ : ∃ d', d = d' + 1 := ⟨d - 1, by omega⟩
  rw [i.run rfl]
  have ok1 : okLen (l.length + r.length) = true := okLen_s (by omega)
  have ap : ∀ c : Nat, primF .mem [.int c, .tup (nv l ++ nv r)] = some (.bl (decide (c ∈ l) || decide (c ∈ r))) := fun c => by
    have e := p_memNT c (l ++ r)
    rw [show nv (l ++ r) = nv l ++ nv r from List.map_append] at e
    rw [e]
    simp
  simp [L_parts_of_2, Dep.w, it_rng1 (show w ≤ 100000000 by omega)]
  generalize hq : lcGo _ _ _ _ _ _ _ _ _ = q
  have q1 := lc_pureF hq (fun c : Nat => W.int c) (fun c => decide (c ∈ l) || decide (c ∈ r)) (fun c : Nat => W.int c) (List.range w) rfl (fun c hx hp => by
    simp only [lcB_m]
    simp [ok1, ap]
    simp at hp
    rcases hp with hp | hp <;> simp [hp]) (fun c hx hp => by
    simp at hp
    simp only [lcB_m]
    simp [ok1, ap, hp.1, hp.2]) (by simp; omega)
  subst q1
  simp [it_rng1 (show w ≤ 100000000 by omega)]
  generalize hq : lcGo _ _ _ _ _ _ _ _ _ = q
  have q1 := lc_pureF hq (fun c : Nat => W.int c) (fun c => decide (c ∈ l) || !decide (c ∈ r)) (fun c : Nat => W.int c) (List.range w) rfl (fun c hx hp => by
    simp only [lcB_m]
    by_cases h1 : c ∈ l
    · simp [p_memNT, h1]
    · simp [h1] at hp
      simp [p_memNT, p_nmemNT, h1, hp]) (fun c hx hp => by
    simp at hp
    simp only [lcB_m]
    simp [p_memNT, p_nmemNT, hp.1, hp.2]) (by simp; omega)
  subst q1
  simp [end_val, belowL_map, oneP, twoP]
theorem lparts_joins (i : Is T k 2 5 L_parts_of_2) (hd : 1 ≤ d) (w : Nat) (t : Nat) (ps : List (List Nat)) : evC T N d b k [.int w, (Dep.joins t ps).w] h = .ok (.tup (pv ps)) h := by
  obtain ⟨d, rfl⟩ : ∃ d', d = d' + 1 := ⟨d - 1, by omega⟩
  rw [i.run rfl]
  simp [L_parts_of_2, Dep.w, end_val, belowL_map]
@[simp] theorem it_en {ws : List W} : itemsOf .enum [.tup ws] = some (enumW 0 ws) := (rfl)
theorem enum_pv (ps : List (List Nat)) : enumW 0 (pv ps) = (List.range ps.length).map fun i : Nat => W.tup [.int i, .tup (nv (ps[i]?.getD []))] := by
  refine List.ext_getElem? fun i => ?_
  rw [enumW_get, List.getElem?_map, List.getElem?_map]
  by_cases h : i < ps.length
  · rw [List.getElem?_range h, List.getElem?_eq_getElem h]
    simp only [Option.map_some, Nat.zero_add, List.getElem?_eq_getElem h, Option.getD_some]
  · rw [List.getElem?_eq_none (by omega), List.getElem?_eq_none (l := List.range ps.length) (by simpa using h)]
    rfl
theorem set_mid {e x : W} {t n : Nat} (ht : t < n) : List.replicate (min t n) e ++ x :: List.replicate (n - (t + 1)) e = (List.replicate n e).set t x := by
  refine List.ext_getElem? fun i => ?_
  rw [Nat.min_eq_left (by omega)]
  rcases Nat.lt_trichotomy i t with h | h | h
  · rw [List.getElem?_append_left (by simpa using h), List.getElem?_set_ne (by omega), List.getElem?_replicate, List.getElem?_replicate, if_pos h, if_pos (by omega)]
  · subst h
    rw [List.getElem?_append_right (by simp), List.getElem?_set_self (by simpa using ht)]
    simp
  · rw [List.getElem?_append_right (by simp; omega), List.getElem?_set_ne (by omega), List.length_replicate]
    obtain ⟨j, rfl⟩ : ∃ j, i = t + 1 + j := ⟨i - t - 1, by omega⟩
    rw [show t + 1 + j - t = j + 1 by omega, List.getElem?_cons_succ, List.getElem?_replicate, List.getElem?_replicate]
    by_cases hj : t + 1 + j < n
    · rw [if_pos (by omega), if_pos hj]
    · rw [if_neg (by omega), if_neg hj]
/-- a dependency that can be asked -/
structure DepIn (ws : List Nat) (w : Nat) (dep : Dep) : Prop where
  tab : ws[dep.tab]? = some w
  many : ws.length ≤ 100
  pos : 1 ≤ w
  small : w ≤ 100
  sides : match dep with
    | .settles _ _ _ => True
    | .deals _ l r => l.length ≤ 100 ∧ r.length ≤ 100
    | .joins _ ps => ps.length ≤ 20
    | .within _ _ _ _ => True
theorem startRows_few {ws : List Nat} {w : Nat} {dep : Dep} (h : DepIn ws w dep) : (startRows w dep).length ≤ 20 := by
  have := h.sides
  cases dep <;> simp [startRows, partRows] <;> simp_all
theorem start_set {ws : List Nat} {w : Nat} {dep : Dep} (h : DepIn ws w dep) : primF .sset [.lst (rv (startRows w dep))] = some (.lst (rv (sortRows (startRows w dep)))) :=
  pSset_rows rfl (by have := startRows_few h; omega) (RowsOk.len (w := w) startRows_len)
theorem p_start_run {kt kp kf kr : Nat} (it : Is T kt 1 1 P_told_value) (ip : Is T kp 2 6 P_parts_of) (if_ : Is T kf 1 2 (P_first_row kt)) (ir : Is T kr 3 4 (P_part_row kt)) (i : Is T k 2 10 (P_start kp kf kr)) (hd : 3 ≤ d) {ws : List Nat} {w : Nat} {dep : Dep} (hD : DepIn ws w dep) :
    evC T N d b k [.tup (nv ws), dep.w] h = .ok (startW ws w dep) h := by
  obtain ⟨d, rfl⟩ : ∃ d', d = d' + 1 := ⟨d - 1, by omega⟩
  rw [i.run rfl]
  have hw := hD.small
  have hn := hD.many
  have e1 := hD.tab
  have htl : dep.tab < ws.length := (List.getElem?_eq_some_iff.mp e1).1
  have hset := start_set hD
  have ewt : (nv ws)[dep.tab]? = some (.int w) := by rw [List.getElem?_map, e1]; rfl
  have f1 := first_row_run (N := N) (b := h.length) (h := h) it if_ (by omega : 2 ≤ d) w (by omega)
  have f2 := fun part turn => part_row_run (N := N) (b := h.length) (h := h) it ir (by omega : 2 ≤ d) w (by omega) part turn
  have fin : ∀ (kd : W) (o6 : Option W) (ss : List St) (y : RS), ss = (P_start kp kf kr).drop 3 → y = .nxt [some (.tup (nv ws)), some dep.w, some kd, some (.int dep.tab), some (.int w), some (.lst (rv (startRows w dep))), o6, none, none, none] h → endB h.length (kThen (evC T N d) N h.length ss y) = .ok (startW ws w dep) h := by
    intro kd o6 ss y hss hy
    subst hss hy
    have ml : primF .mul [.tup [.tup []], .int ws.length] = some (.tup (List.replicate ws.length (.tup []))) := by
      show (if (!([W.tup []]).isEmpty) && decide (-1000 ≤ (ws.length : Int) ∧ (ws.length : Int) ≤ 1000 ∧ ([W.tup []]).length ≤ 1000) then some (W.tup (List.replicate (ws.length : Int).toNat [W.tup []]).flatten) else none) = _
      rw [if_pos (by simp; omega), Int.toNat_natCast, List.flatten_replicate_singleton]
    have ok1 : okLen (min dep.tab ws.length + 1) = true := okLen_s (by omega)
    obtain ⟨t1, ht1, c1⟩ : ∃ t1 : Nat, t1 = dep.tab + 1 ∧ ((dep.tab : Int) + 1) = (t1 : Int) := ⟨_, rfl, by omega⟩
    have ok2 : okLen (min dep.tab ws.length + 1 + (ws.length - t1)) = true := okLen_s (by omega)
    have e9 : startW ws w dep = .tup (List.replicate (min dep.tab ws.length) (.tup []) ++ .tup (rv (sortRows (startRows w dep))) :: List.replicate (ws.length - t1) (.tup [])) := by
      rw [ht1, set_mid htl]
      rfl
    rw [e9]
    have hb : below h.length (.tup (List.replicate (min dep.tab ws.length) (.tup []) ++ .tup (rv (sortRows (startRows w dep))) :: List.replicate (ws.length - t1) (.tup []))) = true := by
      rw [← e9]
      exact startW_below
    simp [P_start, ml, hset, ok1, ok2, c1]
    rw [end_val hb, List.take_length]
  have loop : ∀ (ps : List (List Nat)) (a0 a1 a2 a3 a5 a6 : Option W) (q : R (List W)), lcGo (evC T N d) h.length [a0, a1, a2, a3, some (.int w), a5, a6, none, none, none] (.tp [.nm 8, .nm 9]) [] (.call kr [.var 4, .var 9, .pr false .add [.var 8, .cst (.int 1)]]) [.tup (pv ps)] h (enumW 0 (pv ps)) = q → ps.length ≤ 20 → q = .ok (rv (partRows w ps)) h := by
    intro ps a0 a1 a2 a3 a5 a6 q hq hl
    have q1 := lc_pure hq (fun i : Nat => W.tup [.int i, .tup (nv (ps[i]?.getD []))]) (fun i => rowW (rowOf w (ps[i]?.getD []) (i + 1))) (List.range ps.length) (enum_pv ps) (fun i hx => by
      have e := f2 (ps[i]?.getD []) (i + 1)
      have c1 : ((i + 1 : Nat) : Int) = (i : Int) + 1 := by omega
      rw [c1] at e
      simp only [lcB_m]
      simp [Tg.names, Tg.namesL, e]) (by simp; omega)
    subst q1
    simp [partRows]
  cases dep with
  | settles t l r =>
    simp only [Dep.tab] at ewt htl
    have f3 : evC T N d h.length kr [.int w, .tup (nv l), .int 1] h = .ok (rowW (rowOf w l 1)) h := f2 l 1
    rw [← fin (.str "settles") none _ _ rfl rfl]
    simp [P_start, Dep.w, ewt, f1, f3, startRows, Dep.tab]
  | deals t l r =>
    simp only [Dep.tab] at ewt htl
    have f3 := parts_deals (N := N) (b := h.length) (h := h) ip (by omega : 1 ≤ d) w (by omega) t l r
    rw [← fin (.str "deals") (some (.tup (pv [oneP w l r, twoP w l r]))) _ _ rfl rfl]
    have e5 : startRows w (Dep.deals t l r) = partRows w [oneP w l r, twoP w l r] := rfl
    rw [e5]
    have hl : [oneP w l r, twoP w l r].length ≤ 20 := by simp
    generalize [oneP w l r, twoP w l r] = ps at f3 hl ⊢
    simp only [Dep.w] at f3
    simp [P_start, Dep.w, ewt, f3, Dep.tab]
    generalize hq : lcGo _ _ _ _ _ _ _ _ _ = q
    have q1 := loop _ _ _ _ _ _ _ _ hq hl
    subst q1
    simp
  | joins t ps =>
    simp only [Dep.tab] at ewt htl
    have f3 := parts_joins (N := N) (b := h.length) (h := h) ip (by omega : 1 ≤ d) w t ps
    rw [← fin (.str "joins") (some (.tup (pv ps))) _ _ rfl rfl]
    simp only [Dep.w] at f3
    simp [P_start, Dep.w, ewt, f3, Dep.tab, startRows]
    generalize hq : lcGo _ _ _ _ _ _ _ _ _ = q
    have q1 := loop _ _ _ _ _ _ _ _ hq hD.sides
    subst q1
    simp
  | within t cs o os =>
    simp only [Dep.tab] at ewt htl
    rw [← fin (.str "within") none _ _ rfl rfl]
    simp [P_start, Dep.w, ewt, f1, startRows, Dep.tab]
theorem l_start_run {kp kr : Nat} (ip : Is T kp 2 5 L_parts_of_2) (ir : Is T kr 3 4 L_row_of_2) (i : Is T k 2 9 (L_start kp kr)) (hd : 3 ≤ d) {ws : List Nat} {w : Nat} {dep : Dep} (hD : DepIn ws w dep) :
    evC T N d b k [.tup (nv ws), dep.w] h = .ok (startW ws w dep) h := by
  obtain ⟨d, rfl⟩ : ∃ d', d = d' + 1 := ⟨d - 1, by omega⟩
  rw [i.run rfl]
  have hw := hD.small
  have hn := hD.many
  have e1 := hD.tab
  have hz := size_big
  have htl : dep.tab < ws.length := (List.getElem?_eq_some_iff.mp e1).1
  have hset := start_set hD
  have ewt : (nv ws)[dep.tab]? = some (.int w) := by rw [List.getElem?_map, e1]; rfl
  have f2 := fun (g : Hp) part turn => row_of_run (N := N) (b := h.length) (h := g) ir (by omega : 1 ≤ d) w (by omega) part turn
  have bw : W.tup ((List.range w).map fun c : Nat => W.int (-1 - (c : Int))) = rowW (base w) := by simp [rowW, base]
  have c1 : ∀ w : Nat, w ≤ 100 → w ≤ 100000000 := fun _ _ => by omega
  have fin : ∀ (m : Nat) (g : Hp) (o4 : Option W) (ss : List St) (y : RS), g.take h.length = h → g[m]? = some (.lst (rv (startRows w dep))) → ss = (L_start kp kr).drop 3 → y = .nxt [some (.tup (nv ws)), some dep.w, some (.int w), some (.ref m), o4, none, none, none, none] g → endB h.length (kThen (evC T N d) N h.length ss y) = .ok (startW ws w dep) h := by
    intro m g o4 ss y hg hm hss hy
    subst hss hy
    have hml : m < g.length := (List.getElem?_eq_some_iff.mp hm).1
    have hgl : h.length ≤ g.length := by
      have := congrArg List.length hg
      rw [List.length_take] at this
      omega
    simp [L_start]
    generalize hq : lcGoM _ _ _ _ _ _ _ _ _ = q
    have q1 := lcM_copy hq (fun c : Nat => W.int c) (fun _ => W.tup []) ws rfl (fun _ => by simp) (fun x hx acc => by
      simp only [lcB_m]
      simp) (by omega)
    subst q1
    have m2 : ∀ o : Obj, (g ++ [o])[m]? = some (.lst (rv (startRows w dep))) := fun o => by
      rw [List.getElem?_append_left hml]
      exact hm
    have ix : primF .idx [dep.w, .int 1] = some (.int dep.tab) := by cases dep <;> rfl
    have dr : ∀ h, deref h dep.w = dep.w := fun h => by cases dep <;> rfl
    have mp : ∀ x, mayPut h.length g.length x = true := fun x => by simp [mayPut, hgl]
    have cst : ws.map (fun _ => W.tup []) = List.replicate ws.length (W.tup []) := List.map_const' ..  
    have tk : ∀ o : Obj, (g ++ [o]).take h.length = h := fun o => by rw [List.take_append_of_le_length hgl, hg]
    have hb : below h.length (startW ws w dep) = true := startW_below
    simp only [startW] at hb
    simp [m2, ix, dr, hset, htl, mp, cst, startW, end_val hb, tk]
  cases dep with
  | settles t l r =>
    simp only [Dep.tab] at ewt htl
    simp [L_start, Dep.w, ewt, it_rng1 (c1 w hw)]
    generalize hq : lcGo _ _ _ _ _ _ _ _ _ = q
    have q1 := lc_pure hq (fun c : Nat => W.int c) (fun c : Nat => W.int (-1 - (c : Int))) (List.range w) rfl (fun c hx => by
      simp only [lcB_m]
      simp) (by simp; omega)
    subst q1
    have e3 : evC T N d h.length kr [.int w, .tup (nv l), .int 1] (h ++ [.lst [rowW (base w)]]) = .ok (rowW (rowOf w l 1)) (h ++ [.lst [rowW (base w)]]) := f2 _ l 1
    have mp : ∀ x, mayPut h.length h.length x = true := fun x => by simp [mayPut]
    have h1 : 1 < sizeLine := by omega
    rw [← fin h.length (h ++ [.lst [rowW (base w), rowW (rowOf w l 1)]]) none _ _ (by simp) (by simp [startRows]) rfl rfl]
    simp [bw, e3, mp, h1, L_start, Dep.w]
  | deals t l r =>
    simp only [Dep.tab] at ewt htl
    have f3 := fun g => lparts_deals (N := N) (b := h.length) (h := g) ip (by omega : 1 ≤ d) w (by omega) t l r (by have := hD.sides; simp only at this; omega) (by have := hD.sides; simp only at this; omega)
    have e5 : startRows w (Dep.deals t l r) = partRows w [oneP w l r, twoP w l r] := rfl
    rw [e5] at fin
    have hl : [oneP w l r, twoP w l r].length ≤ 20 := by simp
    generalize [oneP w l r, twoP w l r] = ps at f3 hl fin
    simp only [Dep.w] at f3
    simp [L_start, Dep.w, ewt, it_rng1 (c1 w hw)]
    generalize hq : lcGo _ _ _ _ _ _ _ _ _ = q
    have q1 := lc_pure hq (fun c : Nat => W.int c) (fun c : Nat => W.int (-1 - (c : Int))) (List.range w) rfl (fun c hx => by
      simp only [lcB_m]
      simp) (by simp; omega)
    subst q1
    simp [bw, f3, it_rng1 (show ps.length ≤ 100000000 by omega)]
    generalize hq : lcGoM _ _ _ _ _ _ _ _ _ = q
    have q1 := lcM_copy hq (fun i : Nat => W.int i) (fun i => rowW (rowOf w (ps[i]?.getD []) (i + 1))) (List.range ps.length) rfl (fun acc => by simp) (fun i hi acc => by
      have hil : i < ps.length := List.mem_range.mp hi
      have e := f2 (h ++ [.lst [rowW (base w)]] ++ [.lst acc]) (ps[i]?.getD []) (i + 1)
      have cc : ((i + 1 : Nat) : Int) = (i : Int) + 1 := by omega
      have eg : ps[i]?.getD [] = ps[i] := by rw [List.getElem?_eq_getElem hil]; rfl
      rw [cc] at e
      simp only [eg] at e ⊢
      simp at e
      simp only [lcB_m]
      simp [hil, e]) (by simp; omega)
    subst q1
    have e6 : (List.range ps.length).map (fun i => rowW (rowOf w (ps[i]?.getD []) (i + 1))) = rv (partRows w ps) := by simp [partRows]
    rw [e6, ← fin (h.length + 1) (h ++ [.lst [rowW (base w)], .lst (rv (partRows w ps))]) (some (.tup (pv ps))) _ _ (by simp) (by simp) rfl rfl]
    simp [L_start, Dep.w]
  | joins t ps =>
    simp only [Dep.tab] at ewt htl
    have f3 := fun g => lparts_joins (N := N) (b := h.length) (h := g) ip (by omega : 1 ≤ d) w t ps
    have e5 : startRows w (Dep.joins t ps) = partRows w ps := rfl
    rw [e5] at fin
    have hl : ps.length ≤ 20 := hD.sides
    simp only [Dep.w] at f3
    simp [L_start, Dep.w, ewt, it_rng1 (c1 w hw)]
    generalize hq : lcGo _ _ _ _ _ _ _ _ _ = q
    have q1 := lc_pure hq (fun c : Nat => W.int c) (fun c : Nat => W.int (-1 - (c : Int))) (List.range w) rfl (fun c hx => by
      simp only [lcB_m]
      simp) (by simp; omega)
    subst q1
    simp [bw, f3, it_rng1 (show ps.length ≤ 100000000 by omega)]
    generalize hq : lcGoM _ _ _ _ _ _ _ _ _ = q
    have q1 := lcM_copy hq (fun i : Nat => W.int i) (fun i => rowW (rowOf w (ps[i]?.getD []) (i + 1))) (List.range ps.length) rfl (fun acc => by simp) (fun i hi acc => by
      have hil : i < ps.length := List.mem_range.mp hi
      have e := f2 (h ++ [.lst [rowW (base w)]] ++ [.lst acc]) (ps[i]?.getD []) (i + 1)
      have cc : ((i + 1 : Nat) : Int) = (i : Int) + 1 := by omega
      have eg : ps[i]?.getD [] = ps[i] := by rw [List.getElem?_eq_getElem hil]; rfl
      rw [cc] at e
      simp only [eg] at e ⊢
      simp at e
      simp only [lcB_m]
      simp [hil, e]) (by simp; omega)
    subst q1
    have e6 : (List.range ps.length).map (fun i => rowW (rowOf w (ps[i]?.getD []) (i + 1))) = rv (partRows w ps) := by simp [partRows]
    rw [e6, ← fin (h.length + 1) (h ++ [.lst [rowW (base w)], .lst (rv (partRows w ps))]) (some (.tup (pv ps))) _ _ (by simp) (by simp) rfl rfl]
    simp [L_start, Dep.w]
  | within t cs o os =>
    simp only [Dep.tab] at ewt htl
    simp [L_start, Dep.w, ewt, it_rng1 (c1 w hw)]
    generalize hq : lcGo _ _ _ _ _ _ _ _ _ = q
    have q1 := lc_pure hq (fun c : Nat => W.int c) (fun c : Nat => W.int (-1 - (c : Int))) (List.range w) rfl (fun c hx => by
      simp only [lcB_m]
      simp) (by simp; omega)
    subst q1
    rw [← fin h.length (h ++ [.lst [rowW (base w)]]) none _ _ (by simp) (by simp [startRows]) rfl rfl]
    simp [bw, L_start, Dep.w]
end
end Ow

/-! N11: drawn schemes, parts and dependencies of the second kind. -/
namespace Ow
open PySem SetF
def Dep.Few : Dep → Prop
  | .joins _ ps => ps.length ≤ 3
  | _ => True
section
variable {T : List Def} {N d b k kt kc kp ks km a n m : Nat} {H : List Int → Hp} {h : Hp}
theorem cast1 (u : Nat) : ∃ v : Nat, (1 : Int) + (u : Int) = (v : Int) ∧ v = 1 + u := ⟨1 + u, by omega, rfl⟩
theorem scheme2_run (it : Is T kt 2 2 L_take) (i : Is T k 1 2 (L_scheme_2 kt)) (hd : 2 ≤ d) (hH : Hd H a n) (ds : List Int) :
    ∃ (ws : List Nat) (ds' : List Int), evC T N d b k [.ref a] (H ds) = .ok (.tup (nv ws)) (H ds') ∧ SchemeOk ws 6 7 := by
  obtain ⟨d, rfl⟩ : ∃ d', d = d' + 1 := ⟨d - 1, by omega⟩
  rw [i.run rfl]
  obtain ⟨v, d1, e1, h1⟩ := take_run (N := N) (b := n) it (by omega : 1 ≤ d) hH ds (m := 5) (by omega)
  by_cases c1 : (v : Int) < 2
  · obtain ⟨u, d2, e2, h2⟩ := take_run (N := N) (b := n) it (by omega : 1 ≤ d) hH d1 (m := 6) (by omega)
    obtain ⟨s, hs, es⟩ := getN [2, 3, 3, 4, 4, 4] u (by simp; omega)
    simp only [List.map, Int.cast_ofNat_Int] at es
    refine ⟨[s], d2, ?_, by simp, by simp, fun w hw => ?_⟩
    · simp [L_scheme_2, hH.len, e1, c1, e2, es, end_val, hH.take1]
    · rw [List.mem_singleton.mp hw]
      simp only [List.mem_cons, List.not_mem_nil, or_false] at hs
      omega
  · by_cases c2 : (v : Int) < 4
    · obtain ⟨u, d2, e2, h2⟩ := take_run (N := N) (b := n) it (by omega : 1 ≤ d) hH d1 (m := 3) (by omega)
      obtain ⟨u', d3, e3, h3⟩ := take_run (N := N) (b := n) it (by omega : 1 ≤ d) hH d2 (m := 3) (by omega)
      obtain ⟨s, q1, r1⟩ := cast1 u
      obtain ⟨s', q2, r2⟩ := cast1 u'
      refine ⟨[s, s'], d3, ?_, by simp, by simp, fun w hw => ?_⟩
      · simp [L_scheme_2, hH.len, e1, c1, c2, e2, e3, q1, q2, end_val, hH.take1]
      · simp only [List.mem_cons, List.not_mem_nil, or_false] at hw
        omega
    · obtain ⟨u, d2, e2, h2⟩ := take_run (N := N) (b := n) it (by omega : 1 ≤ d) hH d1 (m := 2) (by omega)
      obtain ⟨u', d3, e3, h3⟩ := take_run (N := N) (b := n) it (by omega : 1 ≤ d) hH d2 (m := 2) (by omega)
      obtain ⟨u'', d4, e4, h4⟩ := take_run (N := N) (b := n) it (by omega : 1 ≤ d) hH d3 (m := 2) (by omega)
      obtain ⟨s, q1, r1⟩ := cast1 u
      obtain ⟨s', q2, r2⟩ := cast1 u'
      obtain ⟨s'', q3, r3⟩ := cast1 u''
      refine ⟨[s, s', s''], d4, ?_, by simp, by simp, fun w hw => ?_⟩
      · simp [L_scheme_2, hH.len, e1, c1, c2, e2, e3, e4, q1, q2, q3, end_val, hH.take1]
      · simp only [List.mem_cons, List.not_mem_nil, or_false] at hw
        omega
theorem mixed_run (it : Is T kt 2 2 L_take) (i : Is T k 2 4 (L_mixed kt)) (hd : 2 ≤ d) (hH : Hd H a n) (ds : List Int) (w : Nat) (hw : w ≤ 1000) :
    ∃ (cs : List Nat) (ds' : List Int), evC T N d b k [.ref a, .int w] (H ds) = .ok (.ref n) (H ds' ++ [.lst (nv cs)]) ∧ cs.Perm (List.range w) := by
  obtain ⟨d, rfl⟩ : ∃ d', d = d' + 1 := ⟨d - 1, by omega⟩
  rw [i.run rfl]
  have hz := size_big
  simp [L_mixed, hH.len, it_rng1 (show w ≤ 100000000 by omega)]
  generalize hq : forGo _ _ _ _ _ _ _ _ _ _ _ = q
  obtain ⟨⟨d1, zs⟩, rfl, h1⟩ := for_st hq (fun i : Nat => W.int i) (fun _ : List Int × List Nat => [some (.ref a), some (.int w), some (.ref n), none]) (fun s => H s.1 ++ [.lst (nv s.2)]) (fun i s => s.2.Perm (List.range i)) (List.range w) rfl (ds, []) rfl (by simp) (by simp) (fun s i _ => by simp) (fun i x s hx hI => by
    obtain ⟨ds, zs⟩ := s
    obtain ⟨hi, he⟩ := List.getElem?_eq_some_iff.mp hx
    rw [List.length_range] at hi
    rw [List.getElem_range] at he
    subst he
    have hzl : zs.length = i := by simpa using hI.length_eq
    have hH1 := hH.app [.lst (nv zs)]
    obtain ⟨v, d1, e1, h1⟩ := take_run (N := N) (b := n) it (by omega : 1 ≤ d) hH1 ds (m := (zs.length : Int) + 1) (by omega)
    have hm : ∀ x, mayPut n n x = true := fun x => by simp [mayPut]
    refine ⟨(d1, zs.take v ++ i :: zs.drop v), ?_, ?_⟩
    · have c1 : zs.length < sizeLine := by omega
      have c2 : v ≤ zs.length := by omega
      simp [forB_m, hH.at0, e1, hm, c1, c2, hH.st0]
    · refine (List.perm_middle).trans ?_
      rw [List.take_append_drop, List.range_succ]
      exact (List.Perm.cons i hI).trans (List.perm_append_comm (l₁ := [i])))
  rw [List.length_range] at h1
  refine ⟨zs, ⟨d1, ?_⟩, h1⟩
  have hb : belowL n (nv zs) = true := belowL_nv
  simp [end_ref (Nat.le_refl n) (hH.at0 d1 [.lst (nv zs)]) hb, hH.take0]
theorem columns2_run (it : Is T kt 2 2 L_take) (i : Is T k 2 3 (L_columns_2 kt)) (hd : 2 ≤ d) (hH : Hd H a n) (ds : List Int) (w : Nat) (hw : w ≤ 1000) :
    ∃ (cs : List Nat) (ds' : List Int), evC T N d b k [.ref a, .int w] (H ds) = .ok (.tup (nv cs)) (H ds') ∧ cs.Sublist (List.range w) := by
  obtain ⟨d, rfl⟩ : ∃ d', d = d' + 1 := ⟨d - 1, by omega⟩
  rw [i.run rfl]
  simp [L_columns_2, hH.len, it_rng1 (show w ≤ 100000000 by omega)]
  generalize hq : lcGo _ _ _ _ _ _ _ _ _ = q
  obtain ⟨cs, d2, rfl, h2⟩ := lc_drawF hq H ds rfl (fun _ => by simp) (fun i : Nat => W.int i) (fun i : Nat => W.int i) (List.range w) rfl (fun x hx ds => by
    obtain ⟨v, d1, e1, h1⟩ := take_run (N := N) (b := n) it (by omega : 1 ≤ d) hH ds (m := 2) (by omega)
    refine ⟨d1, ?_⟩
    simp only [lcB_m]
    by_cases hv : v = 0
    · exact .inl (by simp [e1, hv])
    · exact .inr (by simp [e1, hv])) (by simp; omega)
  refine ⟨cs, ⟨d2, ?_⟩, h2⟩
  simp [end_val, belowL_map, hH.take1]
theorem parts2_run (it : Is T kt 2 2 L_take) (i : Is T k 2 7 (L_parts_2 kt)) (hd : 2 ≤ d) (hH : Hd H a n) (ds : List Int) (w : Nat) (hw : w ≤ 1000) :
    ∃ (ps : List (List Nat)) (ds' : List Int), evC T N d b k [.ref a, .int w] (H ds) = .ok (.tup (pv ps)) (H ds') ∧ ps.length ≤ 3 := by
  obtain ⟨d, rfl⟩ : ∃ d', d = d' + 1 := ⟨d - 1, by omega⟩
  rw [i.run rfl]
  obtain ⟨v, d1, e1, h1⟩ := take_run (N := N) (b := n) it (by omega : 1 ≤ d) hH ds (m := 2) (by omega)
  obtain ⟨mv, e1v, hmv⟩ : ∃ mv : Nat, (2 : Int) + (v : Int) = (mv : Int) ∧ mv = 2 + v := ⟨2 + v, by omega, rfl⟩
  have hv : mv ≤ 3 := by omega
  have hz := size_big
  simp [L_parts_2, hH.len, e1, e1v, it_rng1 (show mv ≤ 100000000 by omega)]
  generalize hq : lcGo _ _ _ _ _ _ _ _ _ = q
  obtain ⟨rows, ys, rfl, ⟨hI1, hI2, hI3⟩, _⟩ := lc_st hq (fun i : Nat => W.int i) (fun s : List (List Nat) => H d1 ++ s.map fun r => Obj.lst (nv r)) (fun i s acc => s.length = i ∧ acc = (List.range i).map (fun j => W.ref (n + j)) ∧ ∀ r ∈ s, r.length ≤ 0) (List.range mv) rfl [] (by simp) ⟨rfl, rfl, fun r hr => by cases hr⟩ (fun _ _ _ _ => by simp) (fun i x s acc hx hI => by
    obtain ⟨hI1, hI2, hI3⟩ := hI
    refine ⟨s ++ [[]], some (.ref (n + s.length)), ?_, by simp [hI1], ?_, fun r hr => ?_⟩
    · simp only [lcB_m]
      simp [hH.len]
    · rw [hI2, List.range_succ]
      simp [hI1]
    · rcases List.mem_append.mp hr with hr | hr
      · exact hI3 r hr
      · rw [List.mem_singleton.mp hr]
        exact Nat.le_refl _) (by simp; omega)
  rw [List.length_range] at hI1 hI2
  subst hI2
  have hItem : ∀ (ds : List Int) (rows : List (List Nat)), rows.length = mv → ∀ j, j < mv → (H ds ++ rows.map fun r => Obj.lst (nv r))[n + j]? = some (.lst (nv (rows[j]?.getD []))) := fun ds rows hl j hj => rows_at hH ds rows j (by omega)
  simp [it_rng1 (show w ≤ 100000000 by omega)]
  generalize hq : forGo _ _ _ _ _ _ _ _ _ _ _ = q
  obtain ⟨⟨d3, rows3, o5⟩, rfl, hJ1, hJ2⟩ := for_st hq (fun i : Nat => W.int i) (fun s : List Int × List (List Nat) × Option W => [some (.ref a), some (.int w), some (.lst ((List.range mv).map fun j => .ref (n + j))), none, none, s.2.2, none]) (fun s => H s.1 ++ s.2.1.map fun r => Obj.lst (nv r))
    (fun i s => s.2.1.length = mv ∧ ∀ r ∈ s.2.1, r.length ≤ i) (List.range w) rfl (d1, rows, none) rfl rfl ⟨hI1, hI3⟩ (fun s i _ => by simp) (fun i x s hx hI => by
    obtain ⟨ds, rows, o⟩ := s
    obtain ⟨hJ1, hJ2⟩ := hI
    simp only at hJ1 hJ2
    obtain ⟨hi, rfl⟩ : i < w ∧ i = x := by
      obtain ⟨h1, h2⟩ := List.getElem?_eq_some_iff.mp hx
      rw [List.getElem_range] at h2
      rw [List.length_range] at h1
      exact ⟨h1, h2⟩
    have hHr := hH.app (rows.map fun r => Obj.lst (nv r))
    obtain ⟨u, d4, e4, h4⟩ := take_run (N := N) (b := n) it (by omega : 1 ≤ d) hHr ds (m := mv) (by omega)
    simp [forB_m, -Prod.exists, e4, it_rng1 (show mv ≤ 100000000 by omega)]
    generalize hq : forGo _ _ _ _ _ _ _ _ _ _ _ = q
    obtain ⟨⟨d5, rows5, o6⟩, rfl, hK1, hK2⟩ := for_st hq (fun i : Nat => W.int i) (fun s : List Int × List (List Nat) × Option W => [some (.ref a), some (.int w), some (.lst ((List.range mv).map fun j => .ref (n + j))), some (.int i), some (.int u), s.2.2, none]) (fun s => H s.1 ++ s.2.1.map fun r => Obj.lst (nv r))
      (fun t s => s.2.1.length = mv ∧ ∀ j, (s.2.1[j]?.getD []).length ≤ i + (if j < t then 1 else 0)) (List.range mv) rfl (d4, rows, o) rfl rfl ⟨hJ1, fun j => by
        show (rows[j]?.getD []).length ≤ _
        by_cases hj : j < rows.length
        · have := hJ2 _ (getD_mem hj)
          omega
        · rw [List.getElem?_eq_none (by omega)]
          simp⟩ (fun s i _ => by simp) (fun t x s hx hI => by
      obtain ⟨ds, rows, o⟩ := s
      obtain ⟨hK1, hK2⟩ := hI
      simp only at hK1 hK2
      obtain ⟨ht, rfl⟩ : t < mv ∧ t = x := by
        obtain ⟨h1, h2⟩ := List.getElem?_eq_some_iff.mp hx
        rw [List.getElem_range] at h2
        rw [List.length_range] at h1
        exact ⟨h1, h2⟩
      have hHr := hH.app (rows.map fun r => Obj.lst (nv r))
      have hat := hItem ds rows hK1 t ht
      have ht2 : (List.range mv)[t]? = some t := by rw [List.getElem?_range ht]
      have hkt := hK2 t
      have hlt : (rows[t]?.getD []).length < sizeLine := by
        have : (if t < t then 1 else 0) ≤ 1 := by split <;> omega
        omega
      have put : ∀ d : List Int, (H d ++ (rows.map fun r => Obj.lst (nv r))).set (n + t) (.lst (nv (rows[t]?.getD []) ++ [.int i])) = H d ++ (rows.set t (rows[t]?.getD [] ++ [i])).map fun r => Obj.lst (nv r) := fun d => by
        rw [← rows_set hH]
        congr 2
        simp
      have bound : ∀ j, ((rows.set t (rows[t]?.getD [] ++ [i]))[j]?.getD []).length ≤ i + (if j < t + 1 then 1 else 0) := fun j => by
        have hkj := hK2 j
        by_cases hj : j = t
        · subst hj
          rw [List.getElem?_set_self (by omega), Option.getD_some, List.length_append, List.length_singleton, if_pos (by omega)]
          rw [if_neg (by omega)] at hkj
          omega
        · rw [List.getElem?_set_ne (Ne.symm hj)]
          refine Nat.le_trans hkj (Nat.add_le_add_left ?_ _)
          split <;> split <;> omega
      have bound2 : ∀ j, (rows[j]?.getD []).length ≤ i + (if j < t + 1 then 1 else 0) := fun j => by
        refine Nat.le_trans (hK2 j) (Nat.add_le_add_left ?_ _)
        split <;> split <;> omega
      by_cases htu : t = u
      · refine ⟨(ds, rows.set t (rows[t]?.getD [] ++ [i]), some (.int t)), ?_, by simpa using hK1, bound⟩
        subst htu
        simp [forB_m, ht2, hat, mayPut, hlt]
        have := put ds
        simpa using this
      · have htu2 : ¬ (t : Int) = (u : Int) := by omega
        obtain ⟨z, d5, e5, h5⟩ := take_run (N := N) (b := n) it (by omega : 1 ≤ d) hHr ds (m := 3) (by omega)
        have hat2 := hItem d5 rows hK1 t ht
        by_cases hz0 : z = 0
        · refine ⟨(d5, rows.set t (rows[t]?.getD [] ++ [i]), some (.int t)), ?_, by simpa using hK1, bound⟩
          simp [forB_m, htu2, e5, hz0, ht2, hat2, mayPut, hlt]
          have := put d5
          simpa using this
        · refine ⟨(d5, rows, some (.int t)), ?_, hK1, bound2⟩
          simp [forB_m, htu2, e5, hz0])
    refine ⟨(d5, rows5, o6), by simp, hK1, fun r hr => ?_⟩
    obtain ⟨j, hj, e⟩ := mem_getD hr
    have := hK2 j
    rw [e] at this
    split at this <;> omega)
  simp only at hJ1 hJ2
  have hat := hItem d3 rows3 hJ1
  simp
  generalize hq : lcGo _ _ _ _ _ _ _ _ _ = q
  have e2 := lc_pureF hq (fun j : Nat => W.ref (n + j)) (fun j => decide (0 < (rows3[j]?.getD []).length)) (fun j : Nat => W.tup (nv (rows3[j]?.getD []))) (List.range mv) rfl (fun j hj hp => by
      have hat' := hat j (List.mem_range.mp hj)
      simp only [decide_eq_true_eq] at hp
      simp only [lcB_m]
      simp [hat', hp]) (fun j hj hp => by
      have hat' := hat j (List.mem_range.mp hj)
      simp only [decide_eq_false_iff_not] at hp
      simp only [lcB_m]
      simp [hat', hp]) (by simp; omega)
  subst e2
  refine ⟨((List.range mv).filter fun j => decide (0 < (rows3[j]?.getD []).length)).map fun j => rows3[j]?.getD [], ⟨d3, ?_⟩, ?_⟩
  · rw [pv, List.map_map]
    simp [end_val, belowL_map, hH.take0]
  · rw [List.length_map]
    have := List.length_filter_le (fun j => decide (0 < (rows3[j]?.getD []).length)) (List.range mv)
    rw [List.length_range] at this
    omega
theorem in_table_run (it : Is T kt 2 2 L_take) (ic : Is T kc 2 3 (L_columns_2 kt)) (ip : Is T kp 2 7 (L_parts_2 kt)) (i : Is T k 3 5 (L_in_table kt kc kp)) (hd : 3 ≤ d) (hH : Hd H a n) (ds : List Int) {ws : List Nat} (hws : SchemeOk ws 6 7) (t : Nat) (ht : t < ws.length) :
    ∃ (w : Nat) (dep : Dep) (ds' : List Int), evC T N d b k [.ref a, .tup (nv ws), .int t] (H ds) = .ok dep.w (H ds') ∧ DepIn ws w dep ∧ dep.Few := by
  obtain ⟨d, rfl⟩ : ∃ d', d = d' + 1 := ⟨d - 1, by omega⟩
  rw [i.run rfl]
  obtain ⟨w, hw, ew, ew'⟩ := getN2 ws t ht
  have w1 := hws.each w hw
  have hl := hws.len
  obtain ⟨v, d1, e1, h1⟩ := take_run (N := N) (b := n) it (by omega : 1 ≤ d) hH ds (m := 6) (by omega)
  have sub : ∀ cs : List Nat, cs.Sublist (List.range w) → cs.length ≤ 100 := fun cs h => by
    have := h.length_le
    rw [List.length_range] at this
    omega
  by_cases c1 : (v : Int) < 2
  · obtain ⟨l, d2, e2, h2⟩ := columns2_run (N := N) (b := n) it ic (by omega : 2 ≤ d) hH d1 w (by omega)
    obtain ⟨r, d3, e3, h3⟩ := columns2_run (N := N) (b := n) it ic (by omega : 2 ≤ d) hH d2 w (by omega)
    refine ⟨w, .settles t l r, d3, ?_, ⟨ew', by omega, by omega, by omega, trivial⟩, trivial⟩
    have hb : below n (Dep.settles t l r).w = true := Dep.below n _
    simp only [Dep.w] at hb ⊢
    simp [L_in_table, hH.len, ew, e1, c1, e2, e3, end_val hb, hH.take1]
  · by_cases c2 : (v : Int) < 5
    · obtain ⟨l, d2, e2, h2⟩ := columns2_run (N := N) (b := n) it ic (by omega : 2 ≤ d) hH d1 w (by omega)
      obtain ⟨r, d3, e3, h3⟩ := columns2_run (N := N) (b := n) it ic (by omega : 2 ≤ d) hH d2 w (by omega)
      refine ⟨w, .deals t l r, d3, ?_, ⟨ew', by omega, by omega, by omega, sub l h2, sub r h3⟩, trivial⟩
      have hb : below n (Dep.deals t l r).w = true := Dep.below n _
      simp only [Dep.w] at hb ⊢
      simp [L_in_table, hH.len, ew, e1, c1, c2, e2, e3, end_val hb, hH.take1]
    · obtain ⟨ps, d2, e2, h2⟩ := parts2_run (N := N) (b := n) it ip (by omega : 2 ≤ d) hH d1 w (by omega)
      refine ⟨w, .joins t ps, d2, ?_, ⟨ew', by omega, by omega, by omega, show ps.length ≤ 20 by omega⟩, h2⟩
      have hb : below n (Dep.joins t ps).w = true := Dep.below n _
      simp only [Dep.w] at hb ⊢
      simp [L_in_table, hH.len, ew, e1, c1, c2, e2, end_val hb, hH.take1]
theorem inclusion2_run (it : Is T kt 2 2 L_take) (im : Is T km 2 4 (L_mixed kt)) (i : Is T k 3 9 (L_inclusion_2 kt km)) (hd : 3 ≤ d) (hH : Hd H a n) (ds : List Int) {ws order : List Nat} (hws : SchemeOk ws 6 7) (hwl : 2 ≤ ws.length)
    (ho : ∀ ds, (H ds)[m]? = some (.lst (nv order))) (hm : m < n) (hp : order.Perm (List.range ws.length)) :
    ∃ (w : Nat) (dep : Dep) (ds' : List Int), evC T N d b k [.ref a, .tup (nv ws), .ref m] (H ds) = .ok dep.w (H ds') ∧ DepIn ws w dep ∧ dep.Few := by
  obtain ⟨d, rfl⟩ : ∃ d', d = d' + 1 := ⟨d - 1, by omega⟩
  rw [i.run rfl]
  have hl := hws.len
  have hol : order.length = ws.length := by simpa using hp.length_eq
  obtain ⟨f, d1, e1, h1⟩ := take_run (N := N) (b := n) it (by omega : 1 ≤ d) hH ds (m := (order.length : Int) - 1) (by omega)
  obtain ⟨t, ht, et, et'⟩ := getN2 order f (by omega)
  obtain ⟨g, d2, e2, h2⟩ := take_run (N := N) (b := n) it (by omega : 1 ≤ d) hH d1 (m := (order.length : Int) - 1 - f) (by omega)
  obtain ⟨fg, c1, hfg⟩ : ∃ fg : Nat, ((f : Int) + 1 + g) = (fg : Int) ∧ fg = f + 1 + g := ⟨f + 1 + g, by omega, rfl⟩
  obtain ⟨o, hoo, eo, eo'⟩ := getN2 order fg (by omega)
  have lt_of : ∀ x ∈ order, x < ws.length := fun x hx => List.mem_range.mp (hp.subset hx)
  obtain ⟨wt, hwt, ewt, ewt'⟩ := getN2 ws t (lt_of t ht)
  obtain ⟨wo, hwo, ewo, ewo'⟩ := getN2 ws o (lt_of o hoo)
  have w1 := hws.each wt hwt
  have w2 := hws.each wo hwo
  obtain ⟨mn, hmn, hm1⟩ : ∃ mn : Nat, (if wo < wt then (wo : Int) else (wt : Int)) = (mn : Int) ∧ 1 ≤ mn := by
    by_cases h : wo < wt
    · exact ⟨wo, by rw [if_pos h], by omega⟩
    · exact ⟨wt, by rw [if_neg h], by omega⟩
  obtain ⟨u, d3, e3, h3⟩ := take_run (N := N) (b := n) it (by omega : 1 ≤ d) hH d2 (m := mn) (by omega)
  obtain ⟨u1, c2, hu1⟩ := cast1 u
  obtain ⟨cs, d4, e4, p4⟩ := mixed_run (N := N) (b := n) it im (by omega : 2 ≤ d) hH d3 wt (by omega)
  have hH1 := hH.app [.lst (nv cs)]
  have ho1 : ∀ ds, (H ds ++ [Obj.lst (nv cs)])[m]? = some (.lst (nv order)) := fun ds => by
    rw [List.getElem?_append_left (by rw [hH.len]; exact hm)]
    exact ho ds
  obtain ⟨os, d5, e5, p5⟩ := mixed_run (N := N) (b := n) it im (by omega : 2 ≤ d) hH1 d4 wo (by omega)
  have hat : ((H d5 ++ [Obj.lst (nv cs)]) ++ [Obj.lst (nv os)])[n + 1]? = some (.lst (nv os)) := by
    rw [List.append_assoc, hH.at]; rfl
  simp at e5 hat
  refine ⟨wt, .within t (cs.take u1) o (os.take u1), d5, ?_, ⟨ewt', by omega, by omega, by omega, trivial⟩, trivial⟩
  have hb : below n (Dep.within t (cs.take u1) o (os.take u1)).w = true := Dep.below n _
  simp only [L_inclusion_2]
  simp [hH.len, ho, e1, et, e2, c1, eo, ewt, ewo, hmn, e3, c2, e4, hH.at0, ho1, e5, hat]
  rw [← List.map_take, ← List.map_take]
  show endCall false n (Dep.within t (cs.take u1) o (os.take u1)).w _ = _
  rw [end_val hb, hH.take0]
theorem dependency2_run {kn kj : Nat} (it : Is T kt 2 2 L_take) (ic : Is T kc 2 3 (L_columns_2 kt)) (ip : Is T kp 2 7 (L_parts_2 kt)) (im : Is T km 2 4 (L_mixed kt)) (in_ : Is T kn 3 5 (L_in_table kt kc kp)) (ij : Is T kj 3 9 (L_inclusion_2 kt km)) (i : Is T k 3 3 (L_dependency_2 kt kn kj)) (hd : 4 ≤ d) (hH : Hd H a n) (ds : List Int) {ws order : List Nat} (hws : SchemeOk ws 6 7)
    (ho : ∀ ds, (H ds)[m]? = some (.lst (nv order))) (hm : m < n) (hp : order.Perm (List.range ws.length)) :
    ∃ (w : Nat) (dep : Dep) (ds' : List Int), evC T N d b k [.ref a, .tup (nv ws), .ref m] (H ds) = .ok dep.w (H ds') ∧ DepIn ws w dep ∧ dep.Few := by
  obtain ⟨d, rfl⟩ : ∃ d', d = d' + 1 := ⟨d - 1, by omega⟩
  rw [i.run rfl]
  have hw0 : 0 < ws.length := List.length_pos_iff.mpr hws.ne
  have rest : ∀ ds, ∃ (w : Nat) (dep : Dep) (ds' : List Int), endB n (evB (evC T N d) N n [.ret (.call kn [.var 0, .var 1, .call kt [.var 0, .pr false .len [.var 1]]])] [some (.ref a), some (.tup (nv ws)), some (.ref m)] (H ds)) = .ok dep.w (H ds') ∧ DepIn ws w dep ∧ dep.Few := fun ds => by
    obtain ⟨v, d1, e1, h1⟩ := take_run (N := N) (b := n) it (by omega : 1 ≤ d) hH ds (m := ws.length) (by omega)
    obtain ⟨w, dep, d2, e2, h2⟩ := in_table_run (N := N) (b := n) it ic ip in_ (by omega : 3 ≤ d) hH d1 hws v (by omega)
    refine ⟨w, dep, d2, ?_, h2⟩
    simp [e1, e2, end_val (Dep.below n dep), hH.take1]
  by_cases c1 : 1 < ws.length
  · have c1' : (1 : Int) < (ws.length : Int) := by omega
    obtain ⟨v, d1, e1, h1⟩ := take_run (N := N) (b := n) it (by omega : 1 ≤ d) hH ds (m := 2) (by omega)
    by_cases hv : v = 0
    · obtain ⟨w, dep, d2, e2, h2⟩ := inclusion2_run (N := N) (b := n) it im ij (by omega : 3 ≤ d) hH d1 hws (by omega) ho hm hp
      refine ⟨w, dep, d2, ?_, h2⟩
      simp [L_dependency_2, hH.len, c1, c1', e1, hv, e2, end_val (Dep.below n dep), hH.take1]
    · obtain ⟨w, dep, d2, e2, h2⟩ := rest d1
      refine ⟨w, dep, d2, ?_, h2⟩
      rw [← e2]
      simp [L_dependency_2, hH.len, c1, c1', e1, hv]
  · have c1' : ¬ (1 : Int) < (ws.length : Int) := by omega
    obtain ⟨w, dep, d2, e2, h2⟩ := rest ds
    refine ⟨w, dep, d2, ?_, h2⟩
    rw [← e2]
    simp [L_dependency_2, hH.len, c1, c1']
/-- the same values are the same (the second kind) -/
theorem same2_int_run (i : Is T k 2 3 (L_same_2 k)) (hd : 1 ≤ d) (x : Int) : SameAt T N k d (.int x) := by
  intro b h
  obtain ⟨d, rfl⟩ : ∃ d', d = d' + 1 := ⟨d - 1, by omega⟩
  rw [i.run rfl]
  simp [L_same_2, end_val]
theorem same2_tup_run (i : Is T k 2 3 (L_same_2 k)) (ws : List W) (hl : ws.length ≤ 100000) (h1 : ∀ w ∈ ws, SameAt T N k d w) : SameAt T N k (d + 1) (.tup ws) := by
  intro b h
  rw [i.run rfl]
  simp [L_same_2, it_rng1 (show ws.length ≤ 100000000 by omega)]
  generalize hq : forGo _ _ _ _ _ _ _ _ _ _ _ = q
  obtain ⟨_, rfl, _⟩ := for_st hq (fun i : Nat => W.int i) (fun _ : Unit => [some (.tup ws), some (.tup ws), none]) (fun _ => h) (fun _ _ => True) (List.range ws.length) rfl () rfl rfl trivial (fun _ _ _ => by simp) (fun i x s hx _ => by
    have hi : i < ws.length := by
      have := (List.getElem?_eq_some_iff.mp hx).1
      rwa [List.length_range] at this
    obtain ⟨_, he⟩ := List.getElem?_eq_some_iff.mp hx
    rw [List.getElem_range] at he
    subst he
    have e1 := h1 ws[i] (List.getElem_mem hi) h.length h
    have e2 : ws[i]? = some ws[i] := List.getElem?_eq_getElem hi
    refine ⟨(), ?_, trivial⟩
    simp only [forB_m]
    simp [hi, e1])
  simp [end_val]
theorem same2_rows_run (i : Is T k 2 3 (L_same_2 k)) (hd : 3 ≤ d) (rows : List (List Int)) (hl : rows.length ≤ 100000) (hr : ∀ r ∈ rows, r.length ≤ 100000) : SameAt T N k d (.tup (rv rows)) := by
  obtain ⟨d, rfl⟩ : ∃ d', d = d' + 1 := ⟨d - 1, by omega⟩
  refine same2_tup_run i _ (by simpa using hl) fun w hw => ?_
  obtain ⟨x, hx, rfl⟩ := List.mem_map.mp hw
  obtain ⟨d, rfl⟩ : ∃ d', d = d' + 1 := ⟨d - 1, by omega⟩
  refine same2_tup_run i _ (by simpa using hr x hx) fun w hw => ?_
  obtain ⟨y, _, rfl⟩ := List.mem_map.mp hw
  exact same2_int_run i (by omega) y
theorem same2_start_run (i : Is T k 2 3 (L_same_2 k)) (hd : 4 ≤ d) {ws : List Nat} {w : Nat} {dep : Dep} (hD : DepIn ws w dep) : SameAt T N k d (startW ws w dep) := by
  obtain ⟨d, rfl⟩ : ∃ d', d = d' + 1 := ⟨d - 1, by omega⟩
  have h1 := hD.many
  have h2 := hD.small
  have h3 := startRows_few hD
  refine same2_tup_run i _ (by simp; omega) fun x hx => ?_
  rcases List.mem_or_eq_of_mem_set hx with hx | rfl
  · rw [List.eq_of_mem_replicate hx]
    exact same2_rows_run i (by omega) [] (by simp) (fun r hr => by cases hr)
  · refine same2_rows_run i (by omega) _ ?_ fun r hr => ?_
    · rw [sortRows_len]
      have := length_uniq (startRows w dep)
      omega
    · rw [startRows_len r (mem_sortRows.mp hr)]
      omega
end
end Ow

-- IS: P_told_value P_parts_of P_first_row P_part_row P_start L_draws L_take L_same_2 L_scheme_2 L_mixed L_columns_2 L_parts_2 L_in_table L_inclusion_2 L_dependency_2 L_parts_of_2 L_row_of_2 L_start law_k41
/-! K41: the law of starts. -/
namespace Ow
open PySem SetF
def Dep.kind : Dep → Str
  | .settles _ _ _ => Str.ofString "settles"
  | .deals _ _ _ => Str.ofString "deals"
  | .joins _ _ => Str.ofString "joins"
  | .within _ _ _ _ => Str.ofString "within"
section
variable {T : List Def} {N : Nat}
theorem k41_law {kto kpo kfr kpr kps kdr kt ksa ksc km kc kp kit kin kd klp klr kls k : Nat} (ito : Is T kto 1 1 P_told_value) (ipo : Is T kpo 2 6 P_parts_of) (ifr : Is T kfr 1 2 (P_first_row kto)) (ipr : Is T kpr 3 4 (P_part_row kto)) (ips : Is T kps 2 10 (P_start kpo kfr kpr)) (idr : Is T kdr 2 9 L_draws) (it : Is T kt 2 2 L_take) (isa : Is T ksa 2 3 (L_same_2 ksa)) (isc : Is T ksc 1 2 (L_scheme_2 kt)) (im : Is T km 2 4 (L_mixed kt)) (ic : Is T kc 2 3 (L_columns_2 kt)) (ip : Is T kp 2 7 (L_parts_2 kt)) (iit : Is T kit 3 5 (L_in_table kt kc kp)) (iin : Is T kin 3 9 (L_inclusion_2 kt km)) (id_ : Is T kd 3 3 (L_dependency_2 kt kit kin)) (ilp : Is T klp 2 5 L_parts_of_2) (ilr : Is T klr 3 4 L_row_of_2) (ils : Is T kls 2 9 (L_start klp klr))
    (i : Is T k 1 8 (law_k41 kps kdr kt ksa ksc km kp kd kls)) (ns : List Int) (hn : ns.length ≤ 1000) : ∃ h', evC T N 7 0 k [.slst (iv ns)] [] = .ok (.bl true) h' := by
  rw [i.run rfl]
  obtain ⟨ds, e0⟩ := draws_run (N := N) (b := 0) (m := 830) (h := []) idr (show 1 ≤ 6 by omega) hn (by omega)
  have e0' : evC T N 6 0 kdr [.slst (iv ns), .int 830] [] = .ok (.ref 0) [.lst (iv ds)] := e0
  obtain ⟨ws, d1, e1, hws⟩ := scheme2_run (N := N) (b := 0) it isc (show 2 ≤ 6 by omega) Hd.base ds
  have hl := hws.len
  obtain ⟨order, d2, e2, p2⟩ := mixed_run (N := N) (b := 0) it im (show 2 ≤ 6 by omega) Hd.base d1 ws.length (by omega)
  have e2' : evC T N 6 0 km [.ref 0, .int ws.length] [.lst (iv d1)] = .ok (.ref 1) [.lst (iv d2), .lst (nv order)] := e2
  have hH1 : Hd (fun ds => [.lst (iv ds), .lst (nv order)]) 0 2 := Hd.base.app [.lst (nv order)]
  obtain ⟨v3, d3, e3, h3⟩ := take_run (N := N) (b := 0) it (show 1 ≤ 6 by omega) hH1 d2 (m := 2) (by omega)
  have chk : ∀ (ws : List Nat) (w : Nat) (dep : Dep) (h : Hp), DepIn ws w dep → evC T N 6 0 kps [.tup (nv ws), dep.w] h = .ok (startW ws w dep) h ∧ evC T N 6 0 kls [.tup (nv ws), dep.w] h = .ok (startW ws w dep) h ∧ evC T N 6 0 ksa [startW ws w dep, startW ws w dep] h = .ok (.bl true) h := fun ws w dep h hD =>
    ⟨p_start_run (N := N) ito ipo ifr ipr ips (by omega) hD, l_start_run (N := N) ilp ilr ils (by omega) hD, same2_start_run isa (by omega) hD 0 h⟩
  -- behind the scheme
  have key : ∀ (ws order : List Nat) (X : Hp) (m : Nat) (dd : List Int) (ss : List St) (y : RS), SchemeOk ws 6 7 → X[m]? = some (.lst (nv order)) → order.Perm (List.range ws.length) → ss = (law_k41 kps kdr kt ksa ksc km kp kd kls).drop 4 → y = .nxt [some (.slst (iv ns)), some (.ref 0), some (.tup (nv ws)), some (.ref (m + 1)), none, none, none, none] (.lst (iv dd) :: X) → ∃ h', endB 0 (kThen (evC T N 6) N 0 ss y) = .ok (.bl true) h' := by
    intro ws order X m dd ss y hws hm hp hss hy
    subst hss hy
    have hl := hws.len
    have hw0 : 0 < ws.length := List.length_pos_iff.mpr hws.ne
    have hH : Hd (fun ds => .lst (iv ds) :: X) 0 (1 + X.length) := Hd.base.app X
    have hml : m < X.length := (List.getElem?_eq_some_iff.mp hm).1
    simp [law_k41]
    generalize hq : forGo _ _ _ _ _ _ _ _ _ _ _ = q
    obtain ⟨⟨d4, o4, o5⟩, rfl, _⟩ := for_st hq (fun i : Nat => W.int i) (fun s : List Int × Option W × Option W => [some (.slst (iv ns)), some (.ref 0), some (.tup (nv ws)), some (.ref (m + 1)), s.2.1, s.2.2, none, none]) (fun s => .lst (iv s.1) :: X) (fun _ _ => True) (List.range 6) rfl (dd, none, none) rfl rfl trivial (fun s i _ => by simp) (fun i x s hx _ => by
      obtain ⟨ds, o4, o5⟩ := s
      obtain ⟨w, dep, d5, e5, hD, hF⟩ := dependency2_run (N := N) (b := 0) (m := m + 1) it ic ip im iit iin id_ (show 4 ≤ 6 by omega) hH ds hws (fun ds => by simpa using hm) (by omega) hp
      have fin : ∀ (d6 : List Int) (dep : Dep) (w : Nat) (ss : List St) (y : RS), DepIn ws w dep → ss = [.iff (.not_ (.call ksa [.call kps [.var 2, .var 5], .call kls [.var 2, .var 5]])) [.ret (.cst (.bl false))] []] → y = .nxt [some (.slst (iv ns)), some (.ref 0), some (.tup (nv ws)), some (.ref (m + 1)), some (.int x), some dep.w, none, none] (.lst (iv d6) :: X) → ∃ s' : List Int × Option W × Option W, wipeN [] (kThen (evC T N 6) N 0 ss y) = .nxt [some (.slst (iv ns)), some (.ref 0), some (.tup (nv ws)), some (.ref (m + 1)), s'.2.1, s'.2.2, none, none] (.lst (iv s'.1) :: X) := by
        intro d6 dep w ss y hD hss hy
        subst hss hy
        obtain ⟨f1, f2, f3⟩ := chk ws w dep (.lst (iv d6) :: X) hD
        exact ⟨(d6, some (.int x), some dep.w), by simp [f1, f2, f3]⟩
      have dr : ∀ h, deref h dep.w = dep.w := fun h => by cases dep <;> rfl
      have ix : primF .idx [dep.w, .int 0] = some (.str dep.kind) := by cases dep <;> rfl
      simp only [forB_m]
      simp [e5, ix, dr, -Prod.exists]
      by_cases hj : dep.kind = Str.ofString "joins"
      · cases dep with
        | joins t ps =>
          obtain ⟨u, d6, e6, h6⟩ := take_run (N := N) (b := 0) it (show 1 ≤ 6 by omega) hH d5 (m := 2) (by omega)
          have e6' : evC T N 6 0 kt [.ref 0, .int 2] (.lst (iv d5) :: X) = .ok (.int u) (.lst (iv d6) :: X) := e6
          by_cases hu : u = 0
          · have ewt : (nv ws)[t]? = some (.int w) := by
              have := hD.tab
              simp only [Dep.tab] at this
              rw [List.getElem?_map, this]
              rfl
            have hwl := hD.small
            have hpl : ps.length ≤ 3 := hF
            obtain ⟨ps2, d7, e7, h7⟩ := parts2_run (N := N) (b := 0) it ip (show 2 ≤ 6 by omega) hH d6 w (by omega)
            have ok1 : okLen (ps.length + ps2.length) = true := okLen_s (by have : ps.length ≤ 20 := hD.sides; omega)
            have e7' : evC T N 6 0 kp [.ref 0, .int w] (.lst (iv d6) :: X) = .ok (.tup (pv ps2)) (.lst (iv d7) :: X) := e7
            refine fin d7 (.joins t (ps ++ ps2)) w _ _ ⟨hD.tab, hD.many, hD.pos, hD.small, ?_⟩ rfl ?_
            · show (ps ++ ps2).length ≤ 20
              rw [List.length_append]
              omega
            · have hk : (Dep.joins t ps).kind = Str.ofString "joins" := rfl
              simp [hk, e6', hu, Dep.w, ewt, e7', ok1]
          · refine fin d6 (.joins t ps) w _ _ hD rfl ?_
            have hk : (Dep.joins t ps).kind = Str.ofString "joins" := rfl
            simp [hk, e6', hu]
        | settles t l r => exact absurd hj (show ¬ Str.ofString "settles" = Str.ofString "joins" by decide)
        | deals t l r => exact absurd hj (show ¬ Str.ofString "deals" = Str.ofString "joins" by decide)
        | within t cs o os => exact absurd hj (show ¬ Str.ofString "within" = Str.ofString "joins" by decide)
      · refine fin d5 dep w _ _ hD rfl ?_
        simp [hj])
    obtain ⟨w, ew⟩ : ∃ w, ws[0]? = some w := ⟨ws[0], List.getElem?_eq_getElem hw0⟩
    have ew2 : (nv ws)[0]? = some (.int w) := by rw [List.getElem?_map, ew]; rfl
    have hwm := hws.each w (List.mem_of_getElem? ew)
    have hwr : (w : Int) ≤ 16777216 := by omega
    obtain ⟨ev, hev⟩ : ∃ ev, ev = List.range w := ⟨_, rfl⟩
    have hevl : ev.length ≤ 100 := by rw [hev, List.length_range]; omega
    simp [ew2, hwr, ← hev]
    generalize hq : forGo _ _ _ _ _ _ _ _ _ _ _ = q
    obtain ⟨o5', rfl, _⟩ := for_st hq Dep.w (fun o : Option W => [some (.slst (iv ns)), some (.ref 0), some (.tup (nv ws)), some (.ref (m + 1)), o4, o, some (.int w), some (.tup (nv ev))]) (fun _ => .lst (iv d4) :: X) (fun _ _ => True) [.settles 0 ev [], .deals 0 [] ev, .deals 0 ev ev, .joins 0 [ev, ev]] rfl o5 rfl rfl trivial (fun s i _ => by simp) (fun i x s hx _ => by
      have hx2 := List.mem_of_getElem? hx
      have hD : DepIn ws w x := by
        simp only [List.mem_cons, List.not_mem_nil, or_false] at hx2
        rcases hx2 with rfl | rfl | rfl | rfl
        · exact ⟨ew, by omega, by omega, by omega, trivial⟩
        · exact ⟨ew, by omega, by omega, by omega, by simp, hevl⟩
        · exact ⟨ew, by omega, by omega, by omega, hevl, hevl⟩
        · exact ⟨ew, by omega, by omega, by omega, by simp⟩
      obtain ⟨f1, f2, f3⟩ := chk ws w x (.lst (iv d4) :: X) hD
      refine ⟨some x.w, ?_, trivial⟩
      simp only [forB_m]
      simp [f1, f2, f3])
    have hD : DepIn [2] 2 (.deals 0 [] []) := ⟨rfl, by simp, by omega, by omega, by simp, by simp⟩
    obtain ⟨f1, _, f3⟩ := chk [2] 2 (.deals 0 [] []) (.lst (iv d4) :: X) hD
    have es : startW [2] 2 (.deals 0 [] []) = .tup [.tup [.tup [.int (-3), .int (-4)], .tup [.int (-1), .int (-2)]]] := by
      have e : sortRows (startRows 2 (.deals 0 [] [])) = [[-3, -4], [-1, -2]] := by
        have e0 : startRows 2 (.deals 0 [] []) = [[-3, -4], [-1, -2]] := by decide +kernel
        rw [e0]
        exact (sortRows_eq (by decide) (by decide) fun r => Iff.rfl).symm
      unfold startW
      rw [e]
      rfl
    rw [es] at f1 f3
    have f1' : evC T N 6 0 kps [.tup [.int 2], .tup [.str "deals", .int 0, .tup [], .tup []]] (.lst (iv d4) :: X) = .ok (.tup [.tup [.tup [.int (-3), .int (-4)], .tup [.int (-1), .int (-2)]]]) (.lst (iv d4) :: X) := f1
    simp [f1', f3, end_val]
  have e3' : evC T N 6 0 kt [.ref 0, .int 2] [.lst (iv d2), .lst (nv order)] = .ok (.int v3) [.lst (iv d3), .lst (nv order)] := e3
  simp [law_k41, e0', e1, e2', e3']
  by_cases hv : v3 = 0
  · obtain ⟨u, d4, e4, h4⟩ := take_run (N := N) (b := 0) it (show 1 ≤ 6 by omega) hH1 d3 (m := 6) (by omega)
    have e4' : evC T N 6 0 kt [.ref 0, .int 6] [.lst (iv d3), .lst (nv order)] = .ok (.int u) [.lst (iv d4), .lst (nv order)] := e4
    obtain ⟨u1, q1, r1⟩ := cast1 u
    simp [hv, e4', q1, it_rng1 (show u1 ≤ 100000000 by omega)]
    generalize hq : lcGo _ _ _ _ _ _ _ _ _ = q
    obtain ⟨ws2, d5, rfl, hw1, hw2⟩ := lc_draw hq (fun ds => [.lst (iv ds), .lst (nv order)]) d4 rfl (fun _ => by simp) (fun i : Nat => W.int i) (fun i : Nat => W.int i) (fun _ w => 1 ≤ w ∧ w ≤ 7) (List.range u1) rfl (fun x hx ds => by
      obtain ⟨v, d1, e1, h1⟩ := take_run (N := N) (b := 0) it (show 1 ≤ 6 by omega) hH1 ds (m := 7) (by omega)
      obtain ⟨v1, q1, r1⟩ := cast1 v
      refine ⟨v1, d1, ?_, by omega, by omega⟩
      simp only [lcB_m]
      simp [e1, q1]) (by simp; omega)
    rw [List.length_range] at hw1
    have hws2 : SchemeOk ws2 6 7 := ⟨fun e => by rw [e] at hw1; simp at hw1; omega, by omega, fun w hw => by obtain ⟨_, _, hx⟩ := hw2 w hw; exact hx⟩
    obtain ⟨order2, d6, e6, p6⟩ := mixed_run (N := N) (b := 0) it im (show 2 ≤ 6 by omega) hH1 d5 ws2.length (by omega)
    have e6' : evC T N 6 0 km [.ref 0, .int ws2.length] [.lst (iv d5), .lst (nv order)] = .ok (.ref 2) [.lst (iv d6), .lst (nv order), .lst (nv order2)] := e6
    refine key ws2 order2 [.lst (nv order), .lst (nv order2)] 1 d6 _ _ hws2 rfl p6 rfl ?_
    simp [e6']
  · refine key ws order [.lst (nv order)] 0 d3 _ _ hws rfl p2 rfl ?_
    simp [hv]
end
end Ow

set_option maxHeartbeats 0
namespace Lk41
open PySem PySem.Spec PyProof.Rows L2
def top (i : Nat) : Stmt := PySem.Challenge.pw_norowstray_k41_starts.main.body.getD i (.Pass ⟨0, 0, 0, 0⟩)
def d1 : He.DefD := ⟨("parts_of", none), "parts_of", "parts_of", defArgs (top 1), defBody (top 1), defScope (top 1), [], []⟩
def d3 : He.DefD := ⟨("told_value", none), "told_value", "told_value", defArgs (top 3), defBody (top 3), defScope (top 3), [], []⟩
def d4 : He.DefD := ⟨("first_row", none), "first_row", "first_row", defArgs (top 4), defBody (top 4), defScope (top 4), [], []⟩
def d5 : He.DefD := ⟨("part_row", none), "part_row", "part_row", defArgs (top 5), defBody (top 5), defScope (top 5), [], []⟩
def d6 : He.DefD := ⟨("start", none), "start", "start", defArgs (top 6), defBody (top 6), defScope (top 6), [], []⟩
def d8 : He.DefD := ⟨("_law_draws", none), "_law_draws", "_law_draws", defArgs (top 8), defBody (top 8), defScope (top 8), [], []⟩
def d9 : He.DefD := ⟨("_law_take", none), "_law_take", "_law_take", defArgs (top 9), defBody (top 9), defScope (top 9), [], []⟩
def d10 : He.DefD := ⟨("_law_same", none), "_law_same", "_law_same", defArgs (top 10), defBody (top 10), defScope (top 10), [], []⟩
def d11 : He.DefD := ⟨("_law_scheme", none), "_law_scheme", "_law_scheme", defArgs (top 11), defBody (top 11), defScope (top 11), [], []⟩
def d12 : He.DefD := ⟨("_law_mixed", none), "_law_mixed", "_law_mixed", defArgs (top 12), defBody (top 12), defScope (top 12), [], []⟩
def d13 : He.DefD := ⟨("_law_columns", none), "_law_columns", "_law_columns", defArgs (top 13), defBody (top 13), defScope (top 13), [], []⟩
def d14 : He.DefD := ⟨("_law_parts", none), "_law_parts", "_law_parts", defArgs (top 14), defBody (top 14), defScope (top 14), [], []⟩
def d15 : He.DefD := ⟨("_law_in_table", none), "_law_in_table", "_law_in_table", defArgs (top 15), defBody (top 15), defScope (top 15), [], []⟩
def d16 : He.DefD := ⟨("_law_inclusion", none), "_law_inclusion", "_law_inclusion", defArgs (top 16), defBody (top 16), defScope (top 16), [], []⟩
def d17 : He.DefD := ⟨("_law_dependency", none), "_law_dependency", "_law_dependency", defArgs (top 17), defBody (top 17), defScope (top 17), [], []⟩
def d18 : He.DefD := ⟨("_law_parts_of", none), "_law_parts_of", "_law_parts_of", defArgs (top 18), defBody (top 18), defScope (top 18), [], []⟩
def d19 : He.DefD := ⟨("_law_row_of", none), "_law_row_of", "_law_row_of", defArgs (top 19), defBody (top 19), defScope (top 19), [], []⟩
def d20 : He.DefD := ⟨("_law_start", none), "_law_start", "_law_start", defArgs (top 20), defBody (top 20), defScope (top 20), [], []⟩
def d21 : He.DefD := ⟨("law", none), "law", "law", defArgs (top 21), defBody (top 21), defScope (top 21), [], []⟩
def fn : List He.DefD := [d1, d3, d4, d5, d6, d8, d9, d10, d11, d12, d13, d14, d15, d16, d17, d18, d19, d20, d21]
def fa0 : List He.Fa := [.glo "parts_of", .glo "told_value", .glo "first_row", .glo "part_row", .glo "start", .glo "_law_draws", .glo "_law_take", .glo "_law_same", .glo "_law_scheme", .glo "_law_mixed", .glo "_law_columns", .glo "_law_parts", .glo "_law_in_table", .glo "_law_inclusion", .glo "_law_dependency", .glo "_law_parts_of", .glo "_law_row_of", .glo "_law_start", .glo "law", .free "len", .free "int", .free "abs", .free "str", .free "list", .free "tuple", .free "sorted", .free "all", .free "any", .free "sum", .free "min"]
def fa1 : List He.Fa := [.free "max", .free "isinstance", .free "range", .free "bool", .free "zip", .free "enumerate", .free "set"]
def fa : List He.Fa := fa0 ++ fa1
def lo0 : List Str := ["parts_of", "told_value", "first_row", "part_row", "start", "_law_draws", "_law_take", "_law_same", "_law_scheme", "_law_mixed", "_law_columns", "_law_parts", "_law_in_table", "_law_inclusion", "_law_dependency", "_law_parts_of", "_law_row_of", "_law_start"]
def lo : List Str := lo0
def f0 : Ow.Def := ⟨"parts_of", 2, ["width", "dependency", "left", "right", "one", "column"], false, Ow.P_parts_of⟩
def f1 : Ow.Def := ⟨"told_value", 1, ["number"], false, Ow.P_told_value⟩
def f2 : Ow.Def := ⟨"first_row", 1, ["width", "column"], false, (Ow.P_first_row 1)⟩
def f3 : Ow.Def := ⟨"part_row", 3, ["width", "part", "turn", "column"], false, (Ow.P_part_row 1)⟩
def f4 : Ow.Def := ⟨"start", 2, ["scheme", "dependency", "kind", "table", "width", "rows", "parts", "empty", "turn", "part"], false, (Ow.P_start 0 2 3)⟩
def f5 : Ow.Def := ⟨"_law_draws", 2, ["_law_script", "_law_many", "_law_cells", "_law_rest", "_law_draws_here", "_law_k", "_law_at", "_law_once", "_law_cell"], false, Ow.L_draws⟩
def f6 : Ow.Def := ⟨"_law_take", 2, ["_law_draws_here", "_law_many"], false, Ow.L_take⟩
def f7 : Ow.Def := ⟨"_law_same", 2, ["_law_actual", "_law_due", "_law_k"], false, (Ow.L_same_2 7)⟩
def f8 : Ow.Def := ⟨"_law_scheme", 1, ["_law_draws_here", "_law_kind"], false, (Ow.L_scheme_2 6)⟩
def f9 : Ow.Def := ⟨"_law_mixed", 2, ["_law_draws_here", "_law_many", "_law_row", "_law_number"], false, (Ow.L_mixed 6)⟩
def f10 : Ow.Def := ⟨"_law_columns", 2, ["_law_draws_here", "_law_width", "_law_column"], false, (Ow.L_columns_2 6)⟩
def f11 : Ow.Def := ⟨"_law_parts", 2, ["_law_draws_here", "_law_width", "_law_parts_here", "_law_column", "_law_first", "_law_k", "_law_part"], false, (Ow.L_parts_2 6)⟩
def f12 : Ow.Def := ⟨"_law_in_table", 3, ["_law_draws_here", "_law_scheme_here", "_law_table", "_law_kind", "_law_width"], false, (Ow.L_in_table 6 10 11)⟩
def f13 : Ow.Def := ⟨"_law_inclusion", 3, ["_law_draws_here", "_law_scheme_here", "_law_order", "_law_first", "_law_second", "_law_table", "_law_other", "_law_many", "_law_columns_here"], false, (Ow.L_inclusion_2 6 9)⟩
def f14 : Ow.Def := ⟨"_law_dependency", 3, ["_law_draws_here", "_law_scheme_here", "_law_order"], false, (Ow.L_dependency_2 6 12 13)⟩
def f15 : Ow.Def := ⟨"_law_parts_of", 2, ["_law_width", "_law_dependency_here", "_law_one", "_law_other", "_law_column"], false, Ow.L_parts_of_2⟩
def f16 : Ow.Def := ⟨"_law_row_of", 3, ["_law_width", "_law_part", "_law_turn", "_law_column"], false, Ow.L_row_of_2⟩
def f17 : Ow.Def := ⟨"_law_start", 2, ["_law_scheme_here", "_law_dependency_here", "_law_width", "_law_rows", "_law_parts_here", "_law_tables", "_law_table", "_law_column", "_law_k"], false, (Ow.L_start 15 16)⟩
def f18 : Ow.Def := ⟨"law", 1, ["_law_script", "_law_draws_here", "_law_scheme_here", "_law_order", "_law_k", "_law_wish", "_law_width", "_law_every"], false, (Ow.law_k41 4 5 6 7 8 9 11 14 17)⟩
def T : List Ow.Def := [f0, f1, f2, f3, f4, f5, f6, f7, f8, f9, f10, f11, f12, f13, f14, f15, f16, f17, f18]
theorem sc0 : FnScope f0.names ["width", "dependency"] (defScope (top 1)) := ⟨rfl, rfl, rfl, by decide +kernel, rfl, by decide +kernel, by decide +kernel⟩
theorem mb0 : Ow.mB ⟨T, f0.names, defScope (top 1), defScope (top 1)⟩ f0.body (defBody (top 1)) = true := by decide +kernel
theorem sc1 : FnScope f1.names ["number"] (defScope (top 3)) := ⟨rfl, rfl, rfl, by decide +kernel, rfl, by decide +kernel, by decide +kernel⟩
theorem mb1 : Ow.mB ⟨T, f1.names, defScope (top 3), defScope (top 3)⟩ f1.body (defBody (top 3)) = true := by decide +kernel
theorem sc2 : FnScope f2.names ["width"] (defScope (top 4)) := ⟨rfl, rfl, rfl, by decide +kernel, rfl, by decide +kernel, by decide +kernel⟩
theorem mb2 : Ow.mB ⟨T, f2.names, defScope (top 4), defScope (top 4)⟩ f2.body (defBody (top 4)) = true := by decide +kernel
theorem sc3 : FnScope f3.names ["width", "part", "turn"] (defScope (top 5)) := ⟨rfl, rfl, rfl, by decide +kernel, rfl, by decide +kernel, by decide +kernel⟩
theorem mb3 : Ow.mB ⟨T, f3.names, defScope (top 5), defScope (top 5)⟩ f3.body (defBody (top 5)) = true := by decide +kernel
theorem sc4 : FnScope f4.names ["scheme", "dependency"] (defScope (top 6)) := ⟨rfl, rfl, rfl, by decide +kernel, rfl, by decide +kernel, by decide +kernel⟩
theorem mb4 : Ow.mB ⟨T, f4.names, defScope (top 6), defScope (top 6)⟩ f4.body (defBody (top 6)) = true := by decide +kernel
theorem sc5 : FnScope f5.names ["_law_script", "_law_many"] (defScope (top 8)) := ⟨rfl, rfl, rfl, by decide +kernel, rfl, by decide +kernel, by decide +kernel⟩
theorem mb5 : Ow.mB ⟨T, f5.names, defScope (top 8), defScope (top 8)⟩ f5.body (defBody (top 8)) = true := by decide +kernel
theorem sc6 : FnScope f6.names ["_law_draws_here", "_law_many"] (defScope (top 9)) := ⟨rfl, rfl, rfl, by decide +kernel, rfl, by decide +kernel, by decide +kernel⟩
theorem mb6 : Ow.mB ⟨T, f6.names, defScope (top 9), defScope (top 9)⟩ f6.body (defBody (top 9)) = true := by decide +kernel
theorem sc7 : FnScope f7.names ["_law_actual", "_law_due"] (defScope (top 10)) := ⟨rfl, rfl, rfl, by decide +kernel, rfl, by decide +kernel, by decide +kernel⟩
theorem mb7 : Ow.mB ⟨T, f7.names, defScope (top 10), defScope (top 10)⟩ f7.body (defBody (top 10)) = true := by decide +kernel
theorem sc8 : FnScope f8.names ["_law_draws_here"] (defScope (top 11)) := ⟨rfl, rfl, rfl, by decide +kernel, rfl, by decide +kernel, by decide +kernel⟩
theorem mb8 : Ow.mB ⟨T, f8.names, defScope (top 11), defScope (top 11)⟩ f8.body (defBody (top 11)) = true := by decide +kernel
theorem sc9 : FnScope f9.names ["_law_draws_here", "_law_many"] (defScope (top 12)) := ⟨rfl, rfl, rfl, by decide +kernel, rfl, by decide +kernel, by decide +kernel⟩
theorem mb9 : Ow.mB ⟨T, f9.names, defScope (top 12), defScope (top 12)⟩ f9.body (defBody (top 12)) = true := by decide +kernel
theorem sc10 : FnScope f10.names ["_law_draws_here", "_law_width"] (defScope (top 13)) := ⟨rfl, rfl, rfl, by decide +kernel, rfl, by decide +kernel, by decide +kernel⟩
theorem mb10 : Ow.mB ⟨T, f10.names, defScope (top 13), defScope (top 13)⟩ f10.body (defBody (top 13)) = true := by decide +kernel
theorem sc11 : FnScope f11.names ["_law_draws_here", "_law_width"] (defScope (top 14)) := ⟨rfl, rfl, rfl, by decide +kernel, rfl, by decide +kernel, by decide +kernel⟩
theorem mb11 : Ow.mB ⟨T, f11.names, defScope (top 14), defScope (top 14)⟩ f11.body (defBody (top 14)) = true := by decide +kernel
theorem sc12 : FnScope f12.names ["_law_draws_here", "_law_scheme_here", "_law_table"] (defScope (top 15)) := ⟨rfl, rfl, rfl, by decide +kernel, rfl, by decide +kernel, by decide +kernel⟩
theorem mb12 : Ow.mB ⟨T, f12.names, defScope (top 15), defScope (top 15)⟩ f12.body (defBody (top 15)) = true := by decide +kernel
theorem sc13 : FnScope f13.names ["_law_draws_here", "_law_scheme_here", "_law_order"] (defScope (top 16)) := ⟨rfl, rfl, rfl, by decide +kernel, rfl, by decide +kernel, by decide +kernel⟩
theorem mb13 : Ow.mB ⟨T, f13.names, defScope (top 16), defScope (top 16)⟩ f13.body (defBody (top 16)) = true := by decide +kernel
theorem sc14 : FnScope f14.names ["_law_draws_here", "_law_scheme_here", "_law_order"] (defScope (top 17)) := ⟨rfl, rfl, rfl, by decide +kernel, rfl, by decide +kernel, by decide +kernel⟩
theorem mb14 : Ow.mB ⟨T, f14.names, defScope (top 17), defScope (top 17)⟩ f14.body (defBody (top 17)) = true := by decide +kernel
theorem sc15 : FnScope f15.names ["_law_width", "_law_dependency_here"] (defScope (top 18)) := ⟨rfl, rfl, rfl, by decide +kernel, rfl, by decide +kernel, by decide +kernel⟩
theorem mb15 : Ow.mB ⟨T, f15.names, defScope (top 18), defScope (top 18)⟩ f15.body (defBody (top 18)) = true := by decide +kernel
theorem sc16 : FnScope f16.names ["_law_width", "_law_part", "_law_turn"] (defScope (top 19)) := ⟨rfl, rfl, rfl, by decide +kernel, rfl, by decide +kernel, by decide +kernel⟩
theorem mb16 : Ow.mB ⟨T, f16.names, defScope (top 19), defScope (top 19)⟩ f16.body (defBody (top 19)) = true := by decide +kernel
theorem sc17 : FnScope f17.names ["_law_scheme_here", "_law_dependency_here"] (defScope (top 20)) := ⟨rfl, rfl, rfl, by decide +kernel, rfl, by decide +kernel, by decide +kernel⟩
theorem mb17 : Ow.mB ⟨T, f17.names, defScope (top 20), defScope (top 20)⟩ f17.body (defBody (top 20)) = true := by decide +kernel
theorem sc18 : FnScope f18.names ["_law_script"] (defScope (top 21)) := ⟨rfl, rfl, rfl, by decide +kernel, rfl, by decide +kernel, by decide +kernel⟩
theorem mb18 : Ow.mB ⟨T, f18.names, defScope (top 21), defScope (top 21)⟩ f18.body (defBody (top 21)) = true := by decide +kernel
theorem defs {K : PySem.W.Frag} {h : Heap} {mg : Str → Option Value} (X : K.In h) (G : h.Ns mainGlobals mg) (c : He.SaysD fa fn K) : ∀ (k : Nat) df, T[k]? = some df → Ow.DefOk K mg T df := by
  intro k df e
  match k, e with
  | 0, e =>
    cases e
    obtain ⟨fd, F⟩ := c.def_ 0 (d := d1) rfl
    exact ⟨_, fd, ["width", "dependency"], _, _, _, _, _, _, F, sc0, rfl, He.glo_ok X G (c.fact 0 (f := .glo "parts_of") rfl), FunD.bindsN (ps := ["width", "dependency"]) F fun _ _ _ _ _ _ us hl => match us, hl with | [_, _], _ => rfl, mb0⟩
  | 1, e =>
    cases e
    obtain ⟨fd, F⟩ := c.def_ 1 (d := d3) rfl
    exact ⟨_, fd, ["number"], _, _, _, _, _, _, F, sc1, rfl, He.glo_ok X G (c.fact 1 (f := .glo "told_value") rfl), FunD.bindsN (ps := ["number"]) F fun _ _ _ _ _ _ us hl => match us, hl with | [_], _ => rfl, mb1⟩
  | 2, e =>
    cases e
    obtain ⟨fd, F⟩ := c.def_ 2 (d := d4) rfl
    exact ⟨_, fd, ["width"], _, _, _, _, _, _, F, sc2, rfl, He.glo_ok X G (c.fact 2 (f := .glo "first_row") rfl), FunD.bindsN (ps := ["width"]) F fun _ _ _ _ _ _ us hl => match us, hl with | [_], _ => rfl, mb2⟩
  | 3, e =>
    cases e
    obtain ⟨fd, F⟩ := c.def_ 3 (d := d5) rfl
    exact ⟨_, fd, ["width", "part", "turn"], _, _, _, _, _, _, F, sc3, rfl, He.glo_ok X G (c.fact 3 (f := .glo "part_row") rfl), FunD.bindsN (ps := ["width", "part", "turn"]) F fun _ _ _ _ _ _ us hl => match us, hl with | [_, _, _], _ => rfl, mb3⟩
  | 4, e =>
    cases e
    obtain ⟨fd, F⟩ := c.def_ 4 (d := d6) rfl
    exact ⟨_, fd, ["scheme", "dependency"], _, _, _, _, _, _, F, sc4, rfl, He.glo_ok X G (c.fact 4 (f := .glo "start") rfl), FunD.bindsN (ps := ["scheme", "dependency"]) F fun _ _ _ _ _ _ us hl => match us, hl with | [_, _], _ => rfl, mb4⟩
  | 5, e =>
    cases e
    obtain ⟨fd, F⟩ := c.def_ 5 (d := d8) rfl
    exact ⟨_, fd, ["_law_script", "_law_many"], _, _, _, _, _, _, F, sc5, rfl, He.glo_ok X G (c.fact 5 (f := .glo "_law_draws") rfl), FunD.bindsN (ps := ["_law_script", "_law_many"]) F fun _ _ _ _ _ _ us hl => match us, hl with | [_, _], _ => rfl, mb5⟩
  | 6, e =>
    cases e
    obtain ⟨fd, F⟩ := c.def_ 6 (d := d9) rfl
    exact ⟨_, fd, ["_law_draws_here", "_law_many"], _, _, _, _, _, _, F, sc6, rfl, He.glo_ok X G (c.fact 6 (f := .glo "_law_take") rfl), FunD.bindsN (ps := ["_law_draws_here", "_law_many"]) F fun _ _ _ _ _ _ us hl => match us, hl with | [_, _], _ => rfl, mb6⟩
  | 7, e =>
    cases e
    obtain ⟨fd, F⟩ := c.def_ 7 (d := d10) rfl
    exact ⟨_, fd, ["_law_actual", "_law_due"], _, _, _, _, _, _, F, sc7, rfl, He.glo_ok X G (c.fact 7 (f := .glo "_law_same") rfl), FunD.bindsN (ps := ["_law_actual", "_law_due"]) F fun _ _ _ _ _ _ us hl => match us, hl with | [_, _], _ => rfl, mb7⟩
  | 8, e =>
    cases e
    obtain ⟨fd, F⟩ := c.def_ 8 (d := d11) rfl
    exact ⟨_, fd, ["_law_draws_here"], _, _, _, _, _, _, F, sc8, rfl, He.glo_ok X G (c.fact 8 (f := .glo "_law_scheme") rfl), FunD.bindsN (ps := ["_law_draws_here"]) F fun _ _ _ _ _ _ us hl => match us, hl with | [_], _ => rfl, mb8⟩
  | 9, e =>
    cases e
    obtain ⟨fd, F⟩ := c.def_ 9 (d := d12) rfl
    exact ⟨_, fd, ["_law_draws_here", "_law_many"], _, _, _, _, _, _, F, sc9, rfl, He.glo_ok X G (c.fact 9 (f := .glo "_law_mixed") rfl), FunD.bindsN (ps := ["_law_draws_here", "_law_many"]) F fun _ _ _ _ _ _ us hl => match us, hl with | [_, _], _ => rfl, mb9⟩
  | 10, e =>
    cases e
    obtain ⟨fd, F⟩ := c.def_ 10 (d := d13) rfl
    exact ⟨_, fd, ["_law_draws_here", "_law_width"], _, _, _, _, _, _, F, sc10, rfl, He.glo_ok X G (c.fact 10 (f := .glo "_law_columns") rfl), FunD.bindsN (ps := ["_law_draws_here", "_law_width"]) F fun _ _ _ _ _ _ us hl => match us, hl with | [_, _], _ => rfl, mb10⟩
  | 11, e =>
    cases e
    obtain ⟨fd, F⟩ := c.def_ 11 (d := d14) rfl
    exact ⟨_, fd, ["_law_draws_here", "_law_width"], _, _, _, _, _, _, F, sc11, rfl, He.glo_ok X G (c.fact 11 (f := .glo "_law_parts") rfl), FunD.bindsN (ps := ["_law_draws_here", "_law_width"]) F fun _ _ _ _ _ _ us hl => match us, hl with | [_, _], _ => rfl, mb11⟩
  | 12, e =>
    cases e
    obtain ⟨fd, F⟩ := c.def_ 12 (d := d15) rfl
    exact ⟨_, fd, ["_law_draws_here", "_law_scheme_here", "_law_table"], _, _, _, _, _, _, F, sc12, rfl, He.glo_ok X G (c.fact 12 (f := .glo "_law_in_table") rfl), FunD.bindsN (ps := ["_law_draws_here", "_law_scheme_here", "_law_table"]) F fun _ _ _ _ _ _ us hl => match us, hl with | [_, _, _], _ => rfl, mb12⟩
  | 13, e =>
    cases e
    obtain ⟨fd, F⟩ := c.def_ 13 (d := d16) rfl
    exact ⟨_, fd, ["_law_draws_here", "_law_scheme_here", "_law_order"], _, _, _, _, _, _, F, sc13, rfl, He.glo_ok X G (c.fact 13 (f := .glo "_law_inclusion") rfl), FunD.bindsN (ps := ["_law_draws_here", "_law_scheme_here", "_law_order"]) F fun _ _ _ _ _ _ us hl => match us, hl with | [_, _, _], _ => rfl, mb13⟩
  | 14, e =>
    cases e
    obtain ⟨fd, F⟩ := c.def_ 14 (d := d17) rfl
    exact ⟨_, fd, ["_law_draws_here", "_law_scheme_here", "_law_order"], _, _, _, _, _, _, F, sc14, rfl, He.glo_ok X G (c.fact 14 (f := .glo "_law_dependency") rfl), FunD.bindsN (ps := ["_law_draws_here", "_law_scheme_here", "_law_order"]) F fun _ _ _ _ _ _ us hl => match us, hl with | [_, _, _], _ => rfl, mb14⟩
  | 15, e =>
    cases e
    obtain ⟨fd, F⟩ := c.def_ 15 (d := d18) rfl
    exact ⟨_, fd, ["_law_width", "_law_dependency_here"], _, _, _, _, _, _, F, sc15, rfl, He.glo_ok X G (c.fact 15 (f := .glo "_law_parts_of") rfl), FunD.bindsN (ps := ["_law_width", "_law_dependency_here"]) F fun _ _ _ _ _ _ us hl => match us, hl with | [_, _], _ => rfl, mb15⟩
  | 16, e =>
    cases e
    obtain ⟨fd, F⟩ := c.def_ 16 (d := d19) rfl
    exact ⟨_, fd, ["_law_width", "_law_part", "_law_turn"], _, _, _, _, _, _, F, sc16, rfl, He.glo_ok X G (c.fact 16 (f := .glo "_law_row_of") rfl), FunD.bindsN (ps := ["_law_width", "_law_part", "_law_turn"]) F fun _ _ _ _ _ _ us hl => match us, hl with | [_, _, _], _ => rfl, mb16⟩
  | 17, e =>
    cases e
    obtain ⟨fd, F⟩ := c.def_ 17 (d := d20) rfl
    exact ⟨_, fd, ["_law_scheme_here", "_law_dependency_here"], _, _, _, _, _, _, F, sc17, rfl, He.glo_ok X G (c.fact 17 (f := .glo "_law_start") rfl), FunD.bindsN (ps := ["_law_scheme_here", "_law_dependency_here"]) F fun _ _ _ _ _ _ us hl => match us, hl with | [_, _], _ => rfl, mb17⟩
  | 18, e =>
    cases e
    obtain ⟨fd, F⟩ := c.def_ 18 (d := d21) rfl
    exact ⟨_, fd, ["_law_script"], _, _, _, _, _, _, F, sc18, rfl, He.glo_ok X G (c.fact 18 (f := .glo "law") rfl), FunD.bindsN (ps := ["_law_script"]) F fun _ _ _ _ _ _ us hl => match us, hl with | [_], _ => rfl, mb18⟩
theorem free {K : PySem.W.Frag} {h : Heap} {mg : Str → Option Value} (X : K.In h) (G : h.Ns mainGlobals mg) (c : He.SaysD fa fn K) : ∀ x ∈ Ow.bltNames, mg x = none := by
  intro x hx
  simp only [Ow.bltNames, List.mem_cons, List.mem_nil_iff, or_false] at hx
  rcases hx with rfl | rfl | rfl | rfl | rfl | rfl | rfl | rfl | rfl | rfl | rfl | rfl | rfl | rfl | rfl | rfl | rfl | rfl
  · exact He.free_ok X G (c.fact 19 (f := .free "len") rfl)
  · exact He.free_ok X G (c.fact 20 (f := .free "int") rfl)
  · exact He.free_ok X G (c.fact 21 (f := .free "abs") rfl)
  · exact He.free_ok X G (c.fact 22 (f := .free "str") rfl)
  · exact He.free_ok X G (c.fact 23 (f := .free "list") rfl)
  · exact He.free_ok X G (c.fact 24 (f := .free "tuple") rfl)
  · exact He.free_ok X G (c.fact 25 (f := .free "sorted") rfl)
  · exact He.free_ok X G (c.fact 26 (f := .free "all") rfl)
  · exact He.free_ok X G (c.fact 27 (f := .free "any") rfl)
  · exact He.free_ok X G (c.fact 28 (f := .free "sum") rfl)
  · exact He.free_ok X G (c.fact 29 (f := .free "min") rfl)
  · exact He.free_ok X G (c.fact 30 (f := .free "max") rfl)
  · exact He.free_ok X G (c.fact 31 (f := .free "isinstance") rfl)
  · exact He.free_ok X G (c.fact 32 (f := .free "range") rfl)
  · exact He.free_ok X G (c.fact 33 (f := .free "bool") rfl)
  · exact He.free_ok X G (c.fact 34 (f := .free "zip") rfl)
  · exact He.free_ok X G (c.fact 35 (f := .free "enumerate") rfl)
  · exact He.free_ok X G (c.fact 36 (f := .free "set") rfl)
abbrev R : PySem.W.OpenRow := PySem.W.OpenLaw.row PySem.Challenge.rw_norowstray_k41_starts
abbrev hk : PySem.W.Hook := He.hookD 4 fa fn
def ob (s : PySem.W.SharedT) : He.AlD := He.obsDG 4 fa fn (HandSHeadRun.getT s)
theorem ob_eq (s : PySem.W.SharedT) : ob s = hk.obs s.abs := He.obsDG_eq (HandSHeadRun.getT_eq s)
theorem run (w : World) : HandSHeadRun.RunEq R (PySem.W.view R.prog [21]) hk ob 15000 lo w := by
  intro os
  kernel_rfl
theorem facts {P : Program} {w : World} {K : PySem.W.Frag} {h : Heap} {mg : Str → Option Value} {f : Addr} (X : K.In h) (G : h.Ns mainGlobals mg) (hfa : mg ("law" : Str) = some (.ref f)) (c : He.SaysD fa fn K) (Nw d : Nat) :
    ∃ fd : FuncData, (∀ (s : Shared) (v : Value), BindsTo s fd ⟨[v], []⟩ [("_law_script", v)]) ∧ ∀ base : Heap, K.In base → base.Ns mainGlobals mg → FnOk P w K mg base (Ow.CXW P) (d + 1) f fd ["_law_script"] (Ow.spC ⟨K, P, w⟩ T Nw (d + 1) 18 1) := by
  obtain ⟨fd, F⟩ := c.def_ 18 (d := d21) rfl
  have e := hfa.symm.trans (He.glo_ok X G (c.fact 18 (f := .glo "law") rfl))
  cases e
  have b := FunD.bindsA (ps := ["_law_script"]) F fun _ _ _ _ _ _ us hl => match us, hl with | [_], _ => rfl
  exact ⟨fd, fun s v => b s [v] rfl, fun base _ _ => Ow.law_fn (df := f18) (defs X G c) (free X G c) rfl F sc18 rfl mb18⟩
end Lk41
open PySem PySem.W PySem.Calls PyProof.Rows
theorem Lk41_end (Nw d n : Nat) (hn : PySem.Challenge.rw_norowstray_k41_starts.most = some n) (hn2 : n ≤ sizeLine) (hr : L2.Room (d + 1) callerA) (hv : ∀ ns : List Int, ns.length ≤ n → ∃ h', Ow.evC Lk41.T Nw (d + 1) 0 18 [.slst (ns.map Ow.W.int)] [] = .ok (.bl true) h') : PySem.Challenge.rw_norowstray_k41_starts.Holds := by
  w_on; o_law
  refine HandSHeadRun.head_any (r := OpenLaw.row PySem.Challenge.rw_norowstray_k41_starts) (q := view (OpenLaw.row PySem.Challenge.rw_norowstray_k41_starts).prog [21]) (H := Lk41.hk) (ob := Lk41.ob) (M := 15000) (loose := Lk41.lo) (d := HandSHeadRun.topDef (OpenLaw.row PySem.Challenge.rw_norowstray_k41_starts).prog 21) (kwd := []) Lk41.ob_eq
    (by kernel_rfl) (fun s => by kernel_rfl) Lk41.run (by kernel_rfl) (by kernel_rfl) (by kernel_rfl) (by rfl) (by first | assumption | decide +kernel) (by decide +kernel) ⟨rfl, rfl, rfl, rfl, rfl, by decide +kernel⟩ ?hw ?hc
  case hw => w_witness2
  case hc =>
    refine L2.walk_ofE (l := PySem.Challenge.rw_norowstray_k41_starts) (n := n) (k := d + 1) (x := "_law_script") (CX := Ow.CXW (PySem.Challenge.rw_norowstray_k41_starts).prog) hn hn2 (by kernel_rfl) hr ?F (Ow.cxw_none _)
    intro w mg fa h Y G hmg0
    obtain ⟨K, KX, c⟩ := Y
    have hmg : mg ("law" : PySem.Str) = some (.ref fa) := by
      have e : (HandSHeadRun.topDef (OpenLaw.row PySem.Challenge.rw_norowstray_k41_starts).prog 21).name = ("law" : PySem.Str) := by kernel_rfl
      rw [← e]
      exact hmg0
    obtain ⟨fd, hb, hF⟩ := Lk41.facts (P := (PySem.Challenge.rw_norowstray_k41_starts).prog) (w := w) KX G hmg c Nw d
    exact ⟨K, fd, _, KX, hb, fun H a ns hl _ hS => Ow.sp_of hS (hv ns hl), hF⟩
namespace Ow
open PySem
theorem is0 : Is Lk41.T 0 2 6 P_parts_of := ⟨_, rfl, rfl, rfl, rfl, rfl⟩
theorem is1 : Is Lk41.T 1 1 1 P_told_value := ⟨_, rfl, rfl, rfl, rfl, rfl⟩
theorem is2 : Is Lk41.T 2 1 2 (P_first_row 1) := ⟨_, rfl, rfl, rfl, rfl, rfl⟩
theorem is3 : Is Lk41.T 3 3 4 (P_part_row 1) := ⟨_, rfl, rfl, rfl, rfl, rfl⟩
theorem is4 : Is Lk41.T 4 2 10 (P_start 0 2 3) := ⟨_, rfl, rfl, rfl, rfl, rfl⟩
theorem is5 : Is Lk41.T 5 2 9 L_draws := ⟨_, rfl, rfl, rfl, rfl, rfl⟩
theorem is6 : Is Lk41.T 6 2 2 L_take := ⟨_, rfl, rfl, rfl, rfl, rfl⟩
theorem is7 : Is Lk41.T 7 2 3 (L_same_2 7) := ⟨_, rfl, rfl, rfl, rfl, rfl⟩
theorem is8 : Is Lk41.T 8 1 2 (L_scheme_2 6) := ⟨_, rfl, rfl, rfl, rfl, rfl⟩
theorem is9 : Is Lk41.T 9 2 4 (L_mixed 6) := ⟨_, rfl, rfl, rfl, rfl, rfl⟩
theorem is10 : Is Lk41.T 10 2 3 (L_columns_2 6) := ⟨_, rfl, rfl, rfl, rfl, rfl⟩
theorem is11 : Is Lk41.T 11 2 7 (L_parts_2 6) := ⟨_, rfl, rfl, rfl, rfl, rfl⟩
theorem is12 : Is Lk41.T 12 3 5 (L_in_table 6 10 11) := ⟨_, rfl, rfl, rfl, rfl, rfl⟩
theorem is13 : Is Lk41.T 13 3 9 (L_inclusion_2 6 9) := ⟨_, rfl, rfl, rfl, rfl, rfl⟩
theorem is14 : Is Lk41.T 14 3 3 (L_dependency_2 6 12 13) := ⟨_, rfl, rfl, rfl, rfl, rfl⟩
theorem is15 : Is Lk41.T 15 2 5 L_parts_of_2 := ⟨_, rfl, rfl, rfl, rfl, rfl⟩
theorem is16 : Is Lk41.T 16 3 4 L_row_of_2 := ⟨_, rfl, rfl, rfl, rfl, rfl⟩
theorem is17 : Is Lk41.T 17 2 9 (L_start 15 16) := ⟨_, rfl, rfl, rfl, rfl, rfl⟩
theorem is18 : Is Lk41.T 18 1 8 (law_k41 4 5 6 7 8 9 11 14 17) := ⟨_, rfl, rfl, rfl, rfl, rfl⟩
end Ow
theorem PySem.Challenge.cw_norowstray_k41_starts_holds : PySem.Challenge.rw_norowstray_k41_starts.Holds :=
  Lk41_end 0 6 63 rfl (Nat.le_of_lt (Nat.lt_of_le_of_lt (by decide) Ow.size_big)) ⟨rfl, by decide, by decide⟩ fun ns hn => Ow.k41_law Ow.is1 Ow.is0 Ow.is2 Ow.is3 Ow.is4 Ow.is5 Ow.is6 Ow.is7 Ow.is8 Ow.is9 Ow.is10 Ow.is11 Ow.is12 Ow.is13 Ow.is14 Ow.is15 Ow.is16 Ow.is17 Ow.is18 ns (Nat.le_trans hn (by decide))
