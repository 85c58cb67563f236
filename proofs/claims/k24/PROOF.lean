import PyProof.Rows.All
import Wide.All
import OpenK.AllK
import Wide.FinOn
import KE.KStateDown
import Lean
import HandS.ForMost
import HandS.Exc
import HandS.More
import HandS.Words
import HandS.WordsExc
import HandS.Defaults
import HandS.Head0
import HandS.Head1
import HandS.Head2
import HandS.HeadEnd
import HandS.HeadHook1
import HandS.HeadHook2
import HandS.Zip0
import HandS.Zip
import HandS.TupSets
import HandS.SetFor
import HandS.Strs
import KE.SortData
import HandS.Text
import HandS.IsInst
import HandS.SortInts
import HandS.CallSlots
import HandS.TupAny
import HandS.TupMul
import HandS.Deep
import HandS.Conv
import PyProof.SetRoads
import HandS.TupLe
import HandS.Flow
import PySem.Challenge.RW_norowstray_k24_whole_inclusions
set_option Elab.async false
set_option linter.all false
set_option maxRecDepth 100000
set_option maxHeartbeats 4000000
/-! S6: enumerate over a tuple. -/
namespace EnT
open PySem
section
variable {P : Program} {w : World} {A : Around} {E : Value → Shared → Prop} {s : Shared}
/-- fields set one behind the other keep all others -/
theorem but_trans {a : Addr} {h1 h2 h3 : Heap} (p : Heap.SameBut a h1 h2) (q : Heap.SameBut a h2 h3) : Heap.SameBut a h1 h3 := ⟨q.1.trans p.1, fun b hb => (q.2 b hb).trans (p.2 b hb)⟩
/-- the count, the new pair and the hand-out, once the item is at hand -/
theorem step_item {z c src : Addr} {n : Nat} {xs : Array Value} {x was : Value} {Q : Value → Shared → Prop} (ez : IsEnum s.heap z c n was) (ec : s.heap.IsTupleIter c src n) (es : s.heap.IsTuple src xs) (ex : xs[n]? = some x) (apart : z ≠ c)
    (fin : ∀ g, IsEnumOut g z c ((n : Int) + 1) x s.heap.objs.size → g.IsTupleIter c src (n + 1) → g.get? s.heap.objs.size = some { cls := .type "tuple", data := .seq #[.int n s.toks, x] } → g.objs.size = s.heap.objs.size + 1 →
      (∀ b o, b ≠ z → b ≠ c → s.heap.get? b = some o → g.get? b = some o) → Q (.ref s.heap.objs.size) { s with heap := g, toks := s.toks + 1 }) :
    wpAny (model P w) A (Builtin.«enumerate.__next__» ⟨[.ref z], []⟩) (fun f s' => ∃ v, f = .done (.ret v) ∧ Q v s') E s := by
  obtain ⟨hp, gl, d, tk, os⟩ := s
  show wpAny _ _ (field (.ref z) 2 >>= _) _ _ _
  refine wpAny_bind (wpAny_field ez rfl (x := .ref c) rfl (wpAny_bind (RZ.nextOf_tuple_item ec es ex fun g1 i1 b1 => ?_)))
  have z1 : IsEnum g1 z c n was := (b1.2 z apart).trans ez
  show wpAny _ _ (field (.ref z) 3 >>= _) _ _ ⟨g1, gl, d, tk, os⟩
  refine wpAny_bind (wpAny_field z1 rfl (x := rawInt n) rfl ?_)
  show wpAny _ _ (field (.ref z) 4 >>= _) _ _ ⟨g1, gl, d, tk, os⟩
  refine wpAny_bind (wpAny_field z1 rfl (x := .none) rfl ?_)
  show wpAny _ _ (mkInt n >>= _) _ _ ⟨g1, gl, d, tk, os⟩
  refine wpAny_bind (wpAny_mkInt ?_)
  show wpAny _ _ (setField (.ref z) 3 (rawInt ((n : Int) + 1)) >>= _) _ _ ⟨g1, gl, d, tk + 1, os⟩
  refine wpAny_bind (wpAny_setField_rec z1 (by simp) fun g2 z2 b2 => ?_)
  replace z2 : IsEnum g2 z c ((n : Int) + 1) was := z2
  show wpAny _ _ (setField (.ref z) 4 .none >>= _) _ _ ⟨g2, gl, d, tk + 1, os⟩
  refine wpAny_bind (wpAny_setField_rec z2 (by simp) fun g3 z3 b3 => ?_)
  replace z3 : IsEnum g3 z c ((n : Int) + 1) was := z3
  have b13 : Heap.SameBut z g1 g3 := but_trans b2 b3
  have sz3 : g3.objs.size = hp.objs.size := b13.1.trans b1.1
  show wpAny _ _ (newTuple [.int n tk, x] >>= _) _ _ ⟨g3, gl, d, tk + 1, os⟩
  refine wpAny_bind (wpAny_newTuple ?_)
  obtain ⟨g4, e4⟩ : ∃ g4, g4 = g3.push { cls := .type "tuple", data := .seq #[.int n tk, x] } := ⟨_, rfl⟩
  have z4 : IsEnum g4 z c ((n : Int) + 1) was := by rw [e4]; exact Heap.get?_push_of_some _ z3
  have i4 : g4.IsTupleIter c src (n + 1) := (i1.extBut b13.extBut (Ne.symm apart)).at fun o q => by rw [e4]; exact Heap.get?_push_of_some _ q
  have t4 : g4.get? hp.objs.size = some { cls := .type "tuple", data := .seq #[.int n tk, x] } := by rw [e4, ← sz3]; exact Heap.get?_push_size _ rfl
  have sz4 : g4.objs.size = hp.objs.size + 1 := by rw [e4, Heap.size_push, sz3]
  have k4 : ∀ b o, b ≠ z → b ≠ c → hp.get? b = some o → g4.get? b = some o := fun b o p q r => by
    rw [e4]
    exact Heap.get?_push_of_some _ (b13.extBut b o p (b1.extBut b o q r))
  have lz : z < hp.objs.size := Heap.lt_size ez
  rw [← e4]
  show wpAny _ _ (Builtin.SmallTypes.ownedTupleIsFree (.ref z) >>= _) _ _ ⟨g4, gl, d, tk + 1, os⟩
  rw [sz3]
  refine wpAny_bind ?_
  unfold Builtin.SmallTypes.ownedTupleIsFree
  refine wpAny_bind (wpAny_field z4 rfl (x := .none) rfl (wpAny_pure ?_))
  simp only [if_true]
  refine wpAny_bind (wpAny_rule (wpAny_bind (wpAny_field z4 rfl (x := was) rfl (wpAny_bind (wpAny_setField_rec z4 (by simp) fun g5 z5 b5 => ?_)))))
  replace z5 : IsEnum g5 z c ((n : Int) + 1) x := z5
  show wpAny _ _ (Builtin.SmallTypes.ownedTupleHandOut (.ref z) (.ref hp.objs.size) >>= _) _ _ ⟨g5, gl, d, tk + 1, os⟩
  refine wpAny_bind ?_
  unfold Builtin.SmallTypes.ownedTupleHandOut
  refine wpAny_bind (wpAny_setField_rec z5 (by simp) fun g6 z6 b6 => ?_)
  replace z6 : IsEnumOut g6 z c ((n : Int) + 1) x hp.objs.size := z6
  refine wpAny_setField_rec z6 (by simp) fun g7 z7 b7 => ?_
  have b47 : Heap.SameBut z g4 g7 := but_trans b5 (but_trans b6 b7)
  refine wpAny_bind (wpAny_letGo (wpAny_pure ⟨_, rfl, fin g7 z7 (i4.extBut b47.extBut (Ne.symm apart)) ?_ (b47.1.trans sz4) fun b o p q r => ?_⟩))
  · exact b47.extBut _ _ (Nat.ne_of_gt lz) t4
  · exact b47.extBut b o p (k4 b o p q r)
theorem typ {z c : Addr} {i : Int} {was : Value} (ez : IsEnum s.heap z c i was) : s.TypeIs (.ref z) "enumerate" := ⟨_, ez, rfl⟩
theorem next_item {z c src : Addr} {n : Nat} {xs : Array Value} {x was : Value} {Q : Option Value → Shared → Prop} (ez : IsEnum s.heap z c n was) (ec : s.heap.IsTupleIter c src n) (es : s.heap.IsTuple src xs) (ex : xs[n]? = some x) (apart : z ≠ c)
    (fin : ∀ g, IsEnumOut g z c ((n : Int) + 1) x s.heap.objs.size → g.IsTupleIter c src (n + 1) → g.get? s.heap.objs.size = some { cls := .type "tuple", data := .seq #[.int n s.toks, x] } → g.objs.size = s.heap.objs.size + 1 →
      (∀ b o, b ≠ z → b ≠ c → s.heap.get? b = some o → g.get? b = some o) → Q (some (.ref s.heap.objs.size)) { s with heap := g, toks := s.toks + 1 }) :
    wpAny (model P w) A (pyNext (.ref z)) Q E s := by
  unfold pyNext
  refine wpAny_bind (wpAny_attempt (wpAny_callSpecial?_slot (name := Str.ofString "__next__") (typ ez) F.slot_enumerate_next (wpAny_call_entry F.slot_enumerate_next (typ ez) F.entry_enumerate_next ?_ (F.args_enumerate_next_1 _))))
  exact step_item ez ec es ex apart fun g q1 q2 q3 q4 q5 => wpAny_pure (fin g q1 q2 q3 q4 q5)
theorem next_end {z c src : Addr} {n : Nat} {xs : Array Value} {was : Value} {Q : Option Value → Shared → Prop} (hh : A.handled = none) (ez : IsEnum s.heap z c n was) (ec : s.heap.IsTupleIter c src n) (es : s.heap.IsTuple src xs) (ex : xs[n]? = none)
    (fin : ∀ g, Heap.ExtBut c s.heap g → Q none { s with heap := g }) : wpAny (model P w) A (pyNext (.ref z)) Q E s := by
  unfold pyNext
  refine wpAny_bind (wpAny_attempt (wpAny_callSpecial?_slot (name := Str.ofString "__next__") (typ ez) F.slot_enumerate_next (wpAny_call_entry F.slot_enumerate_next (typ ez) F.entry_enumerate_next ?_ (F.args_enumerate_next_1 _))))
  show wpAny _ _ (field (.ref z) 2 >>= _) _ _ _
  refine wpAny_bind (wpAny_field ez rfl (x := .ref c) rfl (wpAny_bind (RZ.nextOf_tuple_end hh ec es ex fun g x q1 q2 => ?_)))
  obtain ⟨ob, q3, q4⟩ := q2
  exact wpAny_bind (wpAny_isInstance (T := "StopIteration") (b := true) ⟨ob, q3, q4⟩ isSubtype_stop (wpAny_pure (fin _ q1)))
/-- the two new objects -/
abbrev mk1 (src : Addr) : Obj := { cls := .type "tuple_iterator", data := .fields #[.ref src, .int 0 0] }
abbrev mk2 (c : Addr) : Obj := { cls := .type "enumerate", data := .fields #[.none, .bool false, .ref c, rawInt 0, .none, .none] }
theorem meets_new (src : Addr) (xs : Array Value) : Meets (Builtin.«enumerate.__new__» ⟨[.type "enumerate", .ref src], []⟩) (fun _ R s => s.heap.IsTuple src xs ∧
      R (.ok (.ret (.ref (s.heap.push (mk1 src)).objs.size))) { s with heap := (s.heap.push (mk1 src)).push (mk2 s.heap.objs.size) }) :=
  .of_wp fun P w A R s h => by
    obtain ⟨hp, gl, d, tk, os⟩ := s
    obtain ⟨hl, h⟩ := h
    have hsub := sub_enumerate
    have hT : Heap.IsTuple (Shared.heap ⟨hp, gl, d, tk, os⟩) src xs := hl
    wp_walk using wpAny_pyIter_tuple hT
    refine wpAny_stack_any fun st => wpAny_pure ?_
    split
    · rename_i cc _ _ _ _ _
      cases (cc == Value.type "enumerate") <;> (wp_walk using wpAny_pyIter_tuple hT) <;> exact ⟨_, rfl, h⟩
    · wp_walk using wpAny_pyIter_tuple hT
      exact ⟨_, rfl, h⟩
theorem call_new {src : Addr} {xs : Array Value} {Q : Value → Shared → Prop} (es : s.heap.IsTuple src xs)
    (fin : ∀ g, IsEnum g (s.heap.objs.size + 1) s.heap.objs.size 0 .none → g.IsTupleIter s.heap.objs.size src 0 → (∀ b o, s.heap.get? b = some o → g.get? b = some o) → Q (.ref (s.heap.objs.size + 1)) { s with heap := g }) :
    wpAny (model P w) A (call (.type "enumerate") [.ref src]) Q E s := by
  refine callType_new F.called_enumerate (by decide) (F.typeCall_enumerate_1 _) (F.newCall_enumerate_1 _) (fun obj => F.args_object_init_2 obj _) F.entry_enumerate_new (meets_new src xs) ⟨es, ?_⟩
  have sz : (s.heap.push (mk1 src)).objs.size = s.heap.objs.size + 1 := Heap.size_push ..
  have e2 := Heap.get?_push_size (s.heap.push (mk1 src)) (o := mk2 s.heap.objs.size) rfl
  rw [sz] at e2
  show _ ∧ _
  rw [sz]
  exact ⟨⟨_, e2, rfl⟩, fin _ e2 ⟨_, Heap.get?_push_of_some _ (Heap.get?_push_size _ rfl), rfl, rfl⟩ fun b o q => Heap.get?_push_of_some _ (Heap.get?_push_of_some _ q)⟩
end
section
open L2 PySem.Spec PyProof.Rows
/-- the tuple at a, each item in a new pair with its place -/
def IteT (K : PySem.W.Frag) (a : Addr) : It where
  go := fun i H => ∃ (xs : List V) (x : V), SqT K H a xs ∧ xs[i]? = some x
  yld := fun i H v H' => ∃ p x, v = .ref p ∧ H p = none ∧ H' = upd H p (.tup [.int (i : Nat), x]) ∧ ∀ xs, SqT K H a xs → xs[i]? = some x
  stop := fun i H => ∃ xs : List V, SqT K H a xs ∧ xs.length ≤ i
theorem turnT {P : Program} {w : World} {K : PySem.W.Frag} {elts : List Expr} {kk : Nat} {tpos : Pos} (a z c : Addr) :
    Turn P w K (.Tuple elts kk tpos) (IteT K a) [z, c] z (fun i h => (∃ was, IsEnum h z c ((i : Nat) : Int) was) ∧ h.IsTupleIter c a i ∧ z ≠ c) where
  mem := List.mem_cons_self ..
  obj := fun i h ⟨⟨was, q1⟩, ⟨o, q2, q3, q4⟩, _⟩ b hb => by
    simp only [List.mem_cons, List.not_mem_nil, or_false] at hb
    rcases hb with rfl | rfl
    · exact ⟨_, q1, fun v q => nomatch q⟩
    · exact ⟨o, q2, fun v q => by rw [q4] at q; cases q⟩
  keep := fun i h h' ⟨⟨was, q1⟩, q2, q3⟩ k => ⟨⟨was, k z (List.mem_cons_self ..) _ q1⟩, q2.at fun o q => k c (by simp) o q, q3⟩
  item := by
    intro X hP hw hK hc i pins s σ H E I hf ⟨⟨was, q1⟩, q2, q3⟩ ⟨xs, x, hq, hx⟩
    subst hP hw hK
    obtain ⟨its, rv, p, _⟩ := I.tuple hq
    obtain ⟨u, hu, ru⟩ := rv.get hx
    have lz : z < s.heap.objs.size := Heap.lt_size q1
    have lc : c < s.heap.objs.size := by obtain ⟨_, q, _⟩ := q2; exact Heap.lt_size q
    refine next_item q1 q2 (show s.heap.IsTuple a its.toArray from p) (x := u) (by simpa using hu) q3 fun g ho hit hT hsz hk => ?_
    refine ⟨_, rfl, wpAny_letOwnedTupleGo_enum (s := { s with heap := g, toks := s.toks + 1 }) ho fun g2 z2 sb => ?_⟩
    have same : ∀ b, b ≠ z → g2.get? b = g.get? b := fun b hb => sb.2 b hb
    have pr : ObjOk X.prog X.w (upd H s.heap.objs.size (.tup [.int (i : Nat), x])) g2 s.heap.objs.size (.tup [.int (i : Nat), x]) :=
      ⟨by show 2 ≤ sizeLine; decide, [.int i s.toks, u], .cons ⟨_, rfl⟩ (.cons ru .nil), ⟨_, (same _ (Nat.ne_of_gt lz)).trans hT, rfl, _, rfl⟩⟩
    have I2 : Inv X pins σ (upd H s.heap.objs.size (.tup [.int (i : Nat), x])) { s with heap := g2, toks := s.toks + 1 } :=
      I.turnedNew (ch := [z, c]) (fun b ob hb q => (same b fun y => hb (by simp [y])).trans (hk b ob (fun y => hb (by simp [y])) (fun y => hb (by simp [y])) q)) hf (Nat.le_refl _) pr
    refine ⟨.ref s.heap.objs.size, _, I2, rfl, ⟨_, x, rfl, I.hok.fresh (Nat.le_refl _), rfl, fun ys hy => ?_⟩, ⟨⟨u, ?_⟩, hit.at fun o q => (same c (Ne.symm q3)).trans q, q3⟩, fun b hb => ?_⟩
    · have e : ys = xs := I.tuple_inj hy hq
      rw [e]
      exact hx
    · rw [show ((i + 1 : Nat) : Int) = (i : Int) + 1 by omega]
      exact z2
    · have lb : b < s.heap.objs.size := by
        simp only [List.mem_cons, List.not_mem_nil, or_false] at hb
        rcases hb with rfl | rfl <;> assumption
      rw [upd_ne (Nat.ne_of_lt lb)]
      exact (hf b hb).1
  done := by
    intro X hP hw hK hc i pins s σ H E I hf ⟨⟨was, q1⟩, q2, q3⟩ ⟨xs, hq, hx⟩
    subst hP hw hK
    obtain ⟨its, rv, p, _⟩ := I.tuple hq
    obtain ⟨f0, f1, f2, f3, f4, f5⟩ := hf c (by simp)
    have ln := rv.length
    exact next_end (I.ok.hd hc) q1 q2 (show s.heap.IsTuple a its.toArray from p) (by simp; omega) fun g eb => ⟨rfl, I.turned (t' := s.toks) (fun b o hb q => eb b o hb q) f0 f1 f3 f4 f5⟩
  self := fun A i s Q E ⟨⟨_, q1⟩, _⟩ h => wpAny_pyIter_enum q1 h
/-- enumerate of a list or of a tuple -/
def iEn (K : PySem.W.Frag) (ta : TA) : TI := fun σ H R => ta σ H fun vs H1 => ∃ a, vs = [.ref a] ∧ (((∃ xs, SqL K H1 a xs) ∧ R (Ite K a) H1) ∨ ((∃ xs, SqT K H1 a xs) ∧ R (IteT K a) H1))
theorem pi_en {X : Cx} {e : Expr} {ta : TA} {p pos tpos : Pos} {elts : List Expr} {kk : Nat} (hg : Gl X "enumerate") (hm : X.mg "enumerate" = none) (ha : PA X [e] ta) (hs : starEach [e] X.env = [(false, eval e X.env)]) :
    PI X (.Tuple elts kk tpos) (.Call (.Name "enumerate" p) [e] [] pos) (iEn X.K ta) := by
  refine ⟨fun pins s σ H R I h => ?_⟩
  refine Call_ (ld_blt I hg hm boot_enumerate (PyProof.Rows.callWith_type1 (thn (ha.run pos pins s σ H _ I h) fun us s1 ⟨vs, H1, I1, r1, a, ex, q1⟩ => ?_) hs rfl))
  subst ex
  obtain ⟨u, rfl⟩ : ∃ u, us = [u] := by cases r1 with | cons _ rr => cases rr; exact ⟨_, rfl⟩
  have hr : u = Value.ref a := by cases r1 with | cons r _ => cases r; rfl
  subst hr
  have fresh2 : ∀ b, b ∈ [s1.heap.objs.size + 1, s1.heap.objs.size] → FpOk X pins H1 b := fun b hb => by
    have hle : s1.heap.objs.size ≤ b := by
      simp only [List.mem_cons, List.not_mem_nil, or_false] at hb
      rcases hb with rfl | rfl
      · exact Nat.le_succ _
      · exact Nat.le_refl _
    exact I1.fpOk hle (I1.hok.fresh hle)
  rcases q1 with ⟨⟨xs, hq⟩, q⟩ | ⟨⟨xs, hq⟩, q⟩
  · obtain ⟨its, rv, p', _⟩ := I1.list hq
    refine call_enumerate_list p'.isList fun g he hit hsz hk => wpAny_pyIter_enum he ?_
    exact ⟨s1.heap.objs.size + 1, [s1.heap.objs.size + 1, s1.heap.objs.size], _, _, H1, rfl, I1.kept (t' := s1.toks) hk, turn_enum a (s1.heap.objs.size + 1) s1.heap.objs.size, ⟨⟨.none, he⟩, hit, Nat.succ_ne_self _⟩, fresh2, q⟩
  · obtain ⟨its, rv, p', _⟩ := I1.tuple hq
    refine call_new (show s1.heap.IsTuple a its.toArray from p') fun g he hit hk => wpAny_pyIter_enum he ?_
    exact ⟨s1.heap.objs.size + 1, [s1.heap.objs.size + 1, s1.heap.objs.size], _, _, H1, rfl, I1.kept (t' := s1.toks) hk, turnT a (s1.heap.objs.size + 1) s1.heap.objs.size, ⟨⟨.none, he⟩, hit, Nat.succ_ne_self _⟩, fresh2, q⟩
end
end EnT

/-! S2: each once, in order: plain lists. -/
namespace SetF
section
variable {α : Type} [DecidableEq α]
def uniq : List α → List α
  | [] => []
  | x :: xs => if x ∈ xs then uniq xs else x :: uniq xs
theorem mem_uniq {x : α} : ∀ {l : List α}, x ∈ uniq l ↔ x ∈ l
  | [] => Iff.rfl
  | y :: l => by
    unfold uniq
    split
    · rename_i h
      rw [mem_uniq (l := l), List.mem_cons]
      exact ⟨.inr, fun z => z.elim (fun e => e ▸ h) id⟩
    · rw [List.mem_cons, List.mem_cons, mem_uniq (l := l)]
theorem nodup_uniq : ∀ l : List α, (uniq l).Nodup
  | [] => List.nodup_nil
  | y :: l => by
    unfold uniq
    split
    · exact nodup_uniq l
    · rename_i h
      exact List.nodup_cons.mpr ⟨fun z => h (mem_uniq.mp z), nodup_uniq l⟩
theorem length_uniq : ∀ l : List α, (uniq l).length ≤ l.length
  | [] => Nat.le_refl _
  | y :: l => by
    unfold uniq
    have := length_uniq l
    split <;> simp only [List.length_cons] <;> omega
theorem perm_of_same {l m : List α} (hl : l.Nodup) (hm : m.Nodup) (h : ∀ x, x ∈ l ↔ x ∈ m) : l.Perm m := (List.perm_ext_iff_of_nodup hl hm).mpr h
end
/-- rows, the order of tuples of whole numbers -/
def rowLe (a b : List Int) : Bool := decide (a ≤ b)
theorem rowLe_trans (a b c : List Int) (h1 : rowLe a b = true) (h2 : rowLe b c = true) : rowLe a c = true :=
  decide_eq_true (List.le_trans (of_decide_eq_true h1) (of_decide_eq_true h2))
theorem rowLe_total (a b : List Int) : (rowLe a b || rowLe b a) = true := by
  rcases List.le_total a b with h | h
  · rw [show rowLe a b = true from decide_eq_true h]; rfl
  · rw [show rowLe b a = true from decide_eq_true h, Bool.or_true]
theorem rowLe_anti (a b : List Int) (h1 : rowLe a b = true) (h2 : rowLe b a = true) : a = b := List.le_antisymm (of_decide_eq_true h1) (of_decide_eq_true h2)
def sortRows (rs : List (List Int)) : List (List Int) := (uniq rs).mergeSort rowLe
def sortInts (ns : List Int) : List Int := (uniq ns).mergeSort fun a b => decide (a ≤ b)
theorem mem_sortRows {r : List Int} {rs : List (List Int)} : r ∈ sortRows rs ↔ r ∈ rs := by
  unfold sortRows
  rw [(List.mergeSort_perm _ _).mem_iff, mem_uniq]
theorem mem_sortInts {r : Int} {rs : List Int} : r ∈ sortInts rs ↔ r ∈ rs := by
  unfold sortInts
  rw [(List.mergeSort_perm _ _).mem_iff, mem_uniq]
theorem sortRows_len (rs : List (List Int)) : (sortRows rs).length = (uniq rs).length := List.length_mergeSort _
theorem sortInts_len (rs : List Int) : (sortInts rs).length = (uniq rs).length := List.length_mergeSort _
theorem sortRows_pair (rs : List (List Int)) : (sortRows rs).Pairwise fun a b => rowLe a b = true := List.pairwise_mergeSort rowLe_trans rowLe_total _
theorem sortRows_nodup (rs : List (List Int)) : (sortRows rs).Nodup := (List.mergeSort_perm _ _).nodup_iff.mpr (nodup_uniq rs)
theorem sortInts_nodup (rs : List Int) : (sortInts rs).Nodup := (List.mergeSort_perm _ _).nodup_iff.mpr (nodup_uniq rs)
theorem sortInts_pair (rs : List Int) : (sortInts rs).Pairwise fun a b => a ≤ b := by
  refine List.Pairwise.imp (fun {a b} h => of_decide_eq_true h) (List.pairwise_mergeSort (le := fun a b : Int => decide (a ≤ b)) (fun a b c => ?_) (fun a b => ?_) (uniq rs))
  · simp only [decide_eq_true_eq]; omega
  · simp only [Bool.or_eq_true, decide_eq_true_eq]; omega
/-- the one ascending list of these rows -/
theorem sortRows_eq {l rs : List (List Int)} (hp : l.Pairwise fun a b => rowLe a b = true) (hn : l.Nodup) (hm : ∀ r, r ∈ l ↔ r ∈ rs) : l = sortRows rs := by
  refine List.Perm.eq_of_pairwise (le := fun a b => rowLe a b = true) (fun a b _ _ h1 h2 => rowLe_anti a b h1 h2) hp (sortRows_pair rs) ?_
  exact perm_of_same hn (sortRows_nodup rs) fun r => by rw [hm, mem_sortRows]
theorem sortInts_eq {l rs : List Int} (hp : l.Pairwise fun a b => a ≤ b) (hn : l.Nodup) (hm : ∀ r, r ∈ l ↔ r ∈ rs) : l = sortInts rs := by
  refine List.Perm.eq_of_pairwise (le := fun a b => a ≤ b) (fun a b _ _ h1 h2 => Int.le_antisymm h1 h2) hp (sortInts_pair rs) ?_
  exact perm_of_same hn (sortInts_nodup rs) fun r => by rw [hm, mem_sortInts]
theorem sortRows_same {rs ss : List (List Int)} (h : ∀ r, r ∈ rs ↔ r ∈ ss) : sortRows rs = sortRows ss :=
  sortRows_eq (sortRows_pair rs) (sortRows_nodup rs) fun r => by rw [mem_sortRows, h]
theorem sortInts_same {rs ss : List Int} (h : ∀ r, r ∈ rs ↔ r ∈ ss) : sortInts rs = sortInts ss :=
  sortInts_eq (sortInts_pair rs) (sortInts_nodup rs) fun r => by rw [mem_sortInts, h]
end SetF

/-! Ow1: a small pure evaluator: values, the abstract heap of what is mutated, expressions, statements. -/
namespace Ow
open PySem

/-! ### values -/
inductive W where
  | non | bl (b : Bool) | int (i : Int) | str (s : Str)
  | tup (ws : List W) | lst (ws : List W) | slst (ws : List W) | set (rs : List (List Int)) | dic (ks vs : List W)
  | ref (n : Nat)
  | ty (n : String)
  | cls (k : Nat)
  | exc (k : Nat) (vs : List W)
  deriving Inhabited
/-- an object that may be changed -/
inductive Obj where
  | dead
  | lst (ws : List W)
  | dic (ks vs : List W)
  | ins (k : Nat) (fs : List W)
abbrev Hp := List Obj
abbrev Env := List (Option W)

mutual
/-- every ref is below n -/
def below (n : Nat) : W → Bool
  | .tup ws => belowL n ws
  | .lst ws => belowL n ws
  | .slst ws => belowL n ws
  | .dic ks vs => belowL n ks && belowL n vs
  | .exc _ vs => belowL n vs
  | .ref m => decide (m < n)
  | _ => true
def belowL (n : Nat) : List W → Bool
  | [] => true
  | w :: ws => below n w && belowL n ws
end
def Obj.below (n : Nat) : Obj → Bool
  | .dead => true
  | .lst ws => belowL n ws
  | .dic ks vs => belowL n ks && belowL n vs
  | .ins _ fs => belowL n fs

/-- the content of a ref to a list or a dict, as a value -/
def deref (h : Hp) : W → W
  | .ref n => match h[n]? with
    | some (.lst ws) => .lst ws
    | some (.dic ks vs) => .dic ks vs
    | _ => .ref n
  | w => w

/-- plain data (for ==, order) -/
def toD : W → PyData
  | .non => .none
  | .bl b => .bool b
  | .int i => .int i
  | .str s => .str s
  | .tup ws => .tuple (ws.map toD)
  | .lst ws => .list (ws.map toD)
  | _ => .dict []
mutual
def isD : W → Bool
  | .non => true
  | .bl _ => true
  | .int _ => true
  | .str _ => true
  | .tup ws => isDL ws
  | .lst ws => isDL ws
  | _ => false
def isDL : List W → Bool
  | [] => true
  | w :: ws => isD w && isDL ws
end

/-! ### results -/
inductive R (α : Type) where
  | ok (a : α) (h : Hp)
  | exc (e : W) (h : Hp)
  | bad
def R.bind {α β : Type} (x : R α) (f : α → Hp → R β) : R β := match x with
  | .ok a h => f a h
  | .exc e h => .exc e h
  | .bad => .bad
@[simp] theorem R.bind_ok {α β : Type} (a : α) (h : Hp) (f : α → Hp → R β) : (R.ok a h).bind f = f a h := rfl
@[simp] theorem R.bind_exc {α β : Type} (e : W) (h : Hp) (f : α → Hp → R β) : (R.exc e h : R α).bind f = .exc e h := rfl
@[simp] theorem R.bind_bad {α β : Type} (f : α → Hp → R β) : (R.bad : R α).bind f = .bad := rfl
def R.ofO {α : Type} (o : Option α) (h : Hp) : R α := match o with
  | some a => .ok a h
  | none => .bad
@[simp] theorem R.ofO_some {α : Type} (a : α) (h : Hp) : R.ofO (some a) h = .ok a h := rfl
@[simp] theorem R.ofO_none {α : Type} (h : Hp) : (R.ofO none h : R α) = .bad := rfl

/-! ### primitives -/
inductive Tk where
  | tup | lst | str | bool | int
  deriving DecidableEq
inductive Prim where
  | add | sub | mul | mod | fdiv | pow | neg
  | eq | ne | lt | le | gt | ge | isN | notN | mem | nmem
  | idx | sl (lo hi : Bool)
  | tupd | lstd
  | len | int1 | abs | min2 | max2 | str1 | list1 | tuple1 | sorted1 | set1 | all1 | any1 | sum1 | min1 | max1 | rangeL | rangeT | isB
  | isi (T : Tk)
  | sset | lset
  deriving DecidableEq

/-- an index as Python takes it -/
def ixOf (n : Nat) (i : Int) : Option Nat := L2.ixN n i
def atW (ws : List W) (i : Int) : Option W := L2.atI ws i
def cutW (ws : List W) (lo hi : Option Int) : List W := (ws.drop (HT.sIx ws.length 0 lo)).take (HT.sIx ws.length ws.length hi - HT.sIx ws.length 0 lo)
def okLen (n : Nat) : Bool := decide (n ≤ sizeLine)

def pAdd : W → W → Option W
  | .int a, .int b => some (.int (a + b))
  | .str a, .str b => if okLen (a.length + b.length) then some (.str (a ++ b)) else none
  | .tup a, .tup b => if okLen (a.length + b.length) then some (.tup (a ++ b)) else none
  | .lst a, .lst b => if okLen (a.length + b.length) then some (.lst (a ++ b)) else none
  | _, _ => none
def pSub : W → W → Option W
  | .int a, .int b => some (.int (a - b))
  | _, _ => none
def small64 (i : Int) : Bool := decide (-(2 ^ 64) < i ∧ i < 2 ^ 64)
def pMul : W → W → Option W
  | .int a, .int b => if small64 a || small64 b then some (.int (a * b)) else none
  | .tup a, .int k => if (!a.isEmpty) && decide (-1000 ≤ k ∧ k ≤ 1000 ∧ a.length ≤ 1000) then some (.tup (List.replicate k.toNat a).flatten) else none
  | .lst a, .int k => if decide (a.length * k.toNat ≤ sizeLine ∧ -(2 ^ 63) ≤ k ∧ k < 2 ^ 63) then some (.lst (List.replicate k.toNat a).flatten) else none
  | _, _ => none
def pMod : W → W → Option W
  | .int a, .int b => if b = 0 then none else some (.int (a.fmod b))
  | _, _ => none
def pFdiv : W → W → Option W
  | .int a, .int b => if b ≠ 0 ∧ b.natAbs < 1073741824 then some (.int (a.fdiv b)) else none
  | _, _ => none
def pPow : W → W → Option W
  | .int a, .int b => if 0 ≤ b ∧ b ≤ 1000000 ∧ a.natAbs < 2 ^ 64 then some (.int (a ^ b.toNat)) else none
  | _, _ => none
/-- two data that == may compare -/
def eqOk (a b : W) : Bool := isD a && isD b && SeqAt.shaped (toD a) && SeqAt.shaped (toD b)
def pEq : W → W → Option Bool
  | .str a, .str b => some (decide (a = b))
  | .str _, .non => some false
  | .non, .str _ => some false
  | .str _, .int _ => some false
  | .int _, .str _ => some false
  | a, b => if eqOk a b then some (PyData.eqv (toD a) (toD b)) else none
def pCmp (f : Int → Int → Bool) : W → W → Option W
  | .int a, .int b => some (.bl (f a b))
  | _, _ => none
def items : W → Option (List W)
  | .lst ws => some ws
  | .slst ws => some ws
  | .tup ws => some ws
  | _ => none
def allInt : List W → Option (List Int)
  | [] => some []
  | .int i :: r => (allInt r).map (i :: ·)
  | _ => none
def allBl : List W → Option (List Bool)
  | [] => some []
  | .bl i :: r => (allBl r).map (i :: ·)
  | _ => none
def allStr : List W → Option (List Str)
  | [] => some []
  | .str i :: r => (allStr r).map (i :: ·)
  | _ => none
/-- x in xs -/
def pMemD (x : W) (ws : List W) : Option Bool := if isD x && isDL ws && SeqAt.shaped (toD x) && SeqAt.shaped (.list (ws.map toD)) then some (ws.any fun y => PyData.eqv (toD y) (toD x)) else none
def flatW : W → Bool
  | .non => true
  | .bl _ => true
  | .int _ => true
  | .str _ => true
  | _ => false
/-- == of flat values -/
def eqF : W → W → Bool
  | .non, .non => true
  | .bl a, .bl b => a == b
  | .bl a, .int b => (if a then 1 else 0) == b
  | .int a, .bl b => a == (if b then 1 else 0)
  | .int a, .int b => a == b
  | .str a, .str b => a == b
  | _, _ => false
def pMemF (x : W) (ws : List W) : Option Bool := if flatW x && ws.all flatW then some (ws.any fun y => eqF y x) else none
def pMem : W → W → Option Bool
  | .str x, .str z => some (!(Builtin.Str.occurrences z x 0 z.length 1).isEmpty)
  | x, .lst ws => match pMemF x ws with
    | some k => some k
    | none => pMemD x ws
  | x, .slst ws => pMemF x ws
  | x, .tup ws => pMemF x ws
  | .tup us, .set rs => (allInt us).map fun k => decide (k ∈ rs)
  | _, _ => none
/-- distinct items, the first ones -/
def dedupW : List W → List W := fun ws => ws.foldl (fun acc w => if acc.any (fun y => PyData.eqv (toD y) (toD w)) then acc else acc ++ [w]) []
def seqLen : W → Option Nat
  | .lst ws => some ws.length
  | .slst ws => some ws.length
  | .tup ws => some ws.length
  | .dic ks _ => some ks.length
  | .str z => if okLen z.length then some z.length else none
  | _ => none
def pIdx : W → W → Option W
  | .lst ws, .int i => atW ws i
  | .slst ws, .int i => atW ws i
  | .tup ws, .int i => atW ws i
  | .str z, .int i => if okLen z.length then (L2.atI z.cps.toList i).map fun c => .str ⟨#[c]⟩ else none
  | _, _ => none
def optI : Bool → List W → Option (Option Int × List W)
  | true, .int i :: r => some (some i, r)
  | false, r => some (none, r)
  | _, _ => none
def pSl (lo hi : Bool) : List W → Option W
  | x :: r => (optI lo r).bind fun (l, r1) => (optI hi r1).bind fun (u, r2) => match r2, x with
    | [], .lst ws => some (.lst (cutW ws l u))
    | [], .tup ws => some (.tup (cutW ws l u))
    | [], .str z => if okLen z.length then some (.str (L2.cutS z l u)) else none
    | _, _ => none
  | [] => none
def isiF : Tk → W → Option Bool
  | .tup, .tup _ => some true
  | .lst, .lst _ => some true
  | .lst, .slst _ => some true
  | .str, .str _ => some true
  | .bool, .bl _ => some true
  | .int, .bl _ => some true
  | .int, .int _ => some true
  | _, .non => some false
  | _, .bl _ => some false
  | _, .int _ => some false
  | _, .str _ => some false
  | _, .tup _ => some false
  | _, .lst _ => some false
  | _, .slst _ => some false
  | _, _ => none
/-- rows: tuples of whole numbers -/
def rowsW : List W → Option (List (List Int))
  | [] => some []
  | .tup us :: r => (allInt us).bind fun ns => (rowsW r).map (ns :: ·)
  | _ => none
def rowW (r : List Int) : W := .tup (r.map W.int)
/-- sorted: whole numbers, rows -/
def pSort (ws : List W) : Option (List W) := match allInt ws with
  | some ns => some ((ns.mergeSort fun a b => decide (a ≤ b)).map W.int)
  | none => (rowsW ws).bind fun rs => if (rs.all (fun r => !r.isEmpty) || decide (rs.length ≤ 1)) = true then some ((rs.mergeSort SetF.rowLe).map rowW) else none
/-- sorted(set(x)) -/
def pSset (x : W) : Option W := (items x).bind fun ws => match allInt ws with
  | some ns => if ns.length < 64 then some (.lst ((SetF.sortInts ns).map W.int)) else none
  | none => (rowsW ws).bind fun rs => if rs.length < 64 ∧ (rs.all (fun r => !r.isEmpty) || decide ((SetF.uniq rs).length ≤ 1)) = true then some (.lst ((SetF.sortRows rs).map rowW)) else none
/-- len(set(x)) -/
def pLset (x : W) : Option W := (items x).bind fun ws => match allInt ws with
  | some ns => if ns.length < 4000 then some (.int (SetF.uniq ns).length) else none
  | none => (rowsW ws).bind fun rs => if rs.length < 64 then some (.int (SetF.uniq rs).length) else none
def pJoin (z : Str) (ws : List W) : Option W := (allStr ws).bind fun ys => if (ys.map (·.length)).sum + ys.length * z.length ≤ 16777216 then some (.str (Txt.join z ys)) else none
noncomputable def pOne : Prim → W → Option W
  | .isi T, x => (isiF T x).map .bl
  | .sset, x => pSset x
  | .lset, x => pLset x
  | .neg, .int i => some (.int (-i))
  | .len, x => (seqLen x).map fun n => .int n
  | .int1, .int i => some (.int i)
  | .int1, .bl k => some (.int (if k then 1 else 0))
  | .abs, .int i => some (.int (if i < 0 then -i else i))
  | .str1, .int i => if i.natAbs.log2 < 1920 then some (.str (toString i)) else none
  | .list1, x => (items x).map .lst
  | .tuple1, x => (items x).map .tup
  | .sorted1, x => ((items x).bind pSort).map .lst
  | .set1, x => (items x).bind fun ws => (rowsW ws).bind fun rs => if rs.length < 64 then some (.set rs) else none
  | .all1, .lst ws => (allBl ws).map fun bs => .bl (bs.all id)
  | .any1, .lst ws => (allBl ws).map fun bs => .bl (bs.any id)
  | .sum1, .lst ws => (allInt ws).map fun ns => .int ns.sum
  | .min1, .lst ws => (allInt ws).bind fun ns => ns.min?.map .int
  | .max1, .lst ws => (allInt ws).bind fun ns => ns.max?.map .int
  | .rangeL, .int n => if n ≤ 16777216 ∧ -(2 ^ 62) ≤ n then some (.lst ((List.range n.toNat).map fun i => .int (i : Nat))) else none
  | .rangeT, .int n => if n ≤ 16777216 ∧ -(2 ^ 62) ≤ n then some (.tup ((List.range n.toNat).map fun i => .int (i : Nat))) else none
  | _, _ => none
noncomputable def pTwo : Prim → W → W → Option W
  | .add, a, b => pAdd a b
  | .sub, a, b => pSub a b
  | .mul, a, b => pMul a b
  | .mod, a, b => pMod a b
  | .fdiv, a, b => pFdiv a b
  | .pow, a, b => pPow a b
  | .eq, a, b => (pEq a b).map .bl
  | .ne, a, b => (pEq a b).map fun c => .bl (!c)
  | .lt, a, b => pCmp (fun i j => decide (i < j)) a b
  | .isB, .bl a, .bl b => some (.bl (decide (a = b)))
  | .le, a, b => pCmp (fun i j => decide (i ≤ j)) a b
  | .gt, a, b => pCmp (fun i j => decide (j < i)) a b
  | .ge, a, b => pCmp (fun i j => decide (j ≤ i)) a b
  | .mem, a, b => (pMem a b).map .bl
  | .nmem, a, b => (pMem a b).map fun c => .bl (!c)
  | .idx, a, b => pIdx a b
  | .min2, .int i, .int j => some (.int (if j < i then j else i))
  | .max2, .int i, .int j => some (.int (if j > i then j else i))
  | _, _, _ => none
def isNon : W → Bool
  | .non => true
  | _ => false
/-- a primitive, by the values of its arguments (refs to lists and dicts as their contents) -/
noncomputable def primF (p : Prim) (ws : List W) : Option W := match p with
  | .tupd => if okLen ws.length then some (.tup ws) else none
  | .lstd => if okLen ws.length then some (.lst ws) else none
  | .sl lo hi => pSl lo hi ws
  | .isN => match ws with
    | [a] => some (.bl (isNon a))
    | _ => none
  | .notN => match ws with
    | [a] => some (.bl (!isNon a))
    | _ => none
  | p => match ws with
    | [a] => pOne p a
    | [a, b] => pTwo p a b
    | _ => none
/-- a primitive whose list is new -/
def Prim.fresh : Prim → Bool
  | .add | .mul | .sl _ _ | .lstd | .list1 | .sorted1 | .rangeL | .sset => true
  | _ => false
/-- a primitive that takes its arguments as they are (refs stay refs) -/
def Prim.raw : Prim → Bool
  | .tupd | .lstd | .isN | .notN => true
  | _ => false

/-! ### expressions, statements -/
inductive Mth where
  | append | pop | popAt | insert | reverse | clear
  | join
  deriving DecidableEq
inductive ItK where
  | seq | rng1 | rng2 | zip | enum | chars
  deriving DecidableEq
inductive Tg where
  | nm (i : Nat)
  | tp (ts : List Tg)
inductive Ex where
  | var (i : Nat)
  | cst (w : W)
  | pr (m : Bool) (p : Prim) (args : List Ex)
  | lc (m : Bool) (t : Tg) (k : ItK) (srcs : List Ex) (tests : List Ex) (e : Ex)
  | and_ (a b : Ex) | or_ (a b : Ex) | not_ (a : Ex)
  | ite (c a b : Ex)
  | chn (p q : Prim) (a b c : Ex)
  | call (k : Nat) (args : List Ex)
  | mth (m : Mth) (o : Ex) (args : List Ex)
  | frz (e : Ex)
  | opq
  deriving Inhabited
inductive St where
  | asg (t : Tg) (e : Ex)
  | seti (o i e : Ex)
  | aug (i : Nat) (p : Prim) (e : Ex)
  | exp (e : Ex)
  | ret (e : Ex)
  | iff (c : Ex) (a b : List St)
  | forr (tr : Bool) (t : Tg) (k : ItK) (srcs : List Ex) (kill : List Nat) (body : List St)
  | whl (c : Ex) (kill : List Nat) (body : List St)
  | brk | cnt | pass | opq
  deriving Inhabited
inductive RS where
  | nxt (r : Env) (h : Hp)
  | brk (r : Env) (h : Hp)
  | cnt (r : Env) (h : Hp)
  | ret (w : W) (h : Hp)
  | exc (e : W) (r : Env) (h : Hp)
  | bad

mutual
def bindT : Tg → W → Env → Option Env
  | .nm i, w, r => if i < r.length then some (r.set i (some w)) else none
  | .tp ts, .tup ws, r => bindTs ts ws r
  | .tp _, _, _ => none
def bindTs : List Tg → List W → Env → Option Env
  | [], [], r => some r
  | t :: ts, w :: ws, r => (bindT t w r).bind (bindTs ts ws)
  | _, _, _ => none
end
mutual
def Tg.names : Tg → List Nat
  | .nm i => [i]
  | .tp ts => Tg.namesL ts
def Tg.namesL : List Tg → List Nat
  | [] => []
  | t :: ts => t.names ++ Tg.namesL ts
end
def wipeE (r : Env) : List Nat → Env
  | [] => r
  | i :: is => (wipeE r is).set i none

def truthW (h : Hp) (w : W) : Option Bool := match deref h w with
  | .non => some false
  | .bl b => some b
  | .int i => some (i != 0)
  | .str z => if okLen z.length then some ((z.length : Int) != 0) else none
  | .lst ws => some (!ws.isEmpty)
  | .tup ws => some (!ws.isEmpty)
  | _ => none
/-- a new object -/
def newObj (h : Hp) : W → Option (W × Hp)
  | .lst ws => some (.ref h.length, h ++ [.lst ws])
  | .dic ks vs => some (.ref h.length, h ++ [.dic ks vs])
  | _ => none
noncomputable def runPrim (m : Bool) (p : Prim) (ws : List W) (h : Hp) : R W :=
  match primF p (if p.raw then ws else ws.map (deref h)) with
  | none => .bad
  | some w => if m then (if p.fresh then (match newObj h w with | some (w', h') => .ok w' h' | none => .bad) else .bad) else .ok w h
def zipW : List W → List W → List W
  | a :: as, b :: bs => .tup [a, b] :: zipW as bs
  | _, _ => []
def enumW : Nat → List W → List W
  | _, [] => []
  | n, a :: as => .tup [.int n, a] :: enumW (n + 1) as
def inR (i : Int) : Bool := decide (-(2 ^ 62) ≤ i ∧ i < 2 ^ 62)
/-- what is walked -/
def itemsOf : ItK → List W → Option (List W)
  | .seq, [x] => items x
  | .rng1, [.int n] => if inR n then some ((List.range n.toNat).map fun i => .int (i : Nat)) else none
  | .rng2, [.int a, .int b] => if inR a && inR b then some ((List.range (b - a).toNat).map fun i => .int (a + (i : Nat))) else none
  | .zip, [.lst a, .lst b] => some (zipW a b)
  | .zip, [.tup a, .tup b] => some (zipW a b)
  | .enum, [.lst a] => some (enumW 0 a)
  | .enum, [.tup a] => some (enumW 0 a)
  | .chars, [.str z] => some (z.cps.toList.map fun c => .str ⟨#[c]⟩)
  | _, _ => none
/-- an object that is walked stays as it is -/
def sameAt (h h' : Hp) : List W → Prop
  | [] => True
  | .ref n :: r => h[n]? = h'[n]? ∧ sameAt h h' r
  | _ :: r => sameAt h h' r
def setObj (h : Hp) (n : Nat) (o : Obj) : Hp := h.set n o
/-- what may be stored into the object n, the region beginning at b -/
def mayPut (b n : Nat) (w : W) : Bool := decide (b ≤ n) || below 0 w

noncomputable def runMth (b : Nat) : Mth → W → List W → Hp → R W
  | .append, .ref n, [x], h => match h[n]? with
    | some (.lst ws) => if mayPut b n x && decide (ws.length < sizeLine) then .ok .non (h.set n (.lst (ws ++ [x]))) else .bad
    | _ => .bad
  | .pop, .ref n, [], h => match h[n]? with
    | some (.lst ws) => match ws.getLast? with
      | some x => .ok x (h.set n (.lst ws.dropLast))
      | none => .bad
    | _ => .bad
  | .popAt, .ref n, [.int i], h => match h[n]? with
    | some (.lst ws) => match ixOf ws.length i with
      | some j => match ws[j]? with
        | some x => if -(2 ^ 63) ≤ i ∧ i < 2 ^ 63 then .ok x (h.set n (.lst (ws.eraseIdx j))) else .bad
        | none => .bad
      | none => .bad
    | _ => .bad
  | .insert, .ref n, [.int i, x], h => match h[n]? with
    | some (.lst ws) => if mayPut b n x && decide (ws.length < sizeLine) && decide (0 ≤ i ∧ i ≤ ws.length) then .ok .non (h.set n (.lst (ws.take i.toNat ++ x :: ws.drop i.toNat))) else .bad
    | _ => .bad
  | .reverse, .ref n, [], h => match h[n]? with
    | some (.lst ws) => .ok .non (h.set n (.lst ws.reverse))
    | _ => .bad
  | .clear, .ref n, [], h => match h[n]? with
    | some (.lst _) => .ok .non (h.set n (.lst []))
    | _ => .bad
  | .join, .str z, [x], h => match (items (deref h x)).bind (pJoin z) with
    | some w => .ok w h
    | none => .bad
  | _, _, _, _ => .bad
/-- the receiver is of the method's type -/
def recvOk : Mth → W → Hp → Bool
  | .join, .str _, _ => true
  | .join, _, _ => false
  | _, .ref n, h => match h[n]? with
    | some (.lst _) => true
    | _ => false
  | _, _, _ => false

section
variable (call : Nat → Nat → List W → Hp → R W) (b : Nat)
open Classical in
/-- a comprehension's loop: body gives the item's value, or none where the test fails -/
noncomputable def lcLoop (body : W → Hp → R (Option W)) (keep : Hp → Prop) : List W → List W → Hp → R (List W)
  | [], acc, h => .ok acc h
  | x :: xs, acc, h => match body x h with
    | .ok o h1 => if keep h1 then (match o with
      | some y => if acc.length < sizeLine then lcLoop body keep xs (acc ++ [y]) h1 else .bad
      | none => lcLoop body keep xs acc h1) else .bad
    | _ => .bad
open Classical in
/-- the same, the list an object that may be changed, at n from the beginning -/
noncomputable def lcLoopM (body : W → Hp → R (Option W)) (keep : Hp → Prop) (n : Nat) : List W → List W → Hp → R W
  | [], _, h => .ok (.ref n) h
  | x :: xs, acc, h => match body x h with
    | .ok o h1 => if keep h1 ∧ h1[n]? = some (.lst acc) then (match o with
      | some y => if acc.length < sizeLine then lcLoopM body keep n xs (acc ++ [y]) (h1.set n (.lst (acc ++ [y]))) else .bad
      | none => lcLoopM body keep n xs acc h1) else .bad
    | _ => .bad
mutual
noncomputable def evE (r : Env) : Ex → Hp → R W
  | .var i, h => match r[i]? with
    | some (some w) => .ok w h
    | _ => .bad
  | .cst w, h => .ok w h
  | .pr m p args, h => (evEs r args h).bind fun ws h1 => runPrim m p ws h1
  | .lc m t k srcs tests e, h => (evEs r srcs h).bind fun ws h1 => match itemsOf k (ws.map (deref h1)) with
    | none => .bad
    | some its => if m then lcLoopM (fun x h2 => match bindT t x (wipeE r t.names) with
          | none => .bad
          | some r2 => match tests with
            | [] => (evE r2 e h2).bind fun y h3 => .ok (some y) h3
            | c :: _ => (evE r2 c h2).bind fun cw h3 => match truthW h3 cw with
              | some true => (evE r2 e h3).bind fun y h4 => .ok (some y) h4
              | some false => .ok none h3
              | none => .bad) (fun h2 => sameAt h1 h2 ws) h1.length its [] (h1 ++ [.lst []])
      else (lcLoop (fun x h2 => match bindT t x (wipeE r t.names) with
          | none => .bad
          | some r2 => match tests with
            | [] => (evE r2 e h2).bind fun y h3 => .ok (some y) h3
            | c :: _ => (evE r2 c h2).bind fun cw h3 => match truthW h3 cw with
              | some true => (evE r2 e h3).bind fun y h4 => .ok (some y) h4
              | some false => .ok none h3
              | none => .bad) (fun h2 => sameAt h1 h2 ws) its [] h1).bind fun ys h2 => .ok (.lst ys) h2
  | .and_ a c, h => (evE r a h).bind fun x h1 => match truthW h1 x with
    | some true => evE r c h1
    | some false => .ok x h1
    | none => .bad
  | .or_ a c, h => (evE r a h).bind fun x h1 => match truthW h1 x with
    | some true => .ok x h1
    | some false => evE r c h1
    | none => .bad
  | .not_ a, h => (evE r a h).bind fun x h1 => match truthW h1 x with
    | some k => .ok (.bl (!k)) h1
    | none => .bad
  | .ite c x y, h => (evE r c h).bind fun cw h1 => match truthW h1 cw with
    | some true => evE r x h1
    | some false => evE r y h1
    | none => .bad
  | .chn p q x y z, h => (evE r x h).bind fun xw h1 => (evE r y h1).bind fun yw h2 => (runPrim false p [xw, yw] h2).bind fun c h3 => match c with
    | .bl true => (evE r z h3).bind fun zw h4 => runPrim false q [yw, zw] h4
    | .bl false => .ok (.bl false) h3
    | _ => .bad
  | .call k args, h => (evEs r args h).bind fun ws h1 => call b k ws h1
  | .mth m o args, h => (evE r o h).bind fun ow h1 => if recvOk m ow h1 = true then (evEs r args h1).bind fun ws h2 => runMth b m ow ws h2 else .bad
  | .frz e, h => (evE r e h).bind fun w h1 => match w with
    | .ref n => match h1[n]? with
      | some (.lst ws) => .ok (.lst ws) (h1.set n .dead)
      | some (.dic ks vs) => .ok (.dic ks vs) (h1.set n .dead)
      | _ => .bad
    | _ => .bad
  | .opq, _ => .bad
noncomputable def evEs (r : Env) : List Ex → Hp → R (List W)
  | [], h => .ok [] h
  | e :: es, h => (evE r e h).bind fun w h1 => (evEs r es h1).bind fun ws h2 => .ok (w :: ws) h2
end
end

/-- x op= y, values that do not change -/
def augP : Prim → W → W → Option W
  | .add, .int a, .int c => some (.int (a + c))
  | .sub, .int a, .int c => some (.int (a - c))
  | _, _, _ => none
/-! ### statements -/
def ofR (x : R W) (r : Env) (f : W → Hp → RS) : RS := match x with
  | .ok w h => f w h
  | .exc e h => .exc e r h
  | .bad => .bad
@[simp] theorem ofR_ok (w : W) (h : Hp) (r : Env) (f : W → Hp → RS) : ofR (.ok w h) r f = f w h := rfl
@[simp] theorem ofR_bad (r : Env) (f : W → Hp → RS) : ofR .bad r f = .bad := rfl
@[simp] theorem ofR_exc (e : W) (h : Hp) (r : Env) (f : W → Hp → RS) : ofR (.exc e h) r f = .exc e r h := rfl
def ofRs (x : R (List W)) (r : Env) (f : List W → Hp → RS) : RS := match x with
  | .ok w h => f w h
  | .exc e h => .exc e r h
  | .bad => .bad
@[simp] theorem ofRs_ok (w : List W) (h : Hp) (r : Env) (f : List W → Hp → RS) : ofRs (.ok w h) r f = f w h := rfl
def RS.andThen (x : RS) (f : Env → Hp → RS) : RS := match x with
  | .nxt r h => f r h
  | y => y
@[simp] theorem RS.andThen_nxt (r : Env) (h : Hp) (f : Env → Hp → RS) : (RS.nxt r h).andThen f = f r h := rfl
@[simp] theorem RS.andThen_ret (w : W) (h : Hp) (f : Env → Hp → RS) : (RS.ret w h).andThen f = .ret w h := rfl
open Classical in
noncomputable def forLoop (body : W → Env → Hp → RS) (kill : List Nat) (keep : Hp → Prop) : List W → Env → Hp → RS
  | [], r, h => .nxt (wipeE r kill) h
  | x :: xs, r, h => match body x (wipeE r kill) h with
    | .nxt r1 h1 => if keep h1 then forLoop body kill keep xs r1 h1 else .bad
    | .cnt r1 h1 => if keep h1 then forLoop body kill keep xs r1 h1 else .bad
    | .brk r1 h1 => .nxt (wipeE r1 kill) h1
    | y => y
noncomputable def whileLoop (test : Env → Hp → R W) (body : Env → Hp → RS) (kill : List Nat) : Nat → Env → Hp → RS
  | 0, _, _ => .bad
  | n + 1, r, h => ofR (test (wipeE r kill) h) (wipeE r kill) fun c h1 => match truthW h1 c with
    | some false => .nxt (wipeE r kill) h1
    | some true => match body (wipeE r kill) h1 with
      | .nxt r2 h2 => whileLoop test body kill n r2 h2
      | .cnt r2 h2 => whileLoop test body kill n r2 h2
      | .brk r2 h2 => .nxt (wipeE r2 kill) h2
      | y => y
    | none => .bad
/-- the end of a region that began at b -/
def endEnv (b : Nat) (r : Env) : Env := r.map fun o => match o with
  | some w => if below b w then some w else none
  | none => none
section
variable (call : Nat → Nat → List W → Hp → R W) (N : Nat)
mutual
noncomputable def evS (b : Nat) : St → Env → Hp → RS
  | .asg t e, r, h => ofR (evE call b r e h) r fun w h1 => match bindT t w r with
    | some r1 => .nxt r1 h1
    | none => .bad
  | .seti o i e, r, h => ofR (evE call b r e h) r fun w h1 => ofR (evE call b r o h1) r fun ow h2 => ofR (evE call b r i h2) r fun iw h3 => match ow, iw with
    | .ref n, .int k => match h3[n]? with
      | some (.lst ws) => match ixOf ws.length k with
        | some j => if mayPut b n w then .nxt r (h3.set n (.lst (ws.set j w))) else .bad
        | none => .bad
      | _ => .bad
    | _, _ => .bad
  | .aug i p e, r, h => match r[i]? with
    | some (some x) => ofR (evE call b r e h) r fun y h1 => match augP p x y with
      | some z => .nxt (r.set i (some z)) h1
      | none => .bad
    | _ => .bad
  | .exp e, r, h => ofR (evE call b r e h) r fun _ h1 => .nxt r h1
  | .ret e, r, h => ofR (evE call b r e h) r fun w h1 => .ret w h1
  | .iff c x y, r, h => ofR (evE call b r c h) r fun cw h1 => match truthW h1 cw with
    | some true => evB b x r h1
    | some false => evB b y r h1
    | none => .bad
  | .forr tr t k srcs kill body, r, h => ofRs (evEs call b r srcs h) r fun ws h1 => match itemsOf k (ws.map (deref h1)) with
    | none => .bad
    | some its => forLoop (fun x r2 h2 => match bindT t x r2 with
        | none => .bad
        | some r3 => if tr then (match evB h2.length body r3 h2 with
            | .nxt r4 h4 => .nxt (endEnv h2.length r4) (h4.take h2.length)
            | .cnt r4 h4 => .cnt (endEnv h2.length r4) (h4.take h2.length)
            | .brk r4 h4 => .brk (endEnv h2.length r4) (h4.take h2.length)
            | _ => .bad) else evB b body r3 h2) kill (fun h2 => sameAt h1 h2 ws) its r h1
  | .whl c kill body, r, h => whileLoop (fun r2 h2 => evE call b r2 c h2) (fun r2 h2 => evB b body r2 h2) kill N r h
  | .brk, r, h => .brk r h
  | .cnt, r, h => .cnt r h
  | .pass, r, h => .nxt r h
  | .opq, _, _ => .bad
noncomputable def evB (b : Nat) : List St → Env → Hp → RS
  | [], r, h => .nxt r h
  | s :: ss, r, h => (evS b s r h).andThen fun r1 h1 => evB b ss r1 h1
end
end

/-! ### defs -/
structure Def where
  name : Str
  np : Nat
  names : List Str
  keep : Bool
  body : List St
/-- a call's end: what the def has made is gone -/
def endCall (keep : Bool) (b : Nat) (w : W) (h : Hp) : R W :=
  if keep then .ok w h
  else if below b w then .ok w (h.take b)
  else match w with
    | .ref n => match h[n]? with
      | some (.lst us) => if belowL b us then .ok (.ref b) (h.take b ++ [.lst us]) else .bad
      | _ => .bad
    | _ => .bad
/-- the defs T, N the turns of a while, d the depth of calls -/
noncomputable def evC (T : List Def) (N : Nat) : Nat → Nat → Nat → List W → Hp → R W
  | 0, _, _, _, _ => .bad
  | d + 1, b, k, ws, h => match T[k]? with
    | none => .bad
    | some df => if ws.length = df.np then
        let b' := if df.keep then b else h.length
        match evB (evC T N d) N b' df.body (ws.map some ++ List.replicate (df.names.length - df.np) none) h with
        | .ret w h' => endCall df.keep b' w h'
        | .nxt _ h' => endCall df.keep b' .non h'
        | .exc e _ h' => .exc e (if df.keep then h' else h'.take b')
        | _ => .bad
      else .bad
end Ow

/-! Ow2: how the evaluator's values and heap lie in the layer's heap. -/
namespace Ow
open PySem PySem.Spec PyProof.Rows
open L2 (V SqL SqT Rd HO upd upd_same upd_ne)

/-- the written part, and whose run it is -/
structure KX where
  K : PySem.W.Frag
  P : Program
  w : World
instance : Coe KX PySem.W.Frag := ⟨KX.K⟩
@[reducible] def kx (X : L2.Cx) : KX := ⟨X.K, X.prog, X.w⟩
/-- where the objects stand; and lists that a comprehension is just making -/
structure Gh where
  at_ : Nat → Addr
  g : List Addr
/-- no object that may be changed stands at a -/
def Fz (bt : Gh) (h : Hp) (a : Addr) : Prop := (∀ i o, h[i]? = some o → o ≠ .dead → bt.at_ i ≠ a) ∧ a ∉ bt.g
/-- a list of the module's own -/
def KLst (K : KX) (a : Addr) (xs : List V) : Prop :=
  ∃ (o : PySem.Obj) (its : Array Value) (n : Nat), K.K.lookup a = some o ∧ o.cls = .type "list" ∧ o.dict = none ∧ o.data = .seq its n ∧ its.size ≤ sizeLine ∧ L2.Vals xs its.toList
/-- a list that is not changed any more -/
def FL (K : KX) (H : L2.Hp) (bt : Gh) (h : Hp) (a : Addr) (xs : List V) : Prop :=
  (Rd H a (.lst xs) ∧ Fz bt h a) ∨ KLst K a xs
theorem FL.sq {K : KX} {H : L2.Hp} {bt : Gh} {h : Hp} {a : Addr} {xs : List V} (f : FL K H bt h a xs) : SqL K H a xs := by
  rcases f with ⟨r, _⟩ | f
  · exact .inl r
  · exact .inr f
section
variable (K : KX) (H : L2.Hp) (bt : Gh) (h : Hp)
mutual
def Rep : W → V → Prop
  | .non, v => v = .non
  | .bl b, v => v = .bl b
  | .int i, v => v = .int i
  | .str s, v => v = .str s
  | .tup ws, v => ∃ a vs, v = .ref a ∧ SqT K H a vs ∧ RepL ws vs
  | .lst ws, v => ∃ a vs, v = .ref a ∧ (H a = some (.lst vs) ∧ Fz bt h a) ∧ RepL ws vs
  | .slst ws, v => ∃ a vs, v = .ref a ∧ FL K H bt h a vs ∧ RepL ws vs
  | .ref n, v => n < h.length ∧ v = .ref (bt.at_ n)
  | .ty n, v => v = .ty n
  | .set rs, v => ∃ (a : Addr) (L : List (Addr × List Int)), v = .ref a ∧ H a = some (L2.SetTO K.P K.w a L) ∧ (∀ p ∈ L, SqT K H p.1 (p.2.map V.int)) ∧ ∀ r, r ∈ rs ↔ r ∈ L.map (·.2)
  | _, _ => False
def RepL : List W → List V → Prop
  | [], vs => vs = []
  | w :: ws, vs => ∃ v r, vs = v :: r ∧ Rep w v ∧ RepL ws r
end
def ORep : Obj → Addr → Prop
  | .dead, _ => True
  | .lst ws, a => ∃ vs, H a = some (.lst vs) ∧ RepL K H bt h ws vs
  | _, _ => False
structure HeapOk : Prop where
  objs : ∀ i o, h[i]? = some o → ORep K H bt h o (bt.at_ i)
  inj : ∀ i j oi oj, h[i]? = some oi → h[j]? = some oj → oi ≠ .dead → oj ≠ .dead → bt.at_ i = bt.at_ j → i = j
  gl : ∀ d, d ∈ bt.g → ∃ vs, H d = some (.lst vs)
  gd : ∀ i o, h[i]? = some o → o ≠ .dead → bt.at_ i ∉ bt.g
end
/-- from one state to a later one -/
structure Ext (H : L2.Hp) (bt : Gh) (h : Hp) (H' : L2.Hp) (bt' : Gh) (h' : Hp) : Prop where
  frame : ∀ a o, H a = some o → Fz bt h a → H' a = some o
  dom : ∀ a, H a ≠ none → H' a ≠ none
  agree : ∀ i, i < h.length → bt'.at_ i = bt.at_ i
  ghost : ∀ d, d ∈ bt'.g → d ∈ bt.g ∨ H d = none
  len : h.length ≤ h'.length
  live : ∀ i o, i < h.length → h'[i]? = some o → o ≠ .dead → ∃ o', h[i]? = some o' ∧ o' ≠ .dead
  fresh : ∀ i o, h.length ≤ i → h'[i]? = some o → o ≠ .dead → H (bt'.at_ i) = none

theorem Ext.refl {H : L2.Hp} {bt : Gh} {h : Hp} : Ext H bt h H bt h :=
  ⟨fun _ _ e _ => e, fun _ e => e, fun _ _ => rfl, fun _ z => .inl z, Nat.le_refl _, fun i o _ e n => ⟨o, e, n⟩, fun i o hi e _ => by
    rw [List.getElem?_eq_none hi] at e; cases e⟩
theorem Ext.fz {H H' : L2.Hp} {bt bt' : Gh} {h h' : Hp} (x : Ext H bt h H' bt' h') {a : Addr} (ha : H a ≠ none) (f : Fz bt h a) : Fz bt' h' a := ⟨fun i o e n => by
  by_cases hi : i < h.length
  · obtain ⟨o', e', n'⟩ := x.live i o hi e n
    rw [x.agree i hi]
    exact f.1 i o' e' n'
  · intro z
    have := x.fresh i o (Nat.le_of_not_lt hi) e n
    rw [z] at this
    exact ha this, fun z => (x.ghost a z).elim f.2 ha⟩
theorem Ext.trans {H H1 H2 : L2.Hp} {b b1 b2 : Gh} {h h1 h2 : Hp} (x : Ext H b h H1 b1 h1) (y : Ext H1 b1 h1 H2 b2 h2) : Ext H b h H2 b2 h2 where
  frame := fun a o e f => y.frame a o (x.frame a o e f) (x.fz (by rw [e]; simp) f)
  dom := fun a e => y.dom a (x.dom a e)
  agree := fun i hi => (y.agree i (Nat.lt_of_lt_of_le hi x.len)).trans (x.agree i hi)
  ghost := fun d z => by
    rcases y.ghost d z with z | z
    · exact x.ghost d z
    · cases q : H d with
      | none => exact .inr rfl
      | some u => exact absurd z (x.dom d (by rw [q]; simp))
  len := Nat.le_trans x.len y.len
  live := fun i o hi e n => by
    obtain ⟨o1, e1, n1⟩ := y.live i o (Nat.lt_of_lt_of_le hi x.len) e n
    exact x.live i o1 hi e1 n1
  fresh := fun i o hi e n => by
    by_cases h1i : i < h1.length
    · obtain ⟨o1, e1, n1⟩ := y.live i o h1i e n
      rw [y.agree i h1i]
      exact x.fresh i o1 hi e1 n1
    · have := y.fresh i o (Nat.le_of_not_lt h1i) e n
      cases q : H (b2.at_ i) with
      | none => rfl
      | some u => exact absurd this (x.dom _ (by rw [q]; simp))

section
variable {K : KX} {H H' : L2.Hp} {bt bt' : Gh} {h h' : Hp}
/-- nothing that may be changed is a tuple, or locked -/
theorem HeapOk.fzT (o : HeapOk K H bt h) {a : Addr} {u : HO} (e : H a = some u) (nl : ∀ xs, u ≠ .lst xs) : Fz bt h a := ⟨fun i ob ei ni z => by
  have r := o.objs i ob ei
  cases ob with
  | dead => exact ni rfl
  | lst ws =>
    obtain ⟨vs, hv, _⟩ := r
    rw [z, e] at hv
    cases hv
    exact nl _ rfl
  | dic ks vs => exact r.elim
  | ins k fs => exact r.elim, fun z => by
  obtain ⟨vs, q⟩ := o.gl a z
  rw [e] at q
  cases q
  exact nl _ rfl⟩
theorem SqT.ext (ok : HeapOk K H bt h) (x : Ext H bt h H' bt' h') {a : Addr} {vs : List V} (q : SqT K H a vs) : SqT K H' a vs := by
  rcases q with (q | ⟨o, q⟩) | q
  · exact .inl (.inl (x.frame _ _ q (ok.fzT q fun _ z => by cases z)))
  · exact .inl (.inr ⟨o, x.frame _ _ q (ok.fzT q fun _ z => by cases z)⟩)
  · exact .inr q
theorem FL.ext (x : Ext H bt h H' bt' h') {a : Addr} {vs : List V} (q : FL K H bt h a vs) : FL K H' bt' h' a vs := by
  rcases q with ⟨q | ⟨o, q⟩, f⟩ | q
  · exact .inl ⟨.inl (x.frame _ _ q f), x.fz (by rw [q]; simp) f⟩
  · exact .inl ⟨.inr ⟨o, x.frame _ _ q f⟩, x.fz (by rw [q]; simp) f⟩
  · exact .inr q
mutual
theorem Rep.ext (ok : HeapOk K H bt h) (x : Ext H bt h H' bt' h') : ∀ (w : W) (v : V), Rep K H bt h w v → Rep K H' bt' h' w v
  | .non, _, r => r
  | .bl _, _, r => r
  | .int _, _, r => r
  | .str _, _, r => r
  | .tup ws, v, r => by
    obtain ⟨a, vs, e, q, l⟩ := r
    exact ⟨a, vs, e, SqT.ext ok x q, RepL.ext ok x ws vs l⟩
  | .lst ws, v, r => by
    obtain ⟨a, vs, e, ⟨q, f⟩, l⟩ := r
    exact ⟨a, vs, e, ⟨x.frame _ _ q f, x.fz (by rw [q]; simp) f⟩, RepL.ext ok x ws vs l⟩
  | .slst ws, v, r => by
    obtain ⟨a, vs, e, q, l⟩ := r
    exact ⟨a, vs, e, q.ext x, RepL.ext ok x ws vs l⟩
  | .ref n, v, r => by
    obtain ⟨hn, e⟩ := r
    exact ⟨Nat.lt_of_lt_of_le hn x.len, by rw [x.agree n hn]; exact e⟩
  | .ty _, _, r => r
  | .set _, _, r => by
    obtain ⟨a, L, e, q, l, m⟩ := r
    exact ⟨a, L, e, x.frame _ _ q (ok.fzT q fun _ z => by cases z), fun p hp => SqT.ext ok x (l p hp), m⟩
  | .dic _ _, _, r => r.elim
  | .cls _, _, r => r.elim
  | .exc _ _, _, r => r.elim
theorem RepL.ext (ok : HeapOk K H bt h) (x : Ext H bt h H' bt' h') : ∀ (ws : List W) (vs : List V), RepL K H bt h ws vs → RepL K H' bt' h' ws vs
  | [], _, r => r
  | w :: ws, vs, r => by
    obtain ⟨v, t, e, r1, r2⟩ := r
    exact ⟨v, t, e, Rep.ext ok x w v r1, RepL.ext ok x ws t r2⟩
end
theorem RepL.length : ∀ {ws : List W} {vs : List V}, RepL K H bt h ws vs → ws.length = vs.length
  | [], _, r => by cases (show _ = [] from r); rfl
  | w :: ws, vs, r => by
    obtain ⟨v, t, rfl, _, r2⟩ := r
    rw [List.length_cons, List.length_cons, RepL.length r2]
theorem RepL.get : ∀ {ws : List W} {vs : List V} {i : Nat} {w : W}, RepL K H bt h ws vs → ws[i]? = some w → ∃ v, vs[i]? = some v ∧ Rep K H bt h w v
  | [], _, i, _, r, e => by simp at e
  | w :: ws, vs, 0, w', r, e => by
    obtain ⟨v, t, rfl, r1, r2⟩ := r
    have e' : w = w' := by simpa using e
    subst e'
    exact ⟨v, rfl, r1⟩
  | w :: ws, vs, i + 1, w', r, e => by
    obtain ⟨v, t, rfl, r1, r2⟩ := r
    obtain ⟨v', e', r'⟩ := RepL.get (i := i) r2 (by simpa using e)
    exact ⟨v', by simpa using e', r'⟩
theorem RepL.of_get : ∀ {ws : List W} {vs : List V}, ws.length = vs.length → (∀ (i : Nat) w v, ws[i]? = some w → vs[i]? = some v → Rep K H bt h w v) → RepL K H bt h ws vs
  | [], [], _, _ => rfl
  | [], _ :: _, e, _ => by simp at e
  | _ :: _, [], e, _ => by simp at e
  | w :: ws, v :: vs, e, g => ⟨v, vs, rfl, g 0 w v rfl rfl, RepL.of_get (by simpa using e) fun i w' v' a b => g (i + 1) w' v' (by simpa using a) (by simpa using b)⟩
theorem RepL.append : ∀ {ws ws' : List W} {vs vs' : List V}, RepL K H bt h ws vs → RepL K H bt h ws' vs' → RepL K H bt h (ws ++ ws') (vs ++ vs')
  | [], _, _, _, r, r' => by cases (show _ = [] from r); exact r'
  | w :: ws, _, _, _, r, r' => by
    obtain ⟨v, t, rfl, r1, r2⟩ := r
    exact ⟨v, _, rfl, r1, RepL.append r2 r'⟩
theorem RepL.one {w : W} {v : V} (r : Rep K H bt h w v) : RepL K H bt h [w] [v] := ⟨v, [], rfl, r, rfl⟩
theorem RepL.take : ∀ {ws : List W} {vs : List V} (n : Nat), RepL K H bt h ws vs → RepL K H bt h (ws.take n) (vs.take n)
  | [], _, n, r => by cases (show _ = [] from r); simp; rfl
  | w :: ws, _, 0, r => rfl
  | w :: ws, _, n + 1, r => by
    obtain ⟨v, t, rfl, r1, r2⟩ := r
    exact ⟨v, _, rfl, r1, RepL.take n r2⟩
theorem RepL.drop : ∀ {ws : List W} {vs : List V} (n : Nat), RepL K H bt h ws vs → RepL K H bt h (ws.drop n) (vs.drop n)
  | [], _, n, r => by cases (show _ = [] from r); simp; rfl
  | w :: ws, _, 0, r => r
  | w :: ws, _, n + 1, r => by
    obtain ⟨v, t, rfl, r1, r2⟩ := r
    exact RepL.drop n r2
theorem RepL.reverse : ∀ {ws : List W} {vs : List V}, RepL K H bt h ws vs → RepL K H bt h ws.reverse vs.reverse
  | [], _, r => by cases (show _ = [] from r); exact rfl
  | w :: ws, _, r => by
    obtain ⟨v, t, rfl, r1, r2⟩ := r
    rw [List.reverse_cons, List.reverse_cons]
    exact RepL.append (RepL.reverse r2) (.one r1)
theorem RepL.eraseIdx : ∀ {ws : List W} {vs : List V} (n : Nat), RepL K H bt h ws vs → RepL K H bt h (ws.eraseIdx n) (vs.eraseIdx n)
  | [], _, n, r => by cases (show _ = [] from r); exact rfl
  | w :: ws, _, 0, r => by
    obtain ⟨v, t, rfl, r1, r2⟩ := r
    exact r2
  | w :: ws, _, n + 1, r => by
    obtain ⟨v, t, rfl, r1, r2⟩ := r
    exact ⟨v, _, rfl, r1, RepL.eraseIdx n r2⟩
theorem RepL.set : ∀ {ws : List W} {vs : List V} (n : Nat) {w : W} {v : V}, RepL K H bt h ws vs → Rep K H bt h w v → RepL K H bt h (ws.set n w) (vs.set n v)
  | [], _, n, _, _, r, _ => by cases (show _ = [] from r); exact rfl
  | _ :: ws, _, 0, _, _, r, q => by
    obtain ⟨v, t, rfl, r1, r2⟩ := r
    exact ⟨_, _, rfl, q, r2⟩
  | _ :: ws, _, n + 1, _, _, r, q => by
    obtain ⟨v, t, rfl, r1, r2⟩ := r
    exact ⟨v, _, rfl, r1, RepL.set n r2 q⟩
theorem ORep.ext (ok : HeapOk K H bt h) (x : Ext H bt h H' bt' h') {o : Obj} {a : Addr} (keep : ∀ vs, H a = some (.lst vs) → H' a = some (.lst vs)) (r : ORep K H bt h o a) : ORep K H' bt' h' o a := by
  cases o with
  | dead => trivial
  | lst ws =>
    obtain ⟨vs, e, l⟩ := r
    exact ⟨vs, keep vs e, RepL.ext ok x ws vs l⟩
  | dic ks vs => exact r.elim
  | ins k fs => exact r.elim

/-! ### below -/
mutual
theorem Rep.below : ∀ (w : W) (v : V), Rep K H bt h w v → below h.length w = true
  | .non, _, _ => by simp [Ow.below]
  | .bl _, _, _ => by simp [Ow.below]
  | .int _, _, _ => by simp [Ow.below]
  | .str _, _, _ => by simp [Ow.below]
  | .tup ws, v, r => by
    obtain ⟨a, vs, e, q, l⟩ := r
    simp only [Ow.below]
    exact RepL.below ws vs l
  | .lst ws, v, r => by
    obtain ⟨a, vs, e, q, l⟩ := r
    simp only [Ow.below]
    exact RepL.below ws vs l
  | .slst ws, v, r => by
    obtain ⟨a, vs, e, q, l⟩ := r
    simp only [Ow.below]
    exact RepL.below ws vs l
  | .ref n, v, r => by
    simp only [Ow.below]
    exact decide_eq_true r.1
  | .ty _, _, _ => by simp [Ow.below]
  | .set _, _, _ => by simp [Ow.below]
  | .dic _ _, _, r => r.elim
  | .cls _, _, r => r.elim
  | .exc _ _, _, r => r.elim
theorem RepL.below : ∀ (ws : List W) (vs : List V), RepL K H bt h ws vs → belowL h.length ws = true
  | [], _, _ => by simp [belowL]
  | w :: ws, vs, r => by
    obtain ⟨v, t, e, r1, r2⟩ := r
    simp only [belowL, Rep.below w v r1, RepL.below ws t r2, Bool.and_self]
end
theorem get_take {h : Hp} {b i : Nat} {o : Obj} (e : (h.take b)[i]? = some o) : i < b ∧ h[i]? = some o := by
  by_cases hi : i < b
  · rw [List.getElem?_take_of_lt hi] at e
    exact ⟨hi, e⟩
  · rw [List.getElem?_eq_none (by rw [List.length_take]; omega)] at e
    cases e
theorem Fz.cut {b : Nat} {a : Addr} (f : Fz bt h a) : Fz bt (h.take b) a := ⟨fun i o e n => f.1 i o (get_take e).2 n, f.2⟩
mutual
theorem Rep.cut {b : Nat} (hb : b ≤ h.length) : ∀ (w : W) (v : V), Rep K H bt h w v → Ow.below b w = true → Rep K H bt (h.take b) w v
  | .non, _, r, _ => r
  | .bl _, _, r, _ => r
  | .int _, _, r, _ => r
  | .str _, _, r, _ => r
  | .tup ws, v, r, z => by
    obtain ⟨a, vs, e, q, l⟩ := r
    simp only [Ow.below] at z
    exact ⟨a, vs, e, q, RepL.cut hb ws vs l z⟩
  | .lst ws, v, r, z => by
    obtain ⟨a, vs, e, ⟨q, f⟩, l⟩ := r
    simp only [Ow.below] at z
    exact ⟨a, vs, e, ⟨q, f.cut⟩, RepL.cut hb ws vs l z⟩
  | .slst ws, v, r, z => by
    obtain ⟨a, vs, e, q, l⟩ := r
    simp only [Ow.below] at z
    refine ⟨a, vs, e, ?_, RepL.cut hb ws vs l z⟩
    rcases q with ⟨q, f⟩ | q
    · exact .inl ⟨q, f.cut⟩
    · exact .inr q
  | .ref n, v, r, z => by
    simp only [Ow.below, decide_eq_true_eq] at z
    exact ⟨by rw [List.length_take]; omega, r.2⟩
  | .ty _, _, r, _ => r
  | .set _, _, r, _ => r
  | .dic _ _, _, r, _ => r.elim
  | .cls _, _, r, _ => r.elim
  | .exc _ _, _, r, _ => r.elim
theorem RepL.cut {b : Nat} (hb : b ≤ h.length) : ∀ (ws : List W) (vs : List V), RepL K H bt h ws vs → belowL b ws = true → RepL K H bt (h.take b) ws vs
  | [], _, r, _ => r
  | w :: ws, vs, r, z => by
    obtain ⟨v, t, e, r1, r2⟩ := r
    simp only [belowL, Bool.and_eq_true] at z
    exact ⟨v, t, e, Rep.cut hb w v r1 z.1, RepL.cut hb ws t r2 z.2⟩
end
end

/-! ### regions -/
def Cl (c : Nat) (h : Hp) : Prop := c ≤ h.length ∧ ∀ i o, i < c → h[i]? = some o → o.below c = true
/-- what lies below the bases that are at most b stays below -/
def Pres (b : Nat) (h h' : Hp) : Prop := ∀ c, c ≤ b → Cl c h → Cl c h'
theorem Pres.refl {b : Nat} {h : Hp} : Pres b h h := fun _ _ x => x
theorem Pres.trans {b : Nat} {h h1 h2 : Hp} (x : Pres b h h1) (y : Pres b h1 h2) : Pres b h h2 := fun c hc z => y c hc (x c hc z)
theorem Pres.mono {b b' : Nat} {h h1 : Hp} (hb : b ≤ b') (x : Pres b' h h1) : Pres b h h1 := fun c hc z => x c (Nat.le_trans hc hb) z
section
variable {K : KX} {H H' : L2.Hp} {bt bt' : Gh} {h h' : Hp}
theorem ORep.below' {o : Obj} {a : Addr} (r : ORep K H bt h o a) : o.below h.length = true := by
  cases o with
  | dead => rfl
  | lst ws => obtain ⟨vs, _, l⟩ := r; exact RepL.below ws vs l
  | dic ks vs => exact r.elim
  | ins k fs => exact r.elim
theorem HeapOk.cl (ok : HeapOk K H bt h) : Cl h.length h := ⟨Nat.le_refl _, fun i o _ e => (ok.objs i o e).below'⟩
theorem HeapOk.cut (ok : HeapOk K H bt h) {b : Nat} (c : Cl b h) : HeapOk K H bt (h.take b) where
  objs := fun i o e => by
    obtain ⟨hi, e⟩ := get_take e
    have z := c.2 i o hi e
    have r := ok.objs i o e
    cases o with
    | dead => trivial
    | lst ws => obtain ⟨vs, q, l⟩ := r; exact ⟨vs, q, RepL.cut c.1 ws vs l z⟩
    | dic ks vs => exact r.elim
    | ins k fs => exact r.elim
  inj := fun i j oi oj ei ej ni nj z => ok.inj i j oi oj (get_take ei).2 (get_take ej).2 ni nj z
  gl := ok.gl
  gd := fun i o e n => ok.gd i o (get_take e).2 n
/-- back to the region's beginning -/
theorem Ext.cut (x : Ext H bt h H' bt' h') : Ext H bt h H' bt' (h'.take h.length) where
  frame := x.frame
  dom := x.dom
  agree := x.agree
  ghost := x.ghost
  len := by rw [List.length_take]; have := x.len; omega
  live := fun i o hi e n => x.live i o hi (get_take e).2 n
  fresh := fun i o hi e n => absurd (get_take e).1 (by omega)
theorem Pres.cut {b : Nat} {h0 : Hp} (hb : b ≤ h0.length) (hl : h0.length ≤ h.length) (p : Pres b h0 h) : Pres b h0 (h.take h0.length) := fun c hc z => by
  obtain ⟨z1, z2⟩ := p c hc z
  exact ⟨by rw [List.length_take]; omega, fun i o hi e => z2 i o hi (get_take e).2⟩

/-! ### the heap's changes -/
/-- objects that are new and not changed any more -/
theorem HeapOk.same (ok : HeapOk K H bt h) (s : L2.Same H H') : HeapOk K H' bt h ∧ Ext H bt h H' bt h := by
  have x : Ext H bt h H' bt h := ⟨fun a o e _ => s a o e, fun a e => by
    cases q : H a with
    | none => exact absurd q e
    | some u => rw [s a u q]; simp, fun _ _ => rfl, fun _ z => .inl z, Nat.le_refl _, fun i o _ e n => ⟨o, e, n⟩, fun i o hi e _ => by
      rw [List.getElem?_eq_none hi] at e; cases e⟩
  exact ⟨⟨fun i o e => (ok.objs i o e).ext ok x fun vs q => s _ _ q, ok.inj, fun d hd => let ⟨vs, q⟩ := ok.gl d hd; ⟨vs, s _ _ q⟩, ok.gd⟩, x⟩
theorem Same.upd {H : L2.Hp} {p : Addr} {u : HO} (n : H p = none) : L2.Same H (upd H p u) := fun b o e => by
  rw [upd_ne (L2.ne_of_none e n)]
  exact e
def Gh.add (bt : Gh) (n : Nat) (p : Addr) : Gh := ⟨fun i => if i = n then p else bt.at_ i, bt.g⟩
theorem Gh.add_self {bt : Gh} {n : Nat} {p : Addr} : (bt.add n p).at_ n = p := if_pos rfl
theorem Gh.add_ne {bt : Gh} {n i : Nat} {p : Addr} (hn : i ≠ n) : (bt.add n p).at_ i = bt.at_ i := if_neg hn
theorem HeapOk.at_some (ok : HeapOk K H bt h) {i : Nat} {o : Obj} (e : h[i]? = some o) (n : o ≠ .dead) : H (bt.at_ i) ≠ none := by
  have r := ok.objs i o e
  cases o with
  | dead => exact absurd rfl n
  | lst ws => obtain ⟨vs, q, _⟩ := r; rw [q]; simp
  | dic ks vs => exact r.elim
  | ins k fs => exact r.elim
theorem get_app {h : Hp} {o u : Obj} {i : Nat} (e : (h ++ [o])[i]? = some u) : (i < h.length ∧ h[i]? = some u) ∨ (i = h.length ∧ u = o) := by
  by_cases hi : i < h.length
  · rw [List.getElem?_append_left hi] at e
    exact .inl ⟨hi, e⟩
  · have hi' : i = h.length := by
      have := (List.getElem?_eq_some_iff.mp e).1
      simp at this
      omega
    subst hi'
    rw [List.getElem?_append_right (Nat.le_refl _), Nat.sub_self] at e
    exact .inr ⟨rfl, by simpa using e.symm⟩
/-- a new list that may be changed: its items stood ahead of it -/
theorem HeapOk.new (ok : HeapOk K H bt h) {p : Addr} {ws : List W} {vs : List V} (s : L2.Same H H') (n : H p = none) (e : H' p = some (.lst vs)) (r : RepL K H bt h ws vs) :
    HeapOk K H' (bt.add h.length p) (h ++ [.lst ws]) ∧ Ext H bt h H' (bt.add h.length p) (h ++ [.lst ws]) := by
  obtain ⟨ok1, x1⟩ := ok.same s
  have x : Ext H bt h H' (bt.add h.length p) (h ++ [.lst ws]) := by
    refine ⟨x1.frame, x1.dom, fun i hi => if_neg (by omega), fun _ z => .inl z, by simp, fun i o hi e' n' => ?_, fun i o hi e' n' => ?_⟩
    · rcases get_app e' with ⟨_, e2⟩ | ⟨e2, _⟩
      · exact ⟨o, e2, n'⟩
      · omega
    · rcases get_app e' with ⟨e2, _⟩ | ⟨e2, _⟩
      · omega
      · rw [e2, Gh.add_self]; exact n
  refine ⟨⟨fun i o ei => ?_, fun i j oi oj ei ej ni nj z => ?_, ok1.gl, fun i o ei ni z => ?_⟩, x⟩
  · rcases get_app ei with ⟨hi, e2⟩ | ⟨rfl, rfl⟩
    · rw [Gh.add_ne (by omega)]
      exact (ok.objs i o e2).ext ok x fun vs q => s _ _ q
    · rw [Gh.add_self]
      exact ⟨vs, e, r.ext ok x _ _⟩
  · rcases get_app ei with ⟨hi, ei⟩ | ⟨rfl, rfl⟩ <;> rcases get_app ej with ⟨hj, ej⟩ | ⟨rfl, rfl⟩
    · rw [Gh.add_ne (by omega), Gh.add_ne (by omega)] at z
      exact ok.inj i j oi oj ei ej ni nj z
    · rw [Gh.add_ne (by omega), Gh.add_self] at z
      exact absurd (z ▸ n) (ok.at_some ei ni)
    · rw [Gh.add_self, Gh.add_ne (by omega)] at z
      exact absurd (z ▸ n) (ok.at_some ej nj)
    · rfl
  · rcases get_app ei with ⟨hi, ei⟩ | ⟨rfl, rfl⟩
    · rw [Gh.add_ne (by omega)] at z
      exact ok.gd i o ei ni z
    · rw [Gh.add_self] at z
      obtain ⟨vs', q⟩ := ok.gl p z
      rw [n] at q; cases q
theorem Pres.new {b : Nat} (hb : b ≤ h.length) {o : Obj} : Pres b h (h ++ [o]) := fun c hc ⟨z1, z2⟩ => ⟨by simp; omega, fun i u hi e => by
  rcases get_app e with ⟨_, e⟩ | ⟨e, _⟩
  · exact z2 i u hi e
  · omega⟩
theorem get_set {h : Hp} {n i : Nat} {o u : Obj} (e : (h.set n o)[i]? = some u) : (i = n ∧ n < h.length ∧ u = o) ∨ (i ≠ n ∧ h[i]? = some u) := by
  by_cases hi : i = n
  · subst hi
    by_cases hl : i < h.length
    · rw [List.getElem?_set_self hl] at e
      exact .inl ⟨rfl, hl, by simpa using e.symm⟩
    · rw [List.getElem?_eq_none (by simpa using hl)] at e
      cases e
  · rw [List.getElem?_set_ne (Ne.symm hi)] at e
    exact .inr ⟨hi, e⟩
/-- a list is changed -/
theorem HeapOk.put (ok : HeapOk K H bt h) {n : Nat} {o : Obj} {ws : List W} {vs : List V} (e : h[n]? = some o) (nd : o ≠ .dead) (r : RepL K H bt h ws vs) :
    HeapOk K (upd H (bt.at_ n) (.lst vs)) bt (h.set n (.lst ws)) ∧ Ext H bt h (upd H (bt.at_ n) (.lst vs)) bt (h.set n (.lst ws)) := by
  have hn : n < h.length := (List.getElem?_eq_some_iff.mp e).1
  have x : Ext H bt h (upd H (bt.at_ n) (.lst vs)) bt (h.set n (.lst ws)) := by
    refine ⟨fun a u q f => by rw [upd_ne (fun z => f.1 n o e nd z.symm)]; exact q, fun a q => ?_, fun _ _ => rfl, fun _ z => .inl z, by simp, fun i u hi q nu => ?_, fun i u hi q _ => ?_⟩
    · by_cases z : a = bt.at_ n
      · rw [z, upd_same]; simp
      · rw [upd_ne z]; exact q
    · rcases get_set q with ⟨rfl, _, _⟩ | ⟨_, q⟩
      · exact ⟨o, e, nd⟩
      · exact ⟨u, q, nu⟩
    · rw [List.getElem?_eq_none (by simpa using hi)] at q
      cases q
  refine ⟨⟨fun i u q => ?_, fun i j oi oj ei ej ni nj z => ?_, fun d hd => ?_, fun i u q nu => ?_⟩, x⟩
  · rcases get_set q with ⟨rfl, _, rfl⟩ | ⟨hi, q⟩
    · exact ⟨vs, upd_same, r.ext ok x _ _⟩
    · by_cases ud : u = .dead
      · subst ud; trivial
      · refine (ok.objs i u q).ext ok x fun vs' q' => ?_
        rw [upd_ne fun z => hi (ok.inj i n u o q e ud nd z)]
        exact q'
  · rcases get_set ei with ⟨e1, _, _⟩ | ⟨_, ei⟩
    · rcases get_set ej with ⟨e2, _, _⟩ | ⟨_, ej⟩
      · rw [e1, e2]
      · rw [e1] at z ⊢
        exact ok.inj n j o oj e ej nd nj z
    · rcases get_set ej with ⟨e2, _, _⟩ | ⟨_, ej⟩
      · rw [e2] at z ⊢
        exact ok.inj i n oi o ei e ni nd z
      · exact ok.inj i j oi oj ei ej ni nj z
  · by_cases z : d = bt.at_ n
    · exact ⟨vs, by rw [z, upd_same]⟩
    · rw [upd_ne z]; exact ok.gl d hd
  · rcases get_set q with ⟨e1, _, _⟩ | ⟨_, q⟩
    · rw [e1]; exact ok.gd n o e nd
    · exact ok.gd i u q nu
theorem Pres.put {b n : Nat} {o : Obj} (c : b ≤ n ∨ o.below 0 = true) (mono : ∀ c, o.below 0 = true → o.below c = true) : Pres b h (h.set n o) := fun c' hc ⟨z1, z2⟩ => ⟨by simpa using z1, fun i u hi q => by
  rcases get_set q with ⟨rfl, _, rfl⟩ | ⟨_, q⟩
  · rcases c with c | c
    · omega
    · exact mono _ c
  · exact z2 i u hi q⟩
/-- what lay below stays so where items of what stood there are stored -/
theorem Pres.put2 {b n : Nat} {o o' : Obj} (e : h[n]? = some o) (c : ∀ c, c ≤ b → n < c → o.below c = true → o'.below c = true) : Pres b h (h.set n o') := fun c' hc ⟨z1, z2⟩ => ⟨by simpa using z1, fun i u hi q => by
  rcases get_set q with ⟨rfl, _, rfl⟩ | ⟨_, q⟩
  · exact c c' hc hi (z2 _ o hi e)
  · exact z2 i u hi q⟩
/-- an object is not changed any more -/
theorem HeapOk.freeze (ok : HeapOk K H bt h) {n : Nat} {ws : List W} (e : h[n]? = some (.lst ws)) :
    HeapOk K H bt (h.set n .dead) ∧ Ext H bt h H bt (h.set n .dead) ∧ Rep K H bt (h.set n .dead) (.lst ws) (.ref (bt.at_ n)) := by
  have hg : bt.at_ n ∉ bt.g := ok.gd n _ e (by simp)
  have hn : n < h.length := (List.getElem?_eq_some_iff.mp e).1
  have x : Ext H bt h H bt (h.set n .dead) := ⟨fun _ _ q _ => q, fun _ q => q, fun _ _ => rfl, fun _ z => .inl z, by simp, fun i u hi q nu => by
    rcases get_set q with ⟨_, _, e2⟩ | ⟨_, q⟩
    · exact absurd e2 nu
    · exact ⟨u, q, nu⟩, fun i u hi q _ => by
    rw [List.getElem?_eq_none (by simpa using hi)] at q
    cases q⟩
  refine ⟨⟨fun i u q => ?_, fun i j oi oj ei ej ni nj z => ?_, ok.gl, fun i u q nu => ?_⟩, x, ?_⟩
  · rcases get_set q with ⟨_, _, e2⟩ | ⟨_, q⟩
    · rw [e2]; trivial
    · exact (ok.objs i u q).ext ok x fun _ q => q
  · rcases get_set ei with ⟨_, _, e2⟩ | ⟨_, ei⟩
    · exact absurd e2 ni
    · rcases get_set ej with ⟨_, _, e2⟩ | ⟨_, ej⟩
      · exact absurd e2 nj
      · exact ok.inj i j oi oj ei ej ni nj z
  · rcases get_set q with ⟨_, _, e2⟩ | ⟨_, q⟩
    · exact absurd e2 nu
    · exact ok.gd i u q nu
  · obtain ⟨vs, q, l⟩ := ok.objs n _ e
    refine ⟨bt.at_ n, vs, rfl, ⟨q, fun i o ei ni z => ?_, hg⟩, l.ext ok x _ _⟩
    rcases get_set ei with ⟨_, _, e2⟩ | ⟨hi, ei⟩
    · exact ni e2
    · exact hi (ok.inj i n o _ ei e ni (by simp) z)
/-- a list that a comprehension is just making -/
def Gh.mk1 (bt : Gh) (D : Addr) : Gh := ⟨bt.at_, D :: bt.g⟩
theorem HeapOk.ghost (ok : HeapOk K H bt h) {D : Addr} {vs : List V} (n : H D = none) :
    HeapOk K (upd H D (.lst vs)) (bt.mk1 D) h ∧ Ext H bt h (upd H D (.lst vs)) (bt.mk1 D) h := by
  have s : L2.Same H (upd H D (.lst vs)) := Same.upd n
  have x : Ext H bt h (upd H D (.lst vs)) (bt.mk1 D) h := ⟨fun a o e _ => s a o e, fun a e => by
    cases q : H a with
    | none => exact absurd q e
    | some u => rw [s a u q]; simp, fun _ _ => rfl, fun d z => by
      rcases List.mem_cons.mp z with z | z
      · exact .inr (z ▸ n)
      · exact .inl z, Nat.le_refl _, fun i o _ e n => ⟨o, e, n⟩, fun i o hi e _ => by
      rw [List.getElem?_eq_none hi] at e; cases e⟩
  refine ⟨⟨fun i o e => (ok.objs i o e).ext ok x fun vs q => s _ _ q, ok.inj, fun d hd => ?_, fun i o e no z => ?_⟩, x⟩
  · rcases List.mem_cons.mp hd with z | z
    · exact ⟨vs, by rw [z, upd_same]⟩
    · obtain ⟨us, q⟩ := ok.gl d z
      exact ⟨us, s _ _ q⟩
  · rcases List.mem_cons.mp z with z | z
    · exact ok.at_some e no (by have z' : bt.at_ i = D := z; rw [z']; exact n)
    · exact ok.gd i o e no z
/-- it grows -/
theorem HeapOk.grow (ok : HeapOk K H bt h) {D : Addr} {vs : List V} (g : D ∈ bt.g) : HeapOk K (upd H D (.lst vs)) bt h ∧ Ext H bt h (upd H D (.lst vs)) bt h := by
  have x : Ext H bt h (upd H D (.lst vs)) bt h := ⟨fun a o e f => by rw [upd_ne (show a ≠ D from fun z => f.2 (by rw [z]; exact g))]; exact e, fun a e => by
    by_cases z : a = D
    · rw [z, upd_same]; simp
    · rw [upd_ne z]; exact e, fun _ _ => rfl, fun _ z => .inl z, Nat.le_refl _, fun i o _ e n => ⟨o, e, n⟩, fun i o hi e _ => by
    rw [List.getElem?_eq_none hi] at e; cases e⟩
  refine ⟨⟨fun i o e => ?_, ok.inj, fun d hd => ?_, ok.gd⟩, x⟩
  · by_cases no : o = .dead
    · rw [no]; trivial
    · exact (ok.objs i o e).ext ok x fun us q => by rw [upd_ne (show bt.at_ i ≠ D from fun z => ok.gd i o e no (by rw [z]; exact g))]; exact q
  · by_cases z : d = D
    · exact ⟨vs, by rw [z, upd_same]⟩
    · rw [upd_ne z]; exact ok.gl d hd
/-- it is made -/
theorem HeapOk.done (ok : HeapOk K H (bt.mk1 D) h) : HeapOk K H bt h ∧ Ext H (bt.mk1 D) h H bt h := by
  have x : Ext H (bt.mk1 D) h H bt h := ⟨fun _ _ e _ => e, fun _ e => e, fun _ _ => rfl, fun d z => .inl (List.mem_cons_of_mem _ z), Nat.le_refl _, fun i o _ e n => ⟨o, e, n⟩, fun i o hi e _ => by
    rw [List.getElem?_eq_none hi] at e; cases e⟩
  exact ⟨⟨fun i o e => (ok.objs i o e).ext ok x fun _ q => q, ok.inj, fun d hd => ok.gl d (List.mem_cons_of_mem _ hd), fun i o e no z => ok.gd i o e no (List.mem_cons_of_mem _ z)⟩, x⟩
/-! ### the same, with the lists that are being made kept as they are -/
structure Exs (H : L2.Hp) (bt : Gh) (h : Hp) (H' : L2.Hp) (bt' : Gh) (h' : Hp) : Prop extends Ext H bt h H' bt' h' where
  gk : ∀ d, d ∈ bt.g → d ∈ bt'.g ∧ ∀ o, H d = some o → H' d = some o
end
theorem Exs.refl {H : L2.Hp} {bt : Gh} {h : Hp} : Exs H bt h H bt h := ⟨Ext.refl, fun _ z => ⟨z, fun _ e => e⟩⟩
theorem Exs.trans {H H1 H2 : L2.Hp} {b b1 b2 : Gh} {h h1 h2 : Hp} (x : Exs H b h H1 b1 h1) (y : Exs H1 b1 h1 H2 b2 h2) : Exs H b h H2 b2 h2 :=
  ⟨x.toExt.trans y.toExt, fun d z => ⟨(y.gk d (x.gk d z).1).1, fun o e => (y.gk d (x.gk d z).1).2 o ((x.gk d z).2 o e)⟩⟩
section
variable {K : KX} {H H' H1 : L2.Hp} {bt bt' bt1 : Gh} {h h' h1 : Hp}
theorem HeapOk.sameX (ok : HeapOk K H bt h) (s : L2.Same H H') : HeapOk K H' bt h ∧ Exs H bt h H' bt h :=
  ⟨(ok.same s).1, (ok.same s).2, fun d z => ⟨z, fun o e => s d o e⟩⟩
theorem HeapOk.newX (ok : HeapOk K H bt h) {p : Addr} {ws : List W} {vs : List V} (s : L2.Same H H') (n : H p = none) (e : H' p = some (.lst vs)) (r : RepL K H bt h ws vs) :
    HeapOk K H' (bt.add h.length p) (h ++ [.lst ws]) ∧ Exs H bt h H' (bt.add h.length p) (h ++ [.lst ws]) :=
  ⟨(ok.new s n e r).1, (ok.new s n e r).2, fun d z => ⟨z, fun o e => s d o e⟩⟩
theorem HeapOk.putX (ok : HeapOk K H bt h) {n : Nat} {o : Obj} {ws : List W} {vs : List V} (e : h[n]? = some o) (nd : o ≠ .dead) (r : RepL K H bt h ws vs) :
    HeapOk K (upd H (bt.at_ n) (.lst vs)) bt (h.set n (.lst ws)) ∧ Exs H bt h (upd H (bt.at_ n) (.lst vs)) bt (h.set n (.lst ws)) :=
  ⟨(ok.put e nd r).1, (ok.put e nd r).2, fun d z => ⟨z, fun u q => by
    rw [upd_ne (fun y => ok.gd n o e nd (by rw [← y]; exact z))]; exact q⟩⟩
theorem HeapOk.freezeX (ok : HeapOk K H bt h) {n : Nat} {ws : List W} (e : h[n]? = some (.lst ws)) :
    HeapOk K H bt (h.set n .dead) ∧ Exs H bt h H bt (h.set n .dead) ∧ Rep K H bt (h.set n .dead) (.lst ws) (.ref (bt.at_ n)) :=
  ⟨(ok.freeze e).1, ⟨(ok.freeze e).2.1, fun d z => ⟨z, fun _ q => q⟩⟩, (ok.freeze e).2.2⟩
theorem HeapOk.ghostX (ok : HeapOk K H bt h) {D : Addr} {vs : List V} (n : H D = none) :
    HeapOk K (upd H D (.lst vs)) (bt.mk1 D) h ∧ Exs H bt h (upd H D (.lst vs)) (bt.mk1 D) h :=
  ⟨(ok.ghost n).1, (ok.ghost n).2, fun d z => ⟨List.mem_cons_of_mem _ z, fun o e => by
    rw [upd_ne (L2.ne_of_none e n)]; exact e⟩⟩
/-- it grows: seen from ahead of it -/
theorem HeapOk.growX (ok : HeapOk K H bt h) (x0 : Exs H1 bt1 h1 H bt h) {D : Addr} {vs : List V} (g : D ∈ bt.g) (n : D ∉ bt1.g) :
    HeapOk K (upd H D (.lst vs)) bt h ∧ Exs H1 bt1 h1 (upd H D (.lst vs)) bt h ∧ Ext H bt h (upd H D (.lst vs)) bt h := by
  obtain ⟨ok1, x1⟩ := ok.grow (vs := vs) g
  exact ⟨ok1, ⟨x0.toExt.trans x1, fun d z => ⟨(x0.gk d z).1, fun o e => by
    rw [upd_ne (fun y => n (by rw [← y]; exact z))]
    exact (x0.gk d z).2 o e⟩⟩, x1⟩
def Gh.rm (bt : Gh) (D : Addr) : Gh := ⟨bt.at_, bt.g.filter fun d => d != D⟩
theorem mem_rm {bt : Gh} {D d : Addr} : d ∈ (bt.rm D).g ↔ d ∈ bt.g ∧ d ≠ D := by
  unfold Gh.rm
  simp [List.mem_filter]
/-- it is made -/
theorem HeapOk.doneX (ok : HeapOk K H bt h) (x0 : Exs H1 bt1 h1 H bt h) {D : Addr} (n : D ∉ bt1.g) (g : D ∈ bt.g) : HeapOk K H (bt.rm D) h ∧ Exs H1 bt1 h1 H (bt.rm D) h ∧ Ext H bt h H (bt.rm D) h ∧ Fz (bt.rm D) h D := by
  have x : Ext H bt h H (bt.rm D) h := ⟨fun _ _ e _ => e, fun _ e => e, fun _ _ => rfl, fun d z => .inl (mem_rm.mp z).1, Nat.le_refl _, fun i o _ e n => ⟨o, e, n⟩, fun i o hi e _ => by
    rw [List.getElem?_eq_none hi] at e; cases e⟩
  refine ⟨⟨fun i o e => (ok.objs i o e).ext ok x fun _ q => q, ok.inj, fun d hd => ok.gl d (mem_rm.mp hd).1, fun i o e no z => ok.gd i o e no (mem_rm.mp z).1⟩, ⟨x0.toExt.trans x, fun d z => ⟨mem_rm.mpr ⟨(x0.gk d z).1, fun y => n (by rw [← y]; exact z)⟩, (x0.gk d z).2⟩⟩, x, fun i o e no z => ?_, fun z => (mem_rm.mp z).2 rfl⟩
  exact ok.gd i o e no (by have z' : bt.at_ i = D := z; rw [z']; exact g)
theorem Exs.cut0 {b : Nat} {H : L2.Hp} {bt : Gh} (x : Exs H1 bt1 h1 H bt h) (xc : Ext H1 bt1 h1 H bt h') : Exs H1 bt1 h1 H bt h' := ⟨xc, x.gk⟩
end
end Ow

/-! Ow3: readings that say what the evaluator says. -/
namespace Ow
open PySem PySem.Spec PyProof.Rows
open L2 (V SqL SqT Rd HO upd upd_same upd_ne TE TT TA TS VK Cx PE PT PA PS PSs WX)

theorem PE.imp {X : Cx} {e : Expr} {t t' : TE} (h : PE X e t) (i : ∀ σ H Q, t' σ H Q → t σ H Q) : PE X e t' := ⟨fun pins s σ H Q I q => h.run pins s σ H Q I (i σ H Q q)⟩
theorem PT.imp {X : Cx} {e : Expr} {t t' : TT} (h : PT X e t) (i : ∀ σ H Q, t' σ H Q → t σ H Q) : PT X e t' := ⟨fun pins s σ H Q I q => h.run pins s σ H Q I (i σ H Q q)⟩
theorem PS.imp {X : Cx} {e : Stmt} {t t' : TS} (h : PS X e t) (i : ∀ D σ H, t' D σ H → t D σ H) : PS X e t' := ⟨fun pins s σ H D I q => h.run pins s σ H D I (i D σ H q)⟩
theorem PSs.imp {X : Cx} {e : List Stmt} {t t' : TS} (h : PSs X e t) (i : ∀ D σ H, t' D σ H → t D σ H) : PSs X e t' := ⟨fun pins s σ H D I q => h.run pins s σ H D I (i D σ H q)⟩

/-- the readings of several expressions, from the left -/
def tL : List TE → TA
  | [] => L2.tNil
  | t :: ts => L2.tCons t (tL ts)
inductive PL (X : Cx) : List Expr → List TE → Prop
  | nil : PL X [] []
  | cons {e : Expr} {es : List Expr} {t : TE} {ts : List TE} : PE X e t → PL X es ts → PL X (e :: es) (t :: ts)
/-- no star -/
def ns : Expr → Bool
  | .Starred _ _ => false
  | _ => true
theorem star_ns {e : Expr} (h : ns e = true) (es : List Expr) (env : PySem.Env) : starEach (e :: es) env = (false, eval e env) :: starEach es env := by
  cases e <;> first | rfl | cases h
theorem star_all {es : List Expr} (h : es.all ns = true) (env : PySem.Env) (pos : Pos) : (backTo pos (starEach es env)).any (·.1) = false := by
  induction es with
  | nil => rfl
  | cons e es ih =>
    simp only [List.all_cons, Bool.and_eq_true] at h
    rw [star_ns h.1]
    show ((false || (backTo pos (starEach es env)).any (·.1))) = false
    rw [ih h.2]; rfl
theorem PL.pa {X : Cx} : ∀ {es : List Expr} {ts : List TE}, PL X es ts → es.all ns = true → PA X es (tL ts)
  | _, _, .nil, _ => L2.pa_nil
  | _, _, .cons h t, z => by
    simp only [List.all_cons, Bool.and_eq_true] at z
    exact L2.pa_cons h (t.pa z.2) (star_ns z.1 _ _)
theorem PL.two {X : Cx} {a b : Expr} {ts : List TE} (h : PL X [a, b] ts) : ∃ ta tb, ts = [ta, tb] ∧ PE X a ta ∧ PE X b tb := by
  cases h with
  | cons h1 h2 =>
    cases h2 with
    | cons h2 h3 =>
      cases h3
      exact ⟨_, _, rfl, h1, h2⟩
theorem PL.one {X : Cx} {a : Expr} {ts : List TE} (h : PL X [a] ts) : ∃ ta, ts = [ta] ∧ PE X a ta := by
  cases h with
  | cons h1 h2 =>
    cases h2
    exact ⟨_, rfl, h1⟩
theorem PL.three {X : Cx} {a b c : Expr} {ts : List TE} (h : PL X [a, b, c] ts) : ∃ ta tb tc, ts = [ta, tb, tc] ∧ PE X a ta ∧ PE X b tb ∧ PE X c tc := by
  cases h with
  | cons h1 h2 =>
    obtain ⟨tb, tc, rfl, h3, h4⟩ := h2.two
    exact ⟨_, _, _, rfl, h1, h3, h4⟩

section
variable (K : KX)
/-- the slots as the evaluator knows them -/
structure Stt (σ : L2.St) (H : L2.Hp) (bt : Gh) (ρ : Env) (h : Hp) : Prop where
  hp : HeapOk K H bt h
  sl : ∀ (i : Nat) w, ρ[i]? = some (some w) → ∃ v, σ[i]? = some (some v) ∧ Rep K H bt h w v
  len : ρ.length = σ.length
/-- an exception -/
def RepX (H : L2.Hp) (bt : Gh) (h : Hp) : W → Value → Option Addr → Prop := fun _ _ _ => False
/-- what is wanted of an evaluator's result -/
def OkX (Wx : WX) (σ : L2.St) (H : L2.Hp) (bt : Gh) (b : Nat) (h : Hp) (e : W) (h' : Hp) : Prop :=
  ∀ c d H' bt', Exs H bt h H' bt' h' → HeapOk K H' bt' h' → Pres b h h' → RepX H' bt' h' e c d → Wx c d σ H'
def OkE (Wx : WX) (σ : L2.St) (H : L2.Hp) (bt : Gh) (b : Nat) (h : Hp) (Q : VK) : R W → Prop
  | .ok w h' => ∀ v H' bt', Exs H bt h H' bt' h' → HeapOk K H' bt' h' → Pres b h h' → Rep K H' bt' h' w v → Q v H'
  | .exc e h' => OkX K Wx σ H bt b h e h'
  | .bad => False
def OkEs (Wx : WX) (σ : L2.St) (H : L2.Hp) (bt : Gh) (b : Nat) (h : Hp) (Q : List V → L2.Hp → Prop) : R (List W) → Prop
  | .ok ws h' => ∀ vs H' bt', Exs H bt h H' bt' h' → HeapOk K H' bt' h' → Pres b h h' → RepL K H' bt' h' ws vs → Q vs H'
  | .exc e h' => OkX K Wx σ H bt b h e h'
  | .bad => False
def OkT (Wx : WX) (σ : L2.St) (H : L2.Hp) (bt : Gh) (b : Nat) (h : Hp) (Q : Bool → L2.Hp → Prop) : R W → Prop
  | .ok w h' => ∃ k, truthW h' w = some k ∧ ∀ H' bt', Exs H bt h H' bt' h' → HeapOk K H' bt' h' → Pres b h h' → Q k H'
  | .exc e h' => OkX K Wx σ H bt b h e h'
  | .bad => False
/-- the reading of an expression: from what the evaluator knows, by what it says -/
def tEv (Wx : WX) (m : Nat → Env → Hp → R W) : TE := fun σ H Q => ∃ b bt ρ h, Stt K σ H bt ρ h ∧ b ≤ h.length ∧ OkE K Wx σ H bt b h Q (m b ρ h)
def tEvs (Wx : WX) (m : Nat → Env → Hp → R (List W)) : TA := fun σ H Q => ∃ b bt ρ h, Stt K σ H bt ρ h ∧ b ≤ h.length ∧ OkEs K Wx σ H bt b h Q (m b ρ h)
/-- .. of a test -/
def tTv (Wx : WX) (m : Nat → Env → Hp → R W) : TT := fun σ H Q => ∃ b bt ρ h, Stt K σ H bt ρ h ∧ b ≤ h.length ∧ OkT K Wx σ H bt b h Q (m b ρ h)
end
section
variable {K : KX} {σ : L2.St} {H H' : L2.Hp} {bt bt' : Gh} {ρ : Env} {h h' : Hp} {Wx : WX}
theorem Stt.ext (s : Stt K σ H bt ρ h) (x : Exs H bt h H' bt' h') (ok : HeapOk K H' bt' h') : Stt K σ H' bt' ρ h' :=
  ⟨ok, fun i w e => let ⟨v, e1, r⟩ := s.sl i w e; ⟨v, e1, r.ext s.hp x.toExt⟩, s.len⟩
theorem OkX.trans {b : Nat} {e : W} {h1 h2 : Hp} {H1 : L2.Hp} {bt1 : Gh} (x : Exs H bt h H1 bt1 h1) (p : Pres b h h1) (q : OkX K Wx σ H bt b h e h2) : OkX K Wx σ H1 bt1 b h1 e h2 :=
  fun c d H' bt' x2 ok2 p2 r => q c d H' bt' (x.trans x2) ok2 (p.trans p2) r
/-- one evaluation, then another -/
theorem OkE.bind {b : Nat} {m : R W} {f : W → Hp → R W} {Q : VK} (q : OkE K Wx σ H bt b h Q (m.bind f)) :
    OkE K Wx σ H bt b h (fun v H1 => ∃ w h1 bt1, m = .ok w h1 ∧ Exs H bt h H1 bt1 h1 ∧ HeapOk K H1 bt1 h1 ∧ Pres b h h1 ∧ Rep K H1 bt1 h1 w v ∧ OkE K Wx σ H1 bt1 b h1 Q (f w h1)) m := by
  cases m with
  | bad => exact q
  | exc e h1 => exact q
  | ok w h1 =>
    intro v H1 bt1 x ok p r
    refine ⟨w, h1, bt1, rfl, x, ok, p, r, ?_⟩
    have q' : OkE K Wx σ H bt b h Q (f w h1) := q
    cases e : f w h1 with
    | bad => rw [e] at q'; exact q'
    | exc e2 h2 => rw [e] at q'; exact OkX.trans x p q'
    | ok w2 h2 => rw [e] at q'; exact fun v2 H2 bt2 x2 ok2 p2 r2 => q' v2 H2 bt2 (x.trans x2) ok2 (p.trans p2) r2
theorem OkE.mono {b : Nat} {m : R W} {Q Q' : VK} (q : OkE K Wx σ H bt b h Q m) (i : ∀ v H', Q v H' → Q' v H') : OkE K Wx σ H bt b h Q' m := by
  cases m with
  | bad => exact q
  | exc e h1 => exact q
  | ok w h1 => exact fun v H1 bt1 x ok p r => i _ _ (q v H1 bt1 x ok p r)
theorem OkEs.bind {b : Nat} {m : R (List W)} {f : List W → Hp → R W} {Q : VK} (q : OkE K Wx σ H bt b h Q (m.bind f)) :
    OkEs K Wx σ H bt b h (fun vs H1 => ∃ ws h1 bt1, m = .ok ws h1 ∧ Exs H bt h H1 bt1 h1 ∧ HeapOk K H1 bt1 h1 ∧ Pres b h h1 ∧ RepL K H1 bt1 h1 ws vs ∧ OkE K Wx σ H1 bt1 b h1 Q (f ws h1)) m := by
  cases m with
  | bad => exact q
  | exc e h1 => exact q
  | ok w h1 =>
    intro v H1 bt1 x ok p r
    refine ⟨w, h1, bt1, rfl, x, ok, p, r, ?_⟩
    have q' : OkE K Wx σ H bt b h Q (f w h1) := q
    cases e : f w h1 with
    | bad => rw [e] at q'; exact q'
    | exc e2 h2 => rw [e] at q'; exact OkX.trans x p q'
    | ok w2 h2 => rw [e] at q'; exact fun v2 H2 bt2 x2 ok2 p2 r2 => q' v2 H2 bt2 (x.trans x2) ok2 (p.trans p2) r2
/-- a list of expressions, from the left -/
theorem tl_of {call : Nat → Nat → List W → Hp → R W} : ∀ (es : List Ex) (σ : L2.St) (H : L2.Hp) (Q : List V → L2.Hp → Prop),
    tEvs K Wx (fun b ρ h => evEs call b ρ es h) σ H Q → tL (es.map fun e => tEv K Wx (fun b ρ h => evE call b ρ e h)) σ H Q
  | [], σ, H, Q, q => by
    obtain ⟨b, bt, ρ, h, s, hb, q⟩ := q
    simp only [evEs] at q
    exact q [] H bt Exs.refl s.hp Pres.refl rfl
  | e :: es, σ, H, Q, q => by
    obtain ⟨b, bt, ρ, h, s, hb, q⟩ := q
    simp only [evEs] at q
    refine ⟨b, bt, ρ, h, s, hb, ?_⟩
    show OkE K Wx σ H bt b h _ (evE call b ρ e h)
    cases e1 : evE call b ρ e h with
    | bad => rw [e1] at q; exact q
    | exc x h1 => rw [e1] at q; exact q
    | ok w h1 =>
      rw [e1] at q
      simp only [R.bind_ok] at q
      intro v H1 bt1 x1 ok1 p1 r1
      refine tl_of es σ H1 _ ⟨b, bt1, ρ, h1, s.ext x1 ok1, Nat.le_trans hb x1.len, ?_⟩
      show OkEs K Wx σ H1 bt1 b h1 _ (evEs call b ρ es h1)
      cases e2 : evEs call b ρ es h1 with
      | bad => rw [e2] at q; exact q
      | exc x h2 => rw [e2] at q; exact OkX.trans x1 p1 q
      | ok ws h2 =>
        rw [e2] at q
        simp only [R.bind_ok] at q
        exact fun vs H2 bt2 x2 ok2 p2 r2 => q (v :: vs) H2 bt2 (x1.trans x2) ok2 (p1.trans p2) ⟨v, vs, rfl, r1.ext ok1 x2.toExt, r2⟩

/-! ### primitives -/
/-- a new list -/
def NewL (K : KX) (H H' : L2.Hp) (bt : Gh) (h : Hp) (ws : List W) (v : V) : Prop :=
  ∃ p vs, v = .ref p ∧ H p = none ∧ H' p = some (.lst vs) ∧ RepL K H bt h ws vs ∧ L2.Same H H'
def Post (K : KX) (f : Bool) (H H' : L2.Hp) (bt : Gh) (h : Hp) (w : W) (v : V) : Prop := match f, w with
  | true, .lst ws => NewL K H H' bt h ws v
  | _, w => L2.Same H H' ∧ Rep K H' bt h w v
/-- an argument, a ref to a list as its content -/
def RepT (K : KX) (H : L2.Hp) (bt : Gh) (h : Hp) : W → V → Prop
  | .lst ws, v => ∃ a vs, v = .ref a ∧ H a = some (.lst vs) ∧ RepL K H bt h ws vs
  | w, v => Rep K H bt h w v
def RepTL (K : KX) (H : L2.Hp) (bt : Gh) (h : Hp) : List W → List V → Prop
  | [], vs => vs = []
  | w :: ws, vs => ∃ v r, vs = v :: r ∧ RepT K H bt h w v ∧ RepTL K H bt h ws r
theorem Rep.t (ok : HeapOk K H bt h) {w : W} {v : V} (r : Rep K H bt h w v) : RepT K H bt h (deref h w) v := by
  cases w with
  | ref n =>
    have r0 := r
    obtain ⟨hn, rfl⟩ := r
    cases e : h[n]? with
    | none => simp only [deref, e]; exact r0
    | some o =>
      cases o with
      | dead => simp only [deref, e]; exact r0
      | lst ws =>
        simp only [deref, e]
        obtain ⟨vs, q, l⟩ := ok.objs n _ e
        exact ⟨_, vs, rfl, q, l⟩
      | dic ks vs => exact (ok.objs n _ e).elim
      | ins k fs => exact (ok.objs n _ e).elim
  | lst ws =>
    obtain ⟨a, vs, e, f, l⟩ := r
    exact ⟨a, vs, e, f.1, l⟩
  | _ => exact r
theorem RepL.t (ok : HeapOk K H bt h) : ∀ {ws : List W} {vs : List V}, RepL K H bt h ws vs → RepTL K H bt h (ws.map (deref h)) vs
  | [], _, r => r
  | w :: ws, _, r => by
    obtain ⟨v, t, rfl, r1, r2⟩ := r
    exact ⟨v, t, rfl, r1.t ok, RepL.t ok r2⟩
/-- what is asked of a primitive's reading -/
def RdOk (K : KX) (p : Prim) (rd : List V → L2.Hp → VK → Prop) : Prop :=
  ∀ (H : L2.Hp) (bt : Gh) (h : Hp) (ws : List W) (vs : List V) (w : W) (Q : VK), HeapOk K H bt h → (if p.raw then RepL K H bt h ws vs else RepTL K H bt h ws vs) → primF p ws = some w →
    (∀ v H', Post K p.fresh H H' bt h w v → Q v H') → rd vs H Q
theorem NewL.rep (ok : HeapOk K H bt h) {ws : List W} {v : V} (n : NewL K H H' bt h ws v) : Rep K H' bt h (.lst ws) v := by
  obtain ⟨p, vs, rfl, hn, e, r, s⟩ := n
  obtain ⟨ok1, x⟩ := ok.same s
  refine ⟨p, vs, rfl, ⟨e, fun i o ei ni z => ?_, fun z => ?_⟩, r.ext ok x _ _⟩
  · exact ok.at_some ei ni (by rw [z]; exact hn)
  · obtain ⟨us, q⟩ := ok.gl p z
    rw [hn] at q; cases q
theorem Post.rep (ok : HeapOk K H bt h) {f : Bool} {w : W} {v : V} (n : Post K f H H' bt h w v) : L2.Same H H' ∧ Rep K H' bt h w v := by
  unfold Post at n
  split at n
  · exact ⟨let ⟨_, _, _, _, _, _, s⟩ := n; s, n.rep ok⟩
  · exact n
/-- a primitive's run -/
theorem prim_run {p : Prim} {rd : List V → L2.Hp → VK → Prop} (hr : RdOk K p rd) {m : Bool} {b : Nat} {ws : List W} {vs : List V} {Q : VK} (ok : HeapOk K H bt h) (hb : b ≤ h.length) (r : RepL K H bt h ws vs)
    (q : OkE K (fun _ _ _ _ => False) σ H bt b h Q (runPrim m p ws h)) : rd vs H Q := by
  unfold runPrim at q
  cases e : primF p (if p.raw = true then ws else ws.map (deref h)) with
  | none => rw [e] at q; exact q.elim
  | some w =>
    rw [e] at q
    simp only at q
    refine hr H bt h _ vs w Q ok ?_ e fun v H1 n => ?_
    · cases hp : p.raw with
      | true => simpa [hp] using r
      | false => simpa [hp] using r.t ok
    · cases m with
      | false =>
        simp only [Bool.false_eq_true, if_false] at q
        obtain ⟨s, r1⟩ := n.rep ok
        obtain ⟨ok1, x⟩ := ok.sameX s
        exact q v H1 bt x ok1 Pres.refl r1
      | true =>
        simp only [if_true] at q
        cases hf : p.fresh with
        | false => rw [hf] at q; simp at q; exact q.elim
        | true =>
          rw [hf] at q n
          cases w with
          | lst us =>
            simp only [if_true, newObj] at q
            obtain ⟨p1, vs1, rfl, hn, e1, r1, s⟩ := n
            obtain ⟨ok1, x⟩ := ok.newX s hn e1 r1
            exact q _ H1 _ x ok1 (Pres.new hb) ⟨by simp, by rw [Gh.add_self]⟩
          | dic ks us =>
            obtain ⟨_, r1⟩ := n
            exact r1.elim
          | _ => simp [newObj] at q; exact q.elim
theorem runPrim_noexc {m : Bool} {p : Prim} {ws : List W} {h : Hp} : ∀ e h', runPrim m p ws h ≠ .exc e h' := by
  intro e h' z
  unfold runPrim at z
  split at z
  · cases z
  · split at z
    · split at z
      · split at z <;> cases z
      · cases z
    · cases z
end
end Ow

/-! Ow4: the primitives, over the layer's rules. -/
namespace Ow
open PySem PySem.Spec PyProof.Rows
open L2 (V SqL SqT Rd HO upd upd_same upd_ne TE TT TA TS VK Cx PE PT PA PS PSs WX OpR UnR CallR R2 Room)

def rd2 (r : R2) : List V → L2.Hp → VK → Prop
  | [x, y], H, Q => r x y H Q
  | _, _, _ => False
def rd1 (r : V → L2.Hp → VK → Prop) : List V → L2.Hp → VK → Prop
  | [x], H, Q => r x H Q
  | _, _, _ => False
/-- a reading over a list of values -/
def tP (ts : List TE) (rd : List V → L2.Hp → VK → Prop) : TE := fun σ H Q => tL ts σ H fun vs H1 => rd vs H1 Q
def tPt (ts : List TE) (rd : List V → L2.Hp → VK → Prop) : TT := fun σ H Q => tL ts σ H fun vs H1 => rd vs H1 fun x H' => ∃ k, x = .bl k ∧ Q k H'
section
variable {X : Cx} {a b : Expr} {ts : List TE} {pos : Pos}
theorem pe_bin {op : Operator} {r : R2} (ho : OpR X (binaryOp op) r) (h : PL X [a, b] ts) : PE X (.BinOp a op b pos) (tP ts (rd2 r)) := by
  obtain ⟨ta, tb, rfl, ha, hb⟩ := h.two
  exact L2.pe_op ho ha hb
theorem pe_cmp {op : CmpOp} {r : R2} (ho : OpR X (compareOp op) r) (h : PL X [a, b] ts) (hm : behindInMarks op b = false) : PE X (.Compare a [op] [b] pos) (tP ts (rd2 r)) := by
  obtain ⟨ta, tb, rfl, ha, hb⟩ := h.two
  exact L2.pe_cmpR ho ha hb hm
theorem pt_cmp {op : CmpOp} {r : R2} (ho : OpR X (compareOp op) r) (h : PL X [a, b] ts) (hm : behindInMarks op b = false) : PT X (.Compare a [op] [b] pos) (tPt ts (rd2 r)) := by
  obtain ⟨ta, tb, rfl, ha, hb⟩ := h.two
  exact L2.pt_cmpR ho ha hb hm
theorem pe_ixL {r : R2} (ho : L2.IxR X r) (h : PL X [a, b] ts) (hs : L2.PlainIx b) : PE X (.Subscript a b pos) (tP ts (rd2 r)) := by
  obtain ⟨ta, tb, rfl, ha, hb⟩ := h.two
  exact L2.pe_ix ho ha hb hs
end

/-! ### what a primitive's result stands for -/
section
variable {K : KX} {H H' : L2.Hp} {bt bt' : Gh} {h h' : Hp}
theorem repT_int {i : Int} {v : V} (r : RepT K H bt h (.int i) v) : v = .int i := r
theorem repT_str {i : Str} {v : V} (r : RepT K H bt h (.str i) v) : v = .str i := r
theorem repT_bl {i : Bool} {v : V} (r : RepT K H bt h (.bl i) v) : v = .bl i := r
theorem repT_non {v : V} (r : RepT K H bt h .non v) : v = .non := r
theorem repT_tup {ws : List W} {v : V} (r : RepT K H bt h (.tup ws) v) : ∃ a vs, v = .ref a ∧ SqT K H a vs ∧ RepL K H bt h ws vs := r
theorem repT_lst {ws : List W} {v : V} (r : RepT K H bt h (.lst ws) v) : ∃ a vs, v = .ref a ∧ H a = some (.lst vs) ∧ RepL K H bt h ws vs := r
theorem RepTL.two {a b : W} {vs : List V} (r : RepTL K H bt h [a, b] vs) : ∃ x y, vs = [x, y] ∧ RepT K H bt h a x ∧ RepT K H bt h b y := by
  obtain ⟨x, t, rfl, r1, y, u, rfl, r2, e⟩ := r
  cases (show u = [] from e)
  exact ⟨x, y, rfl, r1, r2⟩
theorem RepTL.one {a : W} {vs : List V} (r : RepTL K H bt h [a] vs) : ∃ x, vs = [x] ∧ RepT K H bt h a x := by
  obtain ⟨x, t, rfl, r1, e⟩ := r
  cases (show t = [] from e)
  exact ⟨x, rfl, r1⟩
/-- a value without an object -/
theorem post_flat {f : Bool} {w : W} {v : V} (r : Rep K H bt h w v) (nl : ∀ ws, w ≠ .lst ws) : Post K f H H bt h w v := by
  unfold Post
  split
  · exact absurd rfl (nl _)
  · exact ⟨L2.Same.refl H, r⟩
theorem post_newL {p : Addr} {ws : List W} {vs : List V} (n : H p = none) (r : RepL K H bt h ws vs) : Post K true H (upd H p (.lst vs)) bt h (.lst ws) (.ref p) :=
  ⟨p, vs, rfl, n, upd_same, r, Same.upd n⟩
theorem post_newT {f : Bool} {p : Addr} {ws : List W} {vs : List V} (ok : HeapOk K H bt h) (n : H p = none) (r : RepL K H bt h ws vs) : Post K f H (upd H p (.tup vs)) bt h (.tup ws) (.ref p) := by
  have s : L2.Same H (upd H p (.tup vs)) := Same.upd n
  refine (show L2.Same H (upd H p (.tup vs)) ∧ Rep K (upd H p (.tup vs)) bt h (.tup ws) (.ref p) from ⟨s, p, vs, rfl, .of upd_same, r.ext ok (ok.same s).2 _ _⟩) |> fun z => ?_
  unfold Post
  split
  · rename_i e; cases e
  · exact z
theorem RdOk.of2 {p : Prim} {r : R2} (raw : p.raw = false) (g : ∀ (H : L2.Hp) (bt : Gh) (h : Hp) (a b : W) (x y : V) (w : W) (Q : VK), HeapOk K H bt h → RepT K H bt h a x → RepT K H bt h b y → primF p [a, b] = some w → (∀ v H', Post K p.fresh H H' bt h w v → Q v H') → r x y H Q)
    (n : ∀ ws, primF p ws ≠ none → ∃ a b, ws = [a, b]) : RdOk K p (rd2 r) := by
  intro H bt h ws vs w Q ok rl e q
  obtain ⟨a, b, rfl⟩ := n ws (by rw [e]; simp)
  rw [raw] at rl
  obtain ⟨x, y, rfl, r1, r2⟩ := RepTL.two rl
  exact g H bt h a b x y w Q ok r1 r2 e q
theorem RdOk.of1 {p : Prim} {r : V → L2.Hp → VK → Prop} (raw : p.raw = false) (g : ∀ (H : L2.Hp) (bt : Gh) (h : Hp) (a : W) (x : V) (w : W) (Q : VK), HeapOk K H bt h → RepT K H bt h a x → primF p [a] = some w → (∀ v H', Post K p.fresh H H' bt h w v → Q v H') → r x H Q)
    (n : ∀ ws, primF p ws ≠ none → ∃ a, ws = [a]) : RdOk K p (rd1 r) := by
  intro H bt h ws vs w Q ok rl e q
  obtain ⟨a, rfl⟩ := n ws (by rw [e]; simp)
  rw [raw] at rl
  obtain ⟨x, rfl, r1⟩ := RepTL.one rl
  exact g H bt h a x w Q ok r1 e q
end

section
variable {X : Cx}
def rAdd (K : KX) : R2 := fun x y H Q => (((∃ i j, x = .int i ∧ y = .int j ∧ Q (.int (i + j)) H) ∨ (∃ i j, x = .str i ∧ y = .str j ∧ i.length + j.length ≤ sizeLine ∧ Q (.str (i ++ j)) H)) ∨ L2.rCatA K x y H Q) ∨ L2.rCat x y H Q
theorem op_addA : OpR X (binaryOp .Add) (rAdd (kx X)) := ((L2.op_add.or L2.op_add_str).or L2.op_catA).or L2.op_cat
theorem okLen_le {n : Nat} (h : okLen n = true) : n ≤ sizeLine := of_decide_eq_true h
theorem two_of {p : Prim} (h : ∀ a, pOne p a = none) (h0 : p ≠ .tupd) (h1 : p ≠ .lstd) (h2 : ∀ l u, p ≠ .sl l u) (h3 : p ≠ .isN) (h4 : p ≠ .notN) : ∀ ws, primF p ws ≠ none → ∃ a b, ws = [a, b] := by
  intro ws n
  cases p <;> first
    | exact absurd rfl h0
    | exact absurd rfl h1
    | exact absurd rfl (h2 _ _)
    | exact absurd rfl h3
    | exact absurd rfl h4
    | (match ws, n with
       | [], n => exact absurd rfl n
       | [a], n => exact absurd (h a) n
       | [a, b], _ => exact ⟨a, b, rfl⟩
       | _ :: _ :: _ :: _, n => exact absurd rfl n)
theorem rd_add : RdOk (kx X) .add (rd2 (rAdd (kx X))) := RdOk.of2 rfl (fun H bt h a b x y w Q ok r1 r2 e q => by
  have e : pAdd a b = some w := e
  cases a <;> cases b <;> first
    | cases e
    | skip
  · cases r1; cases r2
    exact .inl (.inl (.inl ⟨_, _, rfl, rfl, q _ _ (post_flat rfl fun _ z => by cases z)⟩))
  · rename_i s t
    cases r1; cases r2
    simp only [pAdd] at e
    split at e
    · cases e
      exact .inl (.inl (.inr ⟨_, _, rfl, rfl, okLen_le (by assumption), q _ _ (post_flat rfl fun _ z => by cases z)⟩))
    · cases e
  · obtain ⟨a1, xs, rfl, h1, l1⟩ := repT_tup r1
    obtain ⟨a2, ys, rfl, h2, l2⟩ := repT_tup r2
    simp only [pAdd] at e
    split at e
    · cases e
      have hl := l1.length
      have hl2 := l2.length
      refine .inl (.inr ⟨a1, a2, xs, ys, rfl, rfl, h1, h2, by have := okLen_le (by assumption); omega, fun z => ?_, fun z z2 => ?_, fun _ _ p n => q _ _ (post_newT ok n (l1.append l2))⟩)
      · subst z
        have : (_ : List W) = [] := List.length_eq_zero_iff.mp (hl.trans rfl)
        subst this
        exact q _ _ (post_flat ⟨a2, ys, rfl, h2, l2⟩ fun _ z => by cases z)
      · subst z2
        have : (_ : List W) = [] := List.length_eq_zero_iff.mp (hl2.trans rfl)
        subst this
        rw [List.append_nil] at q
        exact q _ _ (post_flat ⟨a1, xs, rfl, h1, l1⟩ fun _ z => by cases z)
    · cases e
  · obtain ⟨a1, xs, rfl, h1, l1⟩ := repT_lst r1
    obtain ⟨a2, ys, rfl, h2, l2⟩ := repT_lst r2
    simp only [pAdd] at e
    split at e
    · cases e
      have hl := l1.length
      have hl2 := l2.length
      exact .inr ⟨a1, a2, xs, ys, rfl, rfl, h1, h2, by have := okLen_le (by assumption); omega, fun p n => q _ _ (post_newL n (l1.append l2))⟩
    · cases e) (two_of (fun a => by cases a <;> rfl) (by decide) (by decide) (fun _ _ => by simp) (by decide) (by decide))
theorem post_false {H H' : L2.Hp} {bt : Gh} {h : Hp} {w : W} {v : V} (s : L2.Same H H') (r : Rep (kx X) H' bt h w v) : Post (kx X) false H H' bt h w v := ⟨s, r⟩
theorem rI_ok {p : Prim} {C : Int → Int → Prop} {g : Int → Int → V} (raw : p.raw = false) (n : ∀ ws, primF p ws ≠ none → ∃ a b, ws = [a, b])
    (e : ∀ a b w, primF p [a, b] = some w → ∃ i j, a = .int i ∧ b = .int j ∧ C i j ∧ ((∃ k, w = .int k ∧ g i j = .int k) ∨ ∃ k, w = .bl k ∧ g i j = .bl k)) : RdOk (kx X) p (rd2 (L2.rI C g)) :=
  RdOk.of2 raw (fun H bt h a b x y w Q ok r1 r2 e1 q => by
    obtain ⟨i, j, rfl, rfl, c, ⟨k, rfl, eg⟩ | ⟨k, rfl, eg⟩⟩ := e a b w e1
    · cases r1; cases r2
      exact ⟨i, j, rfl, rfl, c, by rw [eg]; exact q _ _ (post_flat rfl fun _ z => by cases z)⟩
    · cases r1; cases r2
      exact ⟨i, j, rfl, rfl, c, by rw [eg]; exact q _ _ (post_flat rfl fun _ z => by cases z)⟩) n
theorem rI0_ok {p : Prim} {g : Int → Int → V} (raw : p.raw = false) (n : ∀ ws, primF p ws ≠ none → ∃ a b, ws = [a, b])
    (e : ∀ a b w, primF p [a, b] = some w → ∃ i j, a = .int i ∧ b = .int j ∧ ((∃ k, w = .int k ∧ g i j = .int k) ∨ ∃ k, w = .bl k ∧ g i j = .bl k)) : RdOk (kx X) p (rd2 (L2.rI0 g)) :=
  RdOk.of2 raw (fun H bt h a b x y w Q ok r1 r2 e1 q => by
    obtain ⟨i, j, rfl, rfl, ⟨k, rfl, eg⟩ | ⟨k, rfl, eg⟩⟩ := e a b w e1
    · cases r1; cases r2
      exact ⟨i, j, rfl, rfl, by rw [eg]; exact q _ _ (post_flat rfl fun _ z => by cases z)⟩
    · cases r1; cases r2
      exact ⟨i, j, rfl, rfl, by rw [eg]; exact q _ _ (post_flat rfl fun _ z => by cases z)⟩) n
theorem ints_of {f : W → W → Option W} {a b w : W} (e : f a b = some w) (n : ∀ a b, f a b ≠ none → ∃ i j, a = .int i ∧ b = .int j) : ∃ i j, a = .int i ∧ b = .int j := n a b (by rw [e]; simp)
theorem rd_sub : RdOk (kx X) .sub (rd2 (L2.rI0 fun i j => .int (i - j))) := rI0_ok rfl (two_of (fun a => by cases a <;> rfl) (by decide) (by decide) (fun _ _ => by simp) (by decide) (by decide)) fun a b w e => by
  have e : pSub a b = some w := e
  cases a <;> cases b <;> cases e
  exact ⟨_, _, rfl, rfl, .inl ⟨_, rfl, rfl⟩⟩
theorem rd_cmp {p : Prim} {f : Int → Int → Bool} (raw : p.raw = false) (n : ∀ ws, primF p ws ≠ none → ∃ a b, ws = [a, b]) (h : ∀ a b, primF p [a, b] = pCmp f a b) : RdOk (kx X) p (rd2 (L2.rI0 fun i j => .bl (f i j))) := rI0_ok raw n fun a b w e => by
  rw [h] at e
  cases a <;> cases b <;> cases e
  exact ⟨_, _, rfl, rfl, .inr ⟨_, rfl, rfl⟩⟩
theorem rd_mod : RdOk (kx X) .mod (rd2 (L2.rI (fun _ j => j ≠ 0) fun i j => .int (i.fmod j))) := rI_ok rfl (two_of (fun a => by cases a <;> rfl) (by decide) (by decide) (fun _ _ => by simp) (by decide) (by decide)) fun a b w e => by
  have e : pMod a b = some w := e
  cases a <;> cases b <;> first | (cases e; done) | skip
  simp only [pMod] at e
  split at e
  · cases e
  · cases e
    exact ⟨_, _, rfl, rfl, by assumption, .inl ⟨_, rfl, rfl⟩⟩
theorem rd_fdiv : RdOk (kx X) .fdiv (rd2 (L2.rI L2.CDivN fun i j => .int (i.fdiv j))) := rI_ok rfl (two_of (fun a => by cases a <;> rfl) (by decide) (by decide) (fun _ _ => by simp) (by decide) (by decide)) fun a b w e => by
  have e : pFdiv a b = some w := e
  cases a <;> cases b <;> first | (cases e; done) | skip
  simp only [pFdiv] at e
  split at e
  · cases e
    exact ⟨_, _, rfl, rfl, by assumption, .inl ⟨_, rfl, rfl⟩⟩
  · cases e
theorem rd_pow : RdOk (kx X) .pow (rd2 (L2.rI L2.CPow fun i j => .int (i ^ j.toNat))) := rI_ok rfl (two_of (fun a => by cases a <;> rfl) (by decide) (by decide) (fun _ _ => by simp) (by decide) (by decide)) fun a b w e => by
  have e : pPow a b = some w := e
  cases a <;> cases b <;> first | (cases e; done) | skip
  simp only [pPow] at e
  split at e
  · cases e
    exact ⟨_, _, rfl, rfl, by assumption, .inl ⟨_, rfl, rfl⟩⟩
  · cases e
end

/-! ### data -/
section
variable {K : KX} {H : L2.Hp} {bt : Gh} {h : Hp}
mutual
theorem Rep.dp : ∀ (w : W) (v : V), isD w = true → Rep K H bt h w v → L2.Dp K H v (toD w)
  | .non, _, _, r => by cases r; simp only [toD]; exact .non
  | .bl b, _, _, r => by cases r; simp only [toD]; exact .bl b
  | .int b, _, _, r => by cases r; simp only [toD]; exact .int b
  | .str b, _, _, r => by cases r; simp only [toD]; exact .str b
  | .tup ws, v, d, r => by
    obtain ⟨a, vs, rfl, q, l⟩ := r
    simp only [isD] at d
    simp only [toD]
    exact .tup q (RepL.dp ws vs d l)
  | .lst ws, v, d, r => by
    obtain ⟨a, vs, rfl, q, l⟩ := r
    simp only [isD] at d
    simp only [toD]
    exact .lst (.of q.1) (RepL.dp ws vs d l)
  | .slst _, _, d, _ => by simp [isD] at d
  | .set _, _, d, _ => by simp [isD] at d
  | .dic _ _, _, d, _ => by simp [isD] at d
  | .ref _, _, d, _ => by simp [isD] at d
  | .ty _, _, d, _ => by simp [isD] at d
  | .cls _, _, d, _ => by simp [isD] at d
  | .exc _ _, _, d, _ => by simp [isD] at d
theorem RepL.dp : ∀ (ws : List W) (vs : List V), isDL ws = true → RepL K H bt h ws vs → L2.DpAll K H vs (ws.map toD)
  | [], _, _, r => by cases (show _ = [] from r); exact .nil
  | w :: ws, _, d, r => by
    obtain ⟨v, t, rfl, r1, r2⟩ := r
    simp only [isDL, Bool.and_eq_true] at d
    exact .cons (Rep.dp w v d.1 r1) (RepL.dp ws t d.2 r2)
end
theorem RepT.dp {w : W} {v : V} (d : isD w = true) (r : RepT K H bt h w v) : L2.Dp K H v (toD w) := by
  cases w with
  | lst ws =>
    obtain ⟨a, vs, rfl, q, l⟩ := r
    simp only [isD] at d
    simp only [toD]
    exact .lst (.of q) (RepL.dp ws vs d l)
  | _ => exact Rep.dp (bt := bt) (h := h) _ _ d r
end
section
variable {X : Cx}
def rEqA (K : KX) : R2 := fun x y H Q => L2.rEq x y H Q ∨ L2.rEqD K x y H Q
def rNeA (K : KX) : R2 := fun x y H Q => L2.rNe x y H Q ∨ L2.rNeD K x y H Q
theorem op_eqA (hu : X.A.units + 64 < cLine) : OpR X (compareOp .Eq) (rEqA (kx X)) := L2.op_eq.or (L2.op_eqD hu)
theorem op_neA (hu : X.A.units + 64 < cLine) : OpR X (compareOp .NotEq) (rNeA (kx X)) := L2.op_ne.or (L2.op_neD hu)
theorem pEq_cases {a b : W} {c : Bool} (e : pEq a b = some c) : (∃ x y : V, (∀ (K : KX) H bt h u v, RepT K H bt h a u → RepT K H bt h b v → u = x ∧ v = y) ∧ L2.scal x y = true ∧ c = decide (x = y)) ∨ (eqOk a b = true ∧ c = PyData.eqv (toD a) (toD b)) := by
  unfold pEq at e
  split at e
  · cases e
    refine .inl ⟨_, _, fun K H bt h u v r1 r2 => ⟨r1, r2⟩, rfl, ?_⟩
    simp
  · cases e
    exact .inl ⟨_, _, fun K H bt h u v r1 r2 => ⟨r1, r2⟩, rfl, by simp⟩
  · cases e
    exact .inl ⟨_, _, fun K H bt h u v r1 r2 => ⟨r1, r2⟩, rfl, by simp⟩
  · cases e
    exact .inl ⟨_, _, fun K H bt h u v r1 r2 => ⟨r1, r2⟩, rfl, by simp⟩
  · cases e
    exact .inl ⟨_, _, fun K H bt h u v r1 r2 => ⟨r1, r2⟩, rfl, by simp⟩
  · split at e
    · cases e
      exact .inr ⟨by assumption, rfl⟩
    · cases e
theorem eqOk_and {a b : W} (h : eqOk a b = true) : isD a = true ∧ isD b = true ∧ SeqAt.shaped (toD a) = true ∧ SeqAt.shaped (toD b) = true := by
  simp only [eqOk, Bool.and_eq_true] at h
  exact ⟨h.1.1.1, h.1.1.2, h.1.2, h.2⟩
theorem rd_eq : RdOk (kx X) .eq (rd2 (rEqA (kx X))) := RdOk.of2 rfl (fun H bt h a b x y w Q ok r1 r2 e q => by
  have e : (pEq a b).map W.bl = some w := e
  cases e1 : pEq a b with
  | none => rw [e1] at e; cases e
  | some c =>
    rw [e1] at e
    cases e
    rcases pEq_cases e1 with ⟨x', y', g, s, rfl⟩ | ⟨o, rfl⟩
    · obtain ⟨rfl, rfl⟩ := g _ _ _ _ _ _ r1 r2
      exact .inl ⟨s, q _ _ (post_flat rfl fun _ z => by cases z)⟩
    · obtain ⟨d1, d2, s1, s2⟩ := eqOk_and o
      exact .inr ⟨_, _, r1.dp d1, r2.dp d2, s1, s2, q _ _ (post_flat rfl fun _ z => by cases z)⟩) (two_of (fun a => by cases a <;> rfl) (by decide) (by decide) (fun _ _ => by simp) (by decide) (by decide))
theorem rd_ne : RdOk (kx X) .ne (rd2 (rNeA (kx X))) := RdOk.of2 rfl (fun H bt h a b x y w Q ok r1 r2 e q => by
  have e : ((pEq a b).map fun c => W.bl (!c)) = some w := e
  cases e1 : pEq a b with
  | none => rw [e1] at e; cases e
  | some c =>
    rw [e1] at e
    cases e
    rcases pEq_cases e1 with ⟨x', y', g, s, rfl⟩ | ⟨o, rfl⟩
    · obtain ⟨rfl, rfl⟩ := g _ _ _ _ _ _ r1 r2
      exact .inl ⟨s, q _ _ (post_flat rfl fun _ z => by cases z)⟩
    · obtain ⟨d1, d2, s1, s2⟩ := eqOk_and o
      exact .inr ⟨_, _, r1.dp d1, r2.dp d2, s1, s2, q _ _ (post_flat rfl fun _ z => by cases z)⟩) (two_of (fun a => by cases a <;> rfl) (by decide) (by decide) (fun _ _ => by simp) (by decide) (by decide))
end

/-! ### one argument -/
section
variable {X : Cx}
theorem one_of {p : Prim} (h : ∀ a b, pTwo p a b = none) (h0 : p ≠ .tupd) (h1 : p ≠ .lstd) (h2 : ∀ l u, p ≠ .sl l u) : ∀ ws, primF p ws ≠ none → ∃ a, ws = [a] := by
  intro ws n
  cases p <;> first
    | exact absurd rfl h0
    | exact absurd rfl h1
    | exact absurd rfl (h2 _ _)
    | (match ws, n with
       | [], n => exact absurd rfl n
       | [a], _ => exact ⟨a, rfl⟩
       | [a, b], n => first | exact absurd (h a b) n | exact absurd rfl n
       | _ :: _ :: _ :: _, n => exact absurd rfl n)
theorem rd_neg : RdOk (kx X) .neg (rd1 (L2.rU fun i => .int (-i))) := RdOk.of1 rfl (fun H bt h a x w Q ok r1 e q => by
  have e : pOne .neg a = some w := e
  cases a <;> cases e
  cases r1
  exact ⟨_, rfl, q _ _ (post_flat rfl fun _ z => by cases z)⟩) (one_of (fun a b => by cases a <;> cases b <;> rfl) (by decide) (by decide) (fun _ _ => by simp))
/-- a built-in's reading from the list of its arguments -/
def rA (K : KX) (f : W → Option W) : List V → L2.Hp → VK → Prop := fun vs H Q => ∃ bt h a x w, vs = [x] ∧ HeapOk K H bt h ∧ RepT K H bt h a x ∧ f a = some w ∧ ∀ v H', Post K false H H' bt h w v → Q v H'
theorem rd_one {p : Prim} {r : List V → L2.Hp → VK → Prop} (raw : p.raw = false) (g : ∀ (H : L2.Hp) (bt : Gh) (h : Hp) (a : W) (x : V) (w : W) (Q : VK), HeapOk (kx X) H bt h → RepT (kx X) H bt h a x → pOne p a = some w → (∀ v H', Post (kx X) p.fresh H H' bt h w v → Q v H') → r [x] H Q)
    (n : ∀ ws, primF p ws ≠ none → ∃ a, ws = [a]) (e0 : ∀ a, primF p [a] = pOne p a) : RdOk (kx X) p r := by
  intro H bt h ws vs w Q ok rl e q
  obtain ⟨a, rfl⟩ := n ws (by rw [e]; simp)
  rw [raw] at rl
  obtain ⟨x, rfl, r1⟩ := RepTL.one rl
  exact g H bt h a x w Q ok r1 (by rw [← e0]; exact e) q
def rLenA (K : KX) : List V → L2.Hp → VK → Prop := fun xs H Q => (∃ p ys, xs = [.ref p] ∧ (SqL K H p ys ∨ SqT K H p ys) ∧ Q (.int ys.length) H) ∨ ∃ z, xs = [.str z] ∧ z.length ≤ sizeLine ∧ Q (.int z.length) H
theorem call_lenA : CallR X (.builtin "len") (rLenA (kx X)) := L2.call_len_seq.or L2.call_len_str
theorem rd_len : RdOk (kx X) .len (rLenA (kx X)) := rd_one rfl (fun H bt h a x w Q ok r1 e q => by
  have e : (seqLen a).map (fun n => W.int n) = some w := e
  cases a with
  | lst ws =>
    obtain ⟨a1, vs, rfl, h1, l1⟩ := r1
    cases e
    rw [l1.length] at q
    exact .inl ⟨_, vs, rfl, .inl (.of h1), q _ _ (post_flat rfl fun _ z => by cases z)⟩
  | slst ws =>
    obtain ⟨a1, vs, rfl, h1, l1⟩ := r1
    cases e
    rw [l1.length] at q
    exact .inl ⟨_, vs, rfl, .inl h1.sq, q _ _ (post_flat rfl fun _ z => by cases z)⟩
  | tup ws =>
    obtain ⟨a1, vs, rfl, h1, l1⟩ := r1
    cases e
    rw [l1.length] at q
    exact .inl ⟨_, vs, rfl, .inr h1, q _ _ (post_flat rfl fun _ z => by cases z)⟩
  | str z =>
    cases r1
    simp only [seqLen] at e
    split at e
    · cases e
      exact .inr ⟨_, rfl, okLen_le (by assumption), q _ _ (post_flat rfl fun _ z => by cases z)⟩
    · cases e
  | set _ => cases e
  | dic _ _ => exact r1.elim
  | _ => cases e) (one_of (fun a b => by cases a <;> cases b <;> rfl) (by decide) (by decide) (fun _ _ => by simp)) (fun _ => rfl)
theorem rd_int1 : RdOk (kx X) .int1 (fun xs H Q => (∃ i, xs = [.int i] ∧ Q (.int i) H) ∨ ∃ k, xs = [.bl k] ∧ Q (.int (if k then 1 else 0)) H) := rd_one rfl (fun H bt h a x w Q ok r1 e q => by
  cases a with
  | int i =>
    cases r1; cases e
    exact .inl ⟨_, rfl, q _ _ (post_flat rfl fun _ z => by cases z)⟩
  | bl i =>
    cases r1; cases e
    exact .inr ⟨_, rfl, q _ _ (post_flat rfl fun _ z => by cases z)⟩
  | _ => cases e) (one_of (fun a b => by cases a <;> cases b <;> rfl) (by decide) (by decide) (fun _ _ => by simp)) (fun _ => rfl)
theorem rd_abs : RdOk (kx X) .abs (fun xs H Q => ∃ i, xs = [.int i] ∧ Q (.int (if i < 0 then -i else i)) H) := rd_one rfl (fun H bt h a x w Q ok r1 e q => by
  cases a with
  | int i =>
    cases r1; cases e
    exact ⟨_, rfl, q _ _ (post_flat rfl fun _ z => by cases z)⟩
  | _ => cases e) (one_of (fun a b => by cases a <;> cases b <;> rfl) (by decide) (by decide) (fun _ _ => by simp)) (fun _ => rfl)
theorem rd_str1 : RdOk (kx X) .str1 (fun xs H Q => ∃ i, xs = [.int i] ∧ i.natAbs.log2 < 1920 ∧ Q (.str (toString i)) H) := rd_one rfl (fun H bt h a x w Q ok r1 e q => by
  cases a with
  | int i =>
    cases r1
    simp only [pOne] at e
    split at e
    · cases e
      exact ⟨_, rfl, by assumption, q _ _ (post_flat rfl fun _ z => by cases z)⟩
    · cases e
  | _ => cases e) (one_of (fun a b => by cases a <;> cases b <;> rfl) (by decide) (by decide) (fun _ _ => by simp)) (fun _ => rfl)
theorem items_seq {K : KX} {H : L2.Hp} {bt : Gh} {h : Hp} {a : W} {x : V} {ws : List W} (r : RepT K H bt h a x) (e : items a = some ws) : ∃ p ys, x = .ref p ∧ (SqL K H p ys ∨ SqT K H p ys) ∧ RepL K H bt h ws ys := by
  cases a with
  | lst us =>
    obtain ⟨a1, vs, rfl, h1, l1⟩ := r
    cases e
    exact ⟨_, vs, rfl, .inl (.of h1), l1⟩
  | slst us =>
    obtain ⟨a1, vs, rfl, h1, l1⟩ := r
    cases e
    exact ⟨_, vs, rfl, .inl h1.sq, l1⟩
  | tup us =>
    obtain ⟨a1, vs, rfl, h1, l1⟩ := r
    cases e
    exact ⟨_, vs, rfl, .inr h1, l1⟩
  | _ => cases e
theorem rd_list1 : RdOk (kx X) .list1 (fun xs H Q => ∃ p ys, xs = [.ref p] ∧ (SqL (kx X) H p ys ∨ SqT (kx X) H p ys) ∧ ∀ l, H l = none → Q (.ref l) (upd H l (.lst ys))) := rd_one rfl (fun H bt h a x w Q ok r1 e q => by
  have e : (items a).map W.lst = some w := e
  cases e1 : items a with
  | none => rw [e1] at e; cases e
  | some ws =>
    rw [e1] at e
    cases e
    obtain ⟨p, ys, rfl, sq, l⟩ := items_seq r1 e1
    exact ⟨p, ys, rfl, sq, fun l' n => q _ _ (post_newL n l)⟩) (one_of (fun a b => by cases a <;> cases b <;> rfl) (by decide) (by decide) (fun _ _ => by simp)) (fun _ => rfl)
theorem rd_tuple1 : RdOk (kx X) .tuple1 (fun xs H Q => ∃ p ys, xs = [.ref p] ∧ ((SqL (kx X) H p ys ∧ ∀ l, H l = none → Q (.ref l) (upd H l (.tup ys))) ∨ (SqT (kx X) H p ys ∧ Q (.ref p) H))) := rd_one rfl (fun H bt h a x w Q ok r1 e q => by
  have e : (items a).map W.tup = some w := e
  cases e1 : items a with
  | none => rw [e1] at e; cases e
  | some ws =>
    rw [e1] at e
    cases e
    obtain ⟨p, ys, rfl, sq, l⟩ := items_seq r1 e1
    rcases sq with sq | sq
    · exact ⟨p, ys, rfl, .inl ⟨sq, fun l' n => q _ _ (post_newT ok n l)⟩⟩
    · exact ⟨p, ys, rfl, .inr ⟨sq, q _ _ (post_flat ⟨p, ys, rfl, sq, l⟩ fun _ z => by cases z)⟩⟩) (one_of (fun a b => by cases a <;> cases b <;> rfl) (by decide) (by decide) (fun _ _ => by simp)) (fun _ => rfl)
theorem allBl_vals {K : KX} {H : L2.Hp} {bt : Gh} {h : Hp} : ∀ {ws : List W} {bs : List Bool} {vs : List V}, allBl ws = some bs → RepL K H bt h ws vs → vs = bs.map V.bl
  | [], bs, vs, e, r => by
    cases e
    exact r
  | w :: ws, bs, vs, e, r => by
    obtain ⟨v, t, rfl, r1, r2⟩ := r
    cases w <;> first | (simp [allBl] at e; done) | skip
    simp only [allBl, Option.map_eq_some_iff] at e
    obtain ⟨bs', e', rfl⟩ := e
    rw [allBl_vals e' r2]
    cases r1
    rfl
theorem allInt_vals {K : KX} {H : L2.Hp} {bt : Gh} {h : Hp} : ∀ {ws : List W} {bs : List Int} {vs : List V}, allInt ws = some bs → RepL K H bt h ws vs → vs = bs.map V.int
  | [], bs, vs, e, r => by
    cases e
    exact r
  | w :: ws, bs, vs, e, r => by
    obtain ⟨v, t, rfl, r1, r2⟩ := r
    cases w <;> first | (simp [allInt] at e; done) | skip
    simp only [allInt, Option.map_eq_some_iff] at e
    obtain ⟨bs', e', rfl⟩ := e
    rw [allInt_vals e' r2]
    cases r1
    rfl
theorem allStr_vals {K : KX} {H : L2.Hp} {bt : Gh} {h : Hp} : ∀ {ws : List W} {bs : List Str} {vs : List V}, allStr ws = some bs → RepL K H bt h ws vs → vs = bs.map V.str
  | [], bs, vs, e, r => by
    cases e
    exact r
  | w :: ws, bs, vs, e, r => by
    obtain ⟨v, t, rfl, r1, r2⟩ := r
    cases w <;> first | (simp [allStr] at e; done) | skip
    simp only [allStr, Option.map_eq_some_iff] at e
    obtain ⟨bs', e', rfl⟩ := e
    rw [allStr_vals e' r2]
    cases r1
    rfl
theorem rd_all1 : RdOk (kx X) .all1 (L2.rAll (kx X)) := rd_one rfl (fun H bt h a x w Q ok r1 e q => by
  cases a <;> first | (cases e; done) | skip
  obtain ⟨a1, vs, rfl, h1, l1⟩ := repT_lst r1
  simp only [pOne, Option.map_eq_some_iff] at e
  obtain ⟨bs, e, rfl⟩ := e
  cases allBl_vals e l1
  exact ⟨a1, bs, rfl, .of h1, q _ _ (post_flat rfl fun _ z => by cases z)⟩) (one_of (fun a b => by cases a <;> cases b <;> rfl) (by decide) (by decide) (fun _ _ => by simp)) (fun _ => rfl)
theorem rd_any1 : RdOk (kx X) .any1 (L2.rAny (kx X)) := rd_one rfl (fun H bt h a x w Q ok r1 e q => by
  cases a <;> first | (cases e; done) | skip
  obtain ⟨a1, vs, rfl, h1, l1⟩ := repT_lst r1
  simp only [pOne, Option.map_eq_some_iff] at e
  obtain ⟨bs, e, rfl⟩ := e
  cases allBl_vals e l1
  exact ⟨a1, bs, rfl, .of h1, q _ _ (post_flat rfl fun _ z => by cases z)⟩) (one_of (fun a b => by cases a <;> cases b <;> rfl) (by decide) (by decide) (fun _ _ => by simp)) (fun _ => rfl)
theorem rd_sum1 : RdOk (kx X) .sum1 (L2.rSum (kx X)) := rd_one rfl (fun H bt h a x w Q ok r1 e q => by
  cases a <;> first | (cases e; done) | skip
  obtain ⟨a1, vs, rfl, h1, l1⟩ := repT_lst r1
  simp only [pOne, Option.map_eq_some_iff] at e
  obtain ⟨bs, e, rfl⟩ := e
  cases allInt_vals e l1
  exact ⟨a1, bs, rfl, .of h1, q _ _ (post_flat rfl fun _ z => by cases z)⟩) (one_of (fun a b => by cases a <;> cases b <;> rfl) (by decide) (by decide) (fun _ _ => by simp)) (fun _ => rfl)
theorem rd_min1 : RdOk (kx X) .min1 (L2.rMin (kx X)) := rd_one rfl (fun H bt h a x w Q ok r1 e q => by
  cases a <;> first | (cases e; done) | skip
  obtain ⟨a1, vs, rfl, h1, l1⟩ := repT_lst r1
  simp only [pOne] at e
  cases e1 : allInt _ with
  | none => rw [e1] at e; cases e
  | some bs =>
    rw [e1] at e
    cases allInt_vals e1 l1
    simp only [Option.bind_some, Option.map_eq_some_iff] at e
    obtain ⟨m, em, rfl⟩ := e
    obtain ⟨m1, m2⟩ := List.min?_eq_some_iff.mp em
    refine ⟨a1, bs, rfl, .of h1, List.length_pos_of_mem m1, fun m' h1' h2' => ?_⟩
    have : m' = m := Int.le_antisymm (h2' m m1) (m2 m' h1')
    subst this
    exact q _ _ (post_flat rfl fun _ z => by cases z)) (one_of (fun a b => by cases a <;> cases b <;> rfl) (by decide) (by decide) (fun _ _ => by simp)) (fun _ => rfl)
theorem rd_max1 : RdOk (kx X) .max1 (L2.rMax (kx X)) := rd_one rfl (fun H bt h a x w Q ok r1 e q => by
  cases a <;> first | (cases e; done) | skip
  obtain ⟨a1, vs, rfl, h1, l1⟩ := repT_lst r1
  simp only [pOne] at e
  cases e1 : allInt _ with
  | none => rw [e1] at e; cases e
  | some bs =>
    rw [e1] at e
    cases allInt_vals e1 l1
    simp only [Option.bind_some, Option.map_eq_some_iff] at e
    obtain ⟨m, em, rfl⟩ := e
    obtain ⟨m1, m2⟩ := List.max?_eq_some_iff.mp em
    refine ⟨a1, bs, rfl, .of h1, List.length_pos_of_mem m1, fun m' h1' h2' => ?_⟩
    have : m' = m := Int.le_antisymm (m2 m' h1') (h2' m m1)
    subst this
    exact q _ _ (post_flat rfl fun _ z => by cases z)) (one_of (fun a b => by cases a <;> cases b <;> rfl) (by decide) (by decide) (fun _ _ => by simp)) (fun _ => rfl)
end
end Ow

/-! S1: set(x), x a list or a tuple, of whatever can be put in one after the other. -/
namespace SetF
open PySem PySem.Spec PyProof.Rows
open L2 (SetTR SetR Got IsT)
section
variable {P : Program} {w : World} {A : Around} {E : Value → Shared → Prop} {s : Shared}
/-- what the set is like when i items are in, and how one more goes in -/
structure Feed (P : Program) (w : World) (A : Around) (S I : Addr) (n : Nat) (Pv : Nat → Value → Prop) (J : Nat → Heap → Prop) : Prop where
  keep : ∀ i h h', J i h → (∀ b o, b ≠ I → h.get? b = some o → h'.get? b = some o) → J i h'
  put : ∀ i v (u : Shared) (Q : Bool → Shared → Prop) (E : Value → Shared → Prop), i < n → Pv i v → J i u.heap →
    (∀ r h' k, J (i + 1) h' → (∀ b, b ≠ S → h'.get? b = u.heap.get? b) → Q r { u with heap := h', toks := u.toks + k }) → wpAny (model P w) A (setAdd S v) Q E u
theorem feed_loop {I : Addr} {fp : List Addr} {G : Array GenState → Array GenState → Prop} {n : Nat} {Pv : Nat → Value → Prop} {St : Nat → Shared → Prop} {R : Result → Shared → Prop}
    (W : WalksS P w A.in1 I fp [I] G n Pv St) {S : Addr} (hS : S ∉ fp) {J : Nat → Heap → Prop} (D : Feed P w A.in1 S I n Pv J) :
    ∀ (k i : Nat) (u : Shared), n - i = k → i ≤ n → St i u → J i u.heap → (∀ u', Moved [S, I] G u u' → J n u'.heap → R (.ok (.ret .none)) u') → codeAny (model P w) A (.builtin "set.update.loop" ⟨[.ref S, .ref I], []⟩) R u := by
  have hI : I ∈ fp := W.sub I (List.mem_singleton.mpr rfl)
  have hSI : S ≠ I := fun e => hS (e ▸ hI)
  have sub1 : ∀ b ∈ [I], b ∈ [S, I] := fun b hb => List.mem_cons_of_mem _ hb
  have stay : ∀ {i : Nat} {u u' : Shared}, Moved [I] G u u' → J i u.heap → J i u'.heap := fun {i u u'} m j =>
    D.keep _ _ _ j fun b o hb e => m.heap b o (fun z => hb (List.mem_singleton.mp z)) e
  intro k
  induction k with
  | zero =>
    intro i u hk hi hst hJ hR
    obtain rfl : i = n := by omega
    refine codeAny_builtin F.entry_set_update_loop ?_
    rw [Around.under_plainId F.plain_set_update_loop _]
    show wpAny _ A.in1 (pyNext (.ref I) >>= _) _ _ u
    exact wpAny_bind (W.done u _ _ hst fun u' m => wpAny_pure (hR u' (m.mono sub1) (stay m hJ)))
  | succ k ih =>
    intro i u hk hi hst hJ hR
    have hlt : i < n := by omega
    refine codeAny_builtin F.entry_set_update_loop ?_
    rw [Around.under_plainId F.plain_set_update_loop _]
    show wpAny _ A.in1 (pyNext (.ref I) >>= _) _ _ u
    refine wpAny_bind (W.item i u _ _ hlt hst fun v u' hP hst' m => ?_)
    show wpAny _ A.in1 (holding [v] (setAdd S v) >>= _) _ _ u'
    refine wpAny_bind (wpAny_holding (D.put i v u' _ _ hlt hP (stay m hJ) fun r h' c hJ' same => ?_))
    refine wpAny_pure ⟨plainId_quiet F.plain_set_update_loop _, ih (i + 1) _ (by omega) hlt (W.frame _ u' _ _ hst' (Nat.le_add_right _ _) fun b hb o e => ?_) hJ' fun u2 m2 hJ2 => hR u2 (Moved.trans W.gtrans ((m.mono sub1).then_heap (Nat.le_add_right _ _) fun b o hb e => ?_) m2) hJ2⟩
    · rw [same b fun z => hS (z ▸ hb)]
      exact e
    · rw [same b fun z => hb (by rw [z]; exact List.mem_cons_self ..)]
      exact e

set_option profiler true
set_option profiler.threshold 2000
set_option maxHeartbeats 8000000 in
/-- set(x), x a list -/
theorem call_list {x : Addr} {items : Array Value} {Q : Value → Shared → Prop} (hh : A.handled = none) (hx : s.heap.IsList x items) {J : Nat → Heap → Prop}
    (h0 : ∀ h1, (∀ b o, s.heap.get? b = some o → h1.get? b = some o) → h1.get? s.heap.objs.size = some { cls := .type "set", dict := none, data := .set #[] 0 (.fresh 0 0 (!w.params.followText "set-order")) } → J 0 h1)
    (D : ∀ A' : Around, A'.units ≤ A.units + 4 → Feed P w A' s.heap.objs.size (s.heap.objs.size + 1) items.size (fun i v => items[i]? = some v) J)
    (hQ : ∀ h1 k, J items.size h1 → (∀ b o, s.heap.get? b = some o → h1.get? b = some o) → Q (.ref s.heap.objs.size) { s with heap := h1, toks := k }) :
    wpAny (model P w) A (call (.type "set") [.ref x]) Q E s := by
  obtain ⟨c, tl, hmro⟩ := F.called_set.mro
  have f1 := F.called_set.made
  have f2 := F.called_set.sub
  refine wpAny_call (codeAny_of_tree ?_)
  show wpAny _ _ (callAny (.type "set") _) _ _ _
  refine wpAny_pure ⟨Code.quiet_builtin _ (by decide +kernel), codeAny_builtin F.entry_type_call ?_⟩
  rw [Around.under_plain (weight_type_call_type "set" [.ref x] []) rfl]
  have f3 := F.called_set.notType
  have f4 := F.called_set.canCreate
  have f5 := F.typeCall_set_1 (.ref x)
  repeat (any_goals (first | assumption | wp_step))
  refine codeAny_mono (L2.code_set_led1 (.ref x) (E := E) (Q₁ := fun v u => v = .ref s.heap.objs.size ∧ u = { s with heap := s.heap.push { cls := .type "set", dict := none, data := .set #[] 0 (.fresh 0 0 (!w.params.followText "set-order")) } }) ⟨rfl, rfl⟩) fun r u hr => ?_
  cases r with
  | error e => exact hr
  | ok fl =>
    cases fl with
    | ret v =>
      obtain ⟨rfl, rfl⟩ := hr
      have a1 : (s.heap.push { cls := .type "set", dict := none, data := .set #[] 0 (.fresh 0 0 (!w.params.followText "set-order")) }).get? s.heap.objs.size = some { cls := .type "set", dict := none, data := .set #[] 0 (.fresh 0 0 (!w.params.followText "set-order")) } := Heap.get?_push_size _ rfl
      have a2 : Shared.TypeIs { s with heap := s.heap.push { cls := .type "set", dict := none, data := .set #[] 0 (.fresh 0 0 (!w.params.followText "set-order")) } } (.ref s.heap.objs.size) "set" := ⟨_, a1, rfl⟩
      have f6 := F.called_set.init.lookup
      have f7 := F.called_set.init.bind (.ref s.heap.objs.size)
      repeat (any_goals (first | assumption | wp_step))
      refine codeAny_mono (codeAny_call_builtin (R := wants (fun r u => r = .none ∧ ∃ h1 k, u = { s with heap := h1, toks := k } ∧ J items.size h1 ∧ ∀ b o, s.heap.get? b = some o → h1.get? b = some o) E) F.called_set.init.plain F.entry_set_init (check_set_init_1 a2 ?_)) fun r2 u2 hr2 => ?_
      · obtain ⟨ox, b1, b2, nx, b3⟩ := hx
        obtain ⟨c1, c2, c3, c4⟩ := ox
        simp only at b2 b3
        subst b2 b3
        have b4 : (s.heap.push { cls := .type "set", dict := none, data := .set #[] 0 (.fresh 0 0 (!w.params.followText "set-order")) }).get? x = some { cls := .type "list", dict := c2, data := .seq items nx, slots := c4 } := Heap.get?_push_of_some _ b1
        have f8 := F.sub_list_set
        have f9 := F.sub_list_frozenset
        have f10 : (Value.type "list" == Value.type "dict") = false := by decide
        have b5 : (s.heap.push { cls := .type "set", dict := none, data := .set #[] 0 (.fresh 0 0 (!w.params.followText "set-order")) }).IsList x items := ⟨_, b4, rfl, nx, rfl⟩
        unfold Builtin.«set.__init__» noKeywords Builtin.Frozenset.updateFrom
        generalize hit : pyIter = PI
        wp_walk
        subst hit
        refine wpAny_pyIter_list b5 ?_
        refine wpAny_bind (wpAny_runValue ?_)
        have z1 : x < s.heap.objs.size := Heap.lt_size b1
        have z2 : (s.heap.push { cls := .type "set", dict := none, data := .set #[] 0 (.fresh 0 0 (!w.params.followText "set-order")) }).objs.size = s.heap.objs.size + 1 := Heap.size_push ..
        have z3 : x ≠ (s.heap.push { cls := .type "set", dict := none, data := .set #[] 0 (.fresh 0 0 (!w.params.followText "set-order")) }).objs.size := by
          rw [z2]
          exact Nat.ne_of_lt (Nat.lt_succ_of_lt z1)
        have z4 : s.heap.objs.size ∉ [(s.heap.push { cls := .type "set", dict := none, data := .set #[] 0 (.fresh 0 0 (!w.params.followText "set-order")) }).objs.size, x] := by
          rw [z2]
          simp only [List.mem_cons, List.not_mem_nil, or_false, not_or]
          exact ⟨Nat.ne_of_lt (Nat.lt_succ_self _), Nat.ne_of_gt z1⟩
        have d3 := D A.in1.in1.in1 (by show A.units + 1 + 1 + 1 ≤ _; omega)
        rw [← z2] at d3
        refine feed_loop ((Walks.list (A := A.in1.in1.in1) (by simp [hh]) _ x z3 items).toS) z4 d3 items.size 0 _ (by omega) (Nat.zero_le _) ?q1 ?q2 ?q3
        case q1 => exact ⟨⟨_, Heap.get?_push_size _ rfl, rfl, rfl⟩, b5.push _⟩
        case q2 => exact h0 _ (fun b o e => Heap.get?_push_of_some _ (Heap.get?_push_of_some _ e)) (Heap.get?_push_of_some _ a1)
        intro u3 m hJ
        obtain ⟨g1, g2, g3, g4, g5⟩ := u3
        obtain rfl : g2 = s.gens := m.gens
        obtain rfl : g3 = s.drawn := m.drawn
        obtain rfl : g5 = s.os := m.os
        show wpAny _ _ _ _ _ _
        refine wpAny_pure ?_
        show wpAny _ _ (ret Value.none) _ _ _
        refine wpAny_pure ⟨rfl, g1, g4, rfl, hJ, fun b o e => m.heap b o (fun hb => ?_) (Heap.get?_push_of_some _ (Heap.get?_push_of_some _ e))⟩
        have := Heap.lt_size e
        rw [z2] at hb
        simp only [List.mem_cons, List.not_mem_nil, or_false] at hb
        rcases hb with rfl | rfl
        · exact absurd this (Nat.lt_irrefl _)
        · exact absurd this (Nat.not_lt_of_le (Nat.le_succ _))
      · cases r2 with
        | error e => exact hr2
        | ok fl2 =>
          cases fl2 with
          | ret v =>
            obtain ⟨rfl, h1, k, rfl, hJ, hk⟩ := hr2
            repeat (any_goals (first | assumption | wp_step))
            exact hQ h1 k hJ hk
          | _ => exact hr2.elim
    | _ => exact hr.elim


set_option maxHeartbeats 8000000 in
/-- set(x), x a tuple -/
theorem call_tuple {x : Addr} {items : Array Value} {Q : Value → Shared → Prop} (hh : A.handled = none) (hx : s.heap.IsTuple x items) {J : Nat → Heap → Prop}
    (h0 : ∀ h1, (∀ b o, s.heap.get? b = some o → h1.get? b = some o) → h1.get? s.heap.objs.size = some { cls := .type "set", dict := none, data := .set #[] 0 (.fresh 0 0 (!w.params.followText "set-order")) } → J 0 h1)
    (D : ∀ A' : Around, A'.units ≤ A.units + 4 → Feed P w A' s.heap.objs.size (s.heap.objs.size + 1) items.size (fun i v => items[i]? = some v) J)
    (hQ : ∀ h1 k, J items.size h1 → (∀ b o, s.heap.get? b = some o → h1.get? b = some o) → Q (.ref s.heap.objs.size) { s with heap := h1, toks := k }) :
    wpAny (model P w) A (call (.type "set") [.ref x]) Q E s := by
  obtain ⟨c, tl, hmro⟩ := F.called_set.mro
  have f1 := F.called_set.made
  have f2 := F.called_set.sub
  refine wpAny_call (codeAny_of_tree ?_)
  show wpAny _ _ (callAny (.type "set") _) _ _ _
  refine wpAny_pure ⟨Code.quiet_builtin _ (by decide +kernel), codeAny_builtin F.entry_type_call ?_⟩
  rw [Around.under_plain (weight_type_call_type "set" [.ref x] []) rfl]
  have f3 := F.called_set.notType
  have f4 := F.called_set.canCreate
  have f5 := F.typeCall_set_1 (.ref x)
  repeat (any_goals (first | assumption | wp_step))
  refine codeAny_mono (L2.code_set_led1 (.ref x) (E := E) (Q₁ := fun v u => v = .ref s.heap.objs.size ∧ u = { s with heap := s.heap.push { cls := .type "set", dict := none, data := .set #[] 0 (.fresh 0 0 (!w.params.followText "set-order")) } }) ⟨rfl, rfl⟩) fun r u hr => ?_
  cases r with
  | error e => exact hr
  | ok fl =>
    cases fl with
    | ret v =>
      obtain ⟨rfl, rfl⟩ := hr
      have a1 : (s.heap.push { cls := .type "set", dict := none, data := .set #[] 0 (.fresh 0 0 (!w.params.followText "set-order")) }).get? s.heap.objs.size = some { cls := .type "set", dict := none, data := .set #[] 0 (.fresh 0 0 (!w.params.followText "set-order")) } := Heap.get?_push_size _ rfl
      have a2 : Shared.TypeIs { s with heap := s.heap.push { cls := .type "set", dict := none, data := .set #[] 0 (.fresh 0 0 (!w.params.followText "set-order")) } } (.ref s.heap.objs.size) "set" := ⟨_, a1, rfl⟩
      have f6 := F.called_set.init.lookup
      have f7 := F.called_set.init.bind (.ref s.heap.objs.size)
      repeat (any_goals (first | assumption | wp_step))
      refine codeAny_mono (codeAny_call_builtin (R := wants (fun r u => r = .none ∧ ∃ h1 k, u = { s with heap := h1, toks := k } ∧ J items.size h1 ∧ ∀ b o, s.heap.get? b = some o → h1.get? b = some o) E) F.called_set.init.plain F.entry_set_init (check_set_init_1 a2 ?_)) fun r2 u2 hr2 => ?_
      · obtain ⟨ox, b1, b2, nx, b3⟩ := hx
        obtain ⟨c1, c2, c3, c4⟩ := ox
        simp only at b2 b3
        subst b2 b3
        have b4 : (s.heap.push { cls := .type "set", dict := none, data := .set #[] 0 (.fresh 0 0 (!w.params.followText "set-order")) }).get? x = some { cls := .type "tuple", dict := c2, data := .seq items nx, slots := c4 } := Heap.get?_push_of_some _ b1
        have f8 := F.sub_tuple_set
        have f9 := F.sub_tuple_frozenset
        have f10 : (Value.type "tuple" == Value.type "dict") = false := by decide
        have b5 : (s.heap.push { cls := .type "set", dict := none, data := .set #[] 0 (.fresh 0 0 (!w.params.followText "set-order")) }).IsTuple x items := ⟨_, b4, rfl, nx, rfl⟩
        unfold Builtin.«set.__init__» noKeywords Builtin.Frozenset.updateFrom
        generalize hit : pyIter = PI
        wp_walk
        subst hit
        refine wpAny_pyIter_tuple b5 ?_
        refine wpAny_bind (wpAny_runValue ?_)
        have z1 : x < s.heap.objs.size := Heap.lt_size b1
        have z2 : (s.heap.push { cls := .type "set", dict := none, data := .set #[] 0 (.fresh 0 0 (!w.params.followText "set-order")) }).objs.size = s.heap.objs.size + 1 := Heap.size_push ..
        have z3 : x ≠ (s.heap.push { cls := .type "set", dict := none, data := .set #[] 0 (.fresh 0 0 (!w.params.followText "set-order")) }).objs.size := by
          rw [z2]
          exact Nat.ne_of_lt (Nat.lt_succ_of_lt z1)
        have z4 : s.heap.objs.size ∉ [(s.heap.push { cls := .type "set", dict := none, data := .set #[] 0 (.fresh 0 0 (!w.params.followText "set-order")) }).objs.size, x] := by
          rw [z2]
          simp only [List.mem_cons, List.not_mem_nil, or_false, not_or]
          exact ⟨Nat.ne_of_lt (Nat.lt_succ_self _), Nat.ne_of_gt z1⟩
        have d3 := D A.in1.in1.in1 (by show A.units + 1 + 1 + 1 ≤ _; omega)
        rw [← z2] at d3
        refine feed_loop ((Walks.tuple (A := A.in1.in1.in1) (by simp [hh]) _ x z3 items).toS) z4 d3 items.size 0 _ (by omega) (Nat.zero_le _) ?q1 ?q2 ?q3
        case q1 => exact ⟨⟨_, Heap.get?_push_size _ rfl, rfl, rfl⟩, b5.push _⟩
        case q2 => exact h0 _ (fun b o e => Heap.get?_push_of_some _ (Heap.get?_push_of_some _ e)) (Heap.get?_push_of_some _ a1)
        intro u3 m hJ
        obtain ⟨g1, g2, g3, g4, g5⟩ := u3
        obtain rfl : g2 = s.gens := m.gens
        obtain rfl : g3 = s.drawn := m.drawn
        obtain rfl : g5 = s.os := m.os
        show wpAny _ _ _ _ _ _
        refine wpAny_pure ?_
        show wpAny _ _ (ret Value.none) _ _ _
        refine wpAny_pure ⟨rfl, g1, g4, rfl, hJ, fun b o e => m.heap b o (fun hb => ?_) (Heap.get?_push_of_some _ (Heap.get?_push_of_some _ e))⟩
        have := Heap.lt_size e
        rw [z2] at hb
        simp only [List.mem_cons, List.not_mem_nil, or_false] at hb
        rcases hb with rfl | rfl
        · exact absurd this (Nat.lt_irrefl _)
        · exact absurd this (Nat.not_lt_of_le (Nat.le_succ _))
      · cases r2 with
        | error e => exact hr2
        | ok fl2 =>
          cases fl2 with
          | ret v =>
            obtain ⟨rfl, h1, k, rfl, hJ, hk⟩ := hr2
            repeat (any_goals (first | assumption | wp_step))
            exact hQ h1 k hJ hk
          | _ => exact hr2.elim
    | _ => exact hr.elim
end
end SetF

/-! S3: sets of rows and of whole numbers: made of lists and tuples, sorted, counted. -/
namespace SetF
open PySem PySem.Spec PyProof.Rows
open L2 (SetTR SetR Got IsT isT_keep add_at setTR_fresh setR_add_hashed setR_new_at)
section
variable {P : Program} {w : World} {A : Around} {E : Value → Shared → Prop} {s : Shared}
/-- rows are put in -/
theorem feed_rows {items : Array Value} (ks : List (Addr × List Int)) (hi : items.toList = ks.map fun p => Value.ref p.1) (hk : ∀ p ∈ ks, IsT P w s.heap p.2 p.1) (hfew : ks.length < 64) {A' : Around} (hu : A'.units < cLine) :
    Feed P w A' s.heap.objs.size (s.heap.objs.size + 1) items.size (fun i v => items[i]? = some v) fun i h => (∃ L es ep t, SetTR P w h s.heap.objs.size L es ep t ∧ Got ks i L) ∧ ∀ b o, s.heap.get? b = some o → h.get? b = some o where
  keep := fun i h h' ⟨⟨L, es, ep, t, R, g⟩, k⟩ hb => by
    have k' : ∀ b o, s.heap.get? b = some o → h'.get? b = some o := fun b o e => hb b o (fun z => by
      have := Heap.lt_size e
      rw [z] at this
      exact absurd this (Nat.not_lt_of_le (Nat.le_succ _))) (k b o e)
    refine ⟨⟨L, es, ep, t, R.keep (fun o e => hb _ o (Nat.ne_of_lt (Nat.lt_succ_self _)) e) fun p hp => isT_keep (hk p (List.mem_of_mem_take (g.sub p hp))) k', g⟩, k'⟩
  put := fun i v u Q E hlt hv ⟨⟨L, es, ep, t, R, g⟩, k⟩ hQ => by
    have hv' : items.toList[i]? = some v := by rw [Array.getElem?_toList]; exact hv
    rw [hi, List.getElem?_map] at hv'
    obtain ⟨p, hp, rfl⟩ := Option.map_eq_some_iff.mp hv'
    have hx : IsT P w u.heap p.2 p.1 := isT_keep (hk p (List.mem_of_getElem? hp)) k
    unfold setAdd
    refine wpAny_holding ?_
    refine wpAny_bind (wpAny_pyHash_tuple hu hx ?_)
    have hgl := g.len
    have hil : i < ks.length := (List.getElem?_eq_some_iff.mp hp).1
    refine add_at (s := { u with toks := u.toks + (p.2.length + 1) }) R hx hu (by omega) fun r h' L' es' ep' t' same R' c1 c2 => ?_
    have k' : ∀ b o, s.heap.get? b = some o → h'.get? b = some o := fun b o e => (same.2 b (fun z => by
      have := Heap.lt_size e
      rw [z] at this
      exact absurd this (Nat.lt_irrefl _))).trans (k b o e)
    refine hQ r h' (p.2.length + 1) ⟨⟨L', es', ep', t', R', ?_⟩, k'⟩ fun b hb => same.2 b hb
    rcases Classical.em (p.2 ∈ L.map (·.2)) with c | c
    · rw [c1 c]
      exact g.same hp c
    · exact g.more hp (c2 c)
theorem ints_get : ∀ {vs : List Value} {ns : List Int} {i : Nat} {v : Value}, IntsAre vs ns → vs[i]? = some v → ∃ z t, ns[i]? = some z ∧ v = .int z t
  | _, _, i, v, .nil, e => by simp at e
  | _, _, 0, v, .cons k t r, e => ⟨k, t, rfl, by simpa using e.symm⟩
  | _, _, i + 1, v, .cons k t r, e => by
    obtain ⟨z, t2, h1, h2⟩ := ints_get r (i := i) (by simpa using e)
    exact ⟨z, t2, by simpa using h1, h2⟩
/-- whole numbers are put in -/
theorem feed_ints {items : Array Value} {ns : List Int} (hi : IntsAre items.toList ns) (hb : ns.length + 1 < scanBound) {A' : Around} :
    Feed P w A' s.heap.objs.size (s.heap.objs.size + 1) items.size (fun i v => items[i]? = some v) fun i h => ∃ c, c ≤ i ∧ SetR w h s.heap.objs.size (fun j => decide (j ∈ ns.take i)) c where
  keep := fun i h h' ⟨c, hc, R⟩ hk => ⟨c, hc, R.at fun o e => hk _ o (Nat.ne_of_lt (Nat.lt_succ_self _)) e⟩
  put := fun i v u Q E hlt hv ⟨c, hc, R⟩ hQ => by
    have hn : items.size = ns.length := by rw [← Array.length_toList]; exact hi.length
    obtain ⟨z, t, hz, rfl⟩ : ∃ z t, ns[i]? = some z ∧ v = .int z t := by
      have hv' : items.toList[i]? = some v := by rw [Array.getElem?_toList]; exact hv
      exact ints_get hi hv'
    unfold setAdd
    refine wpAny_holding ?_
    refine wpAny_bind ((intKind P w).pyHash (k := z) (intKind_is _ _ _ _) ?_)
    refine setR_add_hashed (s := { u with toks := u.toks + 1 }) R (by omega) fun h' same R' => ?_
    refine hQ _ h' 1 ⟨if decide (z ∈ ns.take i) = true then c else c + 1, by split <;> omega, R'.congr fun j => ?_⟩ fun b hb => same.2 b hb
    rw [List.take_add_one, hz]
    simp [List.mem_append]

/-! ### sorted -/
/-- the order of tuples of whole numbers -/
theorem le_rows : W.dataLe false (fun r : List Int => PyData.tuple (r.map .int)) = rowLe := by
  funext p q
  show (!W.dataLt (.tuple (q.map .int)) (.tuple (p.map .int))) = _
  rw [W.dataLt_tuple]
  show (!W.rowLt (q.map .int) (p.map .int)) = _
  rw [W.dataLt_ints]
  unfold rowLe
  by_cases h : q < p
  · have h' : ¬ p ≤ q := fun z => List.not_le.mpr h z
    simp [h, h']
  · have h' : p ≤ q := List.not_lt.mp h
    simp [h, h']
/-- a row as data -/
def encR (q : Addr × List Int) : PyData := .tuple (q.2.map .int)
theorem reads_ints {h : Heap} : ∀ {k : List Int} {vs : List Value}, ItemsAre (intKind P w) k vs → ReadsAll h vs (k.map .int) []
  | [], _, .nil => .nil
  | n :: k, _, .cons h1 r => by
    obtain ⟨t, rfl⟩ := Value.isInt_shape h1
    exact ReadsAll.cons (as := []) (bs := []) (.int n t) (reads_ints r)
theorem reads_row {h : Heap} {q : Addr × List Int} (x : IsT P w h q.2 q.1) : Reads h (.ref q.1) (encR q) [] := by
  obtain ⟨o, items, n, ho, hc, hd, hi⟩ := x
  exact .tuple ho hc hd (reads_ints hi)
theorem alike_rows (p q : Addr × List Int) : W.alike (encR p) (encR q) = true := by
  show W.alike (.tuple (p.2.map .int)) (.tuple (q.2.map .int)) = true
  rw [W.alike]
  exact W.alike_ints _ _
theorem depth_row (q : Addr × List Int) : (encR q).depth ≤ 1 := by
  show PyData.depth (.tuple (q.2.map .int)) ≤ 1
  rw [PyData.depth, W.depth_ints]
  omega
theorem each_rows {h : Heap} : ∀ (L : List (Addr × List Int)), (∀ q ∈ L, IsT P w h q.2 q.1) → W.EachIs (fun v (q : Addr × List Int) => v = Value.ref q.1 ∧ q ∈ L ∧ ∃ as, Reads h v (encR q) as) (L.map fun q => Value.ref q.1) L
  | [], _ => .nil
  | q :: L, hq => by
    refine .cons ⟨rfl, List.mem_cons_self .., [], reads_row (hq q (List.mem_cons_self ..))⟩ ?_
    exact (each_rows L fun r hr => hq r (List.mem_cons_of_mem _ hr)).mono fun v r ⟨h1, h2, h3⟩ => ⟨h1, List.mem_cons_of_mem _ h2, h3⟩
theorem each_refs {vs : List Value} {L : List (Addr × List Int)} (e : W.EachIs (fun v (q : Addr × List Int) => v = Value.ref q.1) vs L) : vs = L.map fun q => Value.ref q.1 := by
  induction e with
  | nil => rfl
  | cons h _ ih => rw [List.map_cons, ← ih, h]
/-- values that are rows can be sorted -/
theorem sorts_rows {L : List (Addr × List Int)} (hL : ∀ q ∈ L, IsT P w s.heap q.2 q.1) (hs : (∀ q ∈ L, q.2 ≠ []) ∨ L.length ≤ 1) (hu : A.units + 2 < cLine) : W.SortsAt P w A s (W.dataKind s.heap (L.map encR)) (L.map fun q => Value.ref q.1) := by
  have e : W.EachIs (fun v d => ∃ as, Reads s.heap v d as) (L.map fun q => Value.ref q.1) (L.map encR) := W.each_map (R := fun v d => ∃ as, Reads s.heap v d as) encR ((each_rows L hL).mono fun v q z => z.2.2)
  have al : W.AllAlike (L.map encR) := .of alike_rows
  by_cases hne : ∀ q ∈ L, q.2 ≠ []
  · refine W.SortsAt.data e al (.inl fun d hd => ?_) fun d hd => ?_
    · obtain ⟨q, hq, rfl⟩ := List.mem_map.mp hd
      cases hk : q.2 with
      | nil => exact absurd hk (hne q hq)
      | cons x r => exact ⟨.int x, r.map .int, by unfold encR; rw [hk]; rfl⟩
    · obtain ⟨q, hq, rfl⟩ := List.mem_map.mp hd
      have := depth_row q
      omega
  · have hlen : L.length ≤ 1 := hs.resolve_left hne
    obtain ⟨q, rfl⟩ : ∃ q, L = [q] := by
      cases L with
      | nil => exact absurd (fun q hq => by cases hq) hne
      | cons q r =>
        cases r with
        | nil => exact ⟨q, rfl⟩
        | cons _ _ => simp at hlen
    have hq0 : q.2 = [] := Classical.byContradiction fun z => hne fun r hr => by rw [List.mem_singleton.mp hr]; exact z
    refine ⟨fun v hv => ?_, tuples' true, ?_, fun h2 => absurd h2 (by simp)⟩
    · obtain ⟨d, hd, as, r⟩ := e.left v hv
      exact ⟨_, W.dataKind_some al hd r⟩
    · intro E x y a b Q ha hb hQ
      obtain ⟨d, as, hd, ra, rfl⟩ := W.dataKind_inv ha
      obtain ⟨d', as', hd', rb, rfl⟩ := W.dataKind_inv hb
      have e1 : encR q = .tuple [] := by unfold encR; rw [hq0]; rfl
      have hdt : d = .tuple [] := by
        obtain ⟨r, hr, rfl⟩ := List.mem_map.mp hd
        rw [List.mem_singleton.mp hr, e1]
      have hdt' : d' = .tuple [] := by
        obtain ⟨r, hr, rfl⟩ := List.mem_map.mp hd'
        rw [List.mem_singleton.mp hr, e1]
      subst hdt hdt'
      have hQ' : Q (W.dataLt (.tuple []) (.tuple [])) s := hQ
      rw [W.dataLt_tuple] at hQ'
      cases ra with
      | @tuple l o xs n _ _ h1 h2 h3 h4 =>
        cases rb with
        | @tuple l' o' xs' n' _ _ k1 k2 k3 k4 =>
          have n1 : xs.size = 0 := by simpa using SeqAt.ReadsAll.length _ _ _ h4
          have d0 : PyData.depthAll [] = 0 := by simp [PyData.depthAll]
          have n2 : xs'.size = 0 := by simpa using SeqAt.ReadsAll.length _ _ _ k4
          exact W.kat_lt h1 h3 k1 k3 (W.katLex_alike [] [] 0 _ _ _ _ h4 k4 rfl (by rw [d0]; omega) (fun _ _ x r t ex => nomatch ex) (by rw [n1, n2]; rfl) hQ')

/-- sorted(s), s a set of rows -/
theorem sorted_rows {a : Addr} {L : List (Addr × List Int)} {es : Array (Int × Value)} {ep : Nat} {t : SetTable} {Q : Value → Shared → Prop} (R : SetTR P w s.heap a L es ep t) (hh : A.handled = none) (hu : A.units + 8 < cLine) (hs : (∀ q ∈ L, q.2 ≠ []) ∨ L.length ≤ 1)
    (hQ : ∀ s' p (out : Array Value) (c : Nat) (L' : List (Addr × List Int)), (∀ b o, s.heap.get? b = some o → s'.heap.get? b = some o) → s'.gens = s.gens → s'.os = s.os → s.heap.objs.size ≤ p → s'.heap.get? p = some (seqObj "list" out c) →
      out.toList = L'.map (fun q => Value.ref q.1) → L'.Perm L → L'.map (·.2) = sortRows (L.map (·.2)) → Q (.ref p) s') : wpAny (model P w) A (call (.builtin "sorted") [.ref a]) Q E s := by
  obtain ⟨o, ho, hex, hd⟩ := R.ob
  have hfew := R.few
  have hsize := R.size
  refine Calls.call_function_entry kind_sorted plain_sorted entry_sorted (args_sorted1 _) ?_
  unfold Builtin.«sorted»
  refine wpAny_bind (m := checkCount "sorted" 1 1 _) (wpAny_pure ?_)
  refine wpAny_bind (L2.collect_set (A := A.in1) hh ⟨o, ho, hex.1, hd⟩ R.fits (by unfold scanBound; omega) R.tab.ris R.led fun s1 vs k1 hz g1 o1 pm => ?_)
  -- the values are the rows' addresses in some order
  have he : es.toList.map (·.2) = L.map fun q => Value.ref q.1 := by
    rw [R.rows]
    show (L.map _).map _ = _
    rw [List.map_map]
    rfl
  rw [he] at pm
  have inj : ∀ q ∈ L, ∀ r ∈ L, q.1 = r.1 → q = r := fun q hq r hr e => by
    have x1 := R.tup q hq
    rw [e] at x1
    exact Prod.ext e (x1.inj (R.tup r hr))
  obtain ⟨L1, eL, pL⟩ : ∃ L1 : List (Addr × List Int), vs = L1.map (fun q => Value.ref q.1) ∧ L1.Perm L := by
    have build : ∀ us : List Value, (∀ v ∈ us, ∃ q ∈ L, v = Value.ref q.1) → ∃ L1 : List (Addr × List Int), us = L1.map (fun q => Value.ref q.1) ∧ ∀ q ∈ L1, q ∈ L := by
      intro us
      induction us with
      | nil => exact fun _ => ⟨[], rfl, fun q hq => by cases hq⟩
      | cons v us ih =>
        intro hv
        obtain ⟨q, hq, e⟩ := hv v (List.mem_cons_self ..)
        obtain ⟨L1, e1, h1⟩ := ih fun u m => hv u (List.mem_cons_of_mem _ m)
        exact ⟨q :: L1, by rw [List.map_cons, ← e1, e], fun r hr => (List.mem_cons.mp hr).elim (fun z => z ▸ hq) (h1 r)⟩
    obtain ⟨L1, e1, h1⟩ := build vs fun v hv => by
      obtain ⟨q, hq, e⟩ := List.mem_map.mp (pm.mem_iff.mp hv)
      exact ⟨q, hq, e.symm⟩
    refine ⟨L1, e1, ?_⟩
    have nL : L.Nodup := L2.nodup_of_map R.nd
    have nref : (L.map fun q => Value.ref q.1).Nodup := List.pairwise_map.mpr (List.Pairwise.imp_of_mem (fun {q r} hq hr hne e => by
      injection e with e
      exact hne (inj q hq r hr e)) nL)
    rw [e1] at pm
    refine perm_of_same (L2.nodup_of_map (pm.nodup_iff.mpr nref)) nL fun q => ⟨h1 q, fun hq => ?_⟩
    obtain ⟨r, hr, e⟩ := List.mem_map.mp (pm.mem_iff.mpr (List.mem_map.mpr ⟨q, hq, rfl⟩))
    injection e with e
    exact inj r (h1 r hr) q hq e ▸ hr
  subst eL
  have hl1 : L1.length < 64 := by rw [pL.length_eq]; exact hfew
  refine wpAny_bind (wpAny_newList ?_ (by rw [List.length_map, sizeLine_eq]; omega))
  generalize hvs : L1.map (fun q => Value.ref q.1) = vs at *
  have hlist : (s1.heap.push (seqObj "list" vs.toArray 0)).get? s1.heap.objs.size = some (seqObj "list" vs.toArray 0) := Heap.get?_push_size _ rfl
  have tup : ∀ h', (∀ b o, s1.heap.get? b = some o → h'.get? b = some o) → ∀ q ∈ L1, IsT P w h' q.2 q.1 := fun h' hk q hq => isT_keep (R.tup q (pL.mem_iff.mp hq)) fun b u e => hk b u (k1 b u e)
  have er : W.EachIs (fun v (q : Addr × List Int) => v = Value.ref q.1) vs L1 := by
    rw [← hvs]
    exact (each_rows L1 (tup _ fun b u e => e)).mono fun v q z => z.1
  have hs1 : (∀ q ∈ L1, q.2 ≠ []) ∨ L1.length ≤ 1 := hs.imp (fun h q hq => h q (pL.mem_iff.mp hq)) fun h => by rw [pL.length_eq]; exact h
  have hsort := sorts_rows (P := P) (w := w) (A := A.in1.in1) (s := { s1 with heap := W.sortingHeap (s1.heap.push (seqObj "list" vs.toArray 0)) s1.heap.objs.size vs }) (tup _ fun b u e => by
    have hlt := Heap.lt_size e
    exact W.sortingHeap_old (Nat.ne_of_lt hlt) (Heap.get?_push_of_some _ e)) hs1 (by show A.units + 1 + 1 + 2 < cLine; omega)
  rw [hvs] at hsort
  refine wpAny_bind (wpAny_holding (wpAny_call_entry (s := { s1 with heap := s1.heap.push (seqObj "list" vs.toArray 0) }) slot_list_sort ⟨_, hlist, rfl⟩ entry_list_sort (W.list_sort_vals hlist hsort (by rw [← hvs, List.length_map, sizeLine_eq]; omega) ⟨.none, rfl, ?_⟩) (args_list_sort _)))
  obtain ⟨c, hc⟩ := sortedHeap_at (vs := vs) (out := (W.sortVals (W.dataKind (W.sortingHeap (s1.heap.push (seqObj "list" vs.toArray 0)) s1.heap.objs.size vs) (L1.map encR)) false vs vs).toArray) hlist
  have eo := W.sortVals_data (h' := W.sortingHeap (s1.heap.push (seqObj "list" vs.toArray 0)) s1.heap.objs.size vs) (R := fun v (q : Addr × List Int) => v = Value.ref q.1) (enc := encR) (bs := L1) false er (by
    rw [← hvs]
    exact (each_rows L1 (tup _ fun b u e => by
      have hlt := Heap.lt_size e
      exact W.sortingHeap_old (Nat.ne_of_lt hlt) (Heap.get?_push_of_some _ e))).mono fun v q z => z.2.2) (.of alike_rows)
  have e2 := each_refs eo
  have pL2 : (L1.mergeSort (W.dataLe false encR)).Perm L := (List.mergeSort_perm _ _).trans pL
  refine wpAny_pure ⟨_, rfl, hQ _ s1.heap.objs.size _ c (L1.mergeSort (W.dataLe false encR)) (fun b u e => ?_) g1 o1 hz hc (by rw [← e2]) pL2 ?_⟩
  · have q := k1 b u e
    have hlt := Heap.lt_size q
    show (sortedHeap (s1.heap.push (seqObj "list" vs.toArray 0)) s1.heap.objs.size vs _).get? b = some u
    rw [sortedHeap_old (Nat.ne_of_lt hlt) (by rw [size_push']; exact Nat.lt_succ_of_lt hlt)]
    exact Heap.get?_push_of_some _ q
  · have e3 : (L1.mergeSort (W.dataLe false encR)).map (·.2) = (L1.map (·.2)).mergeSort rowLe := List.map_mergeSort fun p _ q _ => by
      have := congrFun (congrFun le_rows p.2) q.2
      exact this
    refine sortRows_eq ?_ ((pL2.map (·.2)).nodup_iff.mpr R.nd) fun r => (pL2.map (·.2)).mem_iff
    rw [e3]
    exact List.pairwise_mergeSort rowLe_trans rowLe_total _
end
end SetF

/-! S4: the layer's rules for sets of rows and of whole numbers. -/
namespace SetF
open PySem PySem.Spec PyProof.Rows
open L2 (V SqL SqT Hp HO VK Cx CallR Inv Vals RelV upd SetTO SetO setTO_new setO_new SetTR SetR IsT)
section
variable {X : Cx}
theorem vals_rows : ∀ {ks : List (Addr × List Int)} {us : List Value}, Vals (ks.map fun p => V.ref p.1) us → us = ks.map fun p => Value.ref p.1 := L2.refs_of_vals
/-- set(x), x a list or a tuple of rows -/
def rSetRows (K : PySem.W.Frag) (P : Program) (w : World) : List V → Hp → VK → Prop := fun xs H Q => ∃ (l : Addr) (ks : List (Addr × List Int)), xs = [V.ref l] ∧ (SqL K H l (ks.map fun p => V.ref p.1) ∨ SqT K H l (ks.map fun p => V.ref p.1)) ∧ (∀ p ∈ ks, SqT K H p.1 (p.2.map V.int)) ∧ ks.length < 64 ∧
  ∀ a L, H a = none → (∀ p ∈ L, p ∈ ks) → (∀ p ∈ ks, p.2 ∈ L.map (·.2)) → (L.map (·.2)).Nodup → Q (.ref a) (upd H a (SetTO P w a L))
theorem cr_setRows (hc : X.calm = true) (hu : X.A.units + 64 < cLine) : CallR X (.type "set") (rSetRows X.K X.prog X.w) := by
  intro pins s σ H xs us Q I r h
  obtain ⟨l, ks, rfl, hl, hk, hf, q⟩ := h
  rw [Vals.ref1 r]
  have fresh : H s.heap.objs.size = none := I.hok.fresh (Nat.le_refl _)
  have kk : ∀ p ∈ ks, IsT X.prog X.w s.heap p.2 p.1 := fun p hp => I.isT (hk p hp)
  have fin : ∀ (items : Array Value), items.size = ks.length → ∀ (h1 : Heap) (k : Nat), ((∃ L es ep t, SetTR X.prog X.w h1 s.heap.objs.size L es ep t ∧ L2.Got ks items.size L) ∧ ∀ b o, s.heap.get? b = some o → h1.get? b = some o) → (∀ b o, s.heap.get? b = some o → h1.get? b = some o) →
      ∃ v H', Inv X pins σ H' { s with heap := h1, toks := k } ∧ RelV v (.ref s.heap.objs.size) ∧ Q v H' := fun items hsz h1 k hJ hk1 => by
    obtain ⟨⟨L, es, ep, t, R, g⟩, _⟩ := hJ
    rw [hsz] at g
    refine ⟨.ref s.heap.objs.size, upd H s.heap.objs.size (SetTO X.prog X.w s.heap.objs.size L), I.laid (t' := k) hk1 (Nat.le_refl _) (setTO_new R.t0), rfl, q _ L fresh (fun p hp => List.mem_of_mem_take (g.sub p hp)) (fun p hp => g.all p ?_) R.nd⟩
    rw [List.take_length]
    exact hp
  rcases hl with hl | hl
  · obtain ⟨its, rv, pl, hz⟩ := I.list hl
    have hi : its.toArray.toList = ks.map fun p => Value.ref p.1 := by simpa using vals_rows rv
    have hsz : its.toArray.size = ks.length := by
      have := congrArg List.length hi
      simpa using this
    exact call_list (I.ok.hd hc) pl.isList (fun h1 hk1 hn => ⟨⟨[], #[], 0, _, L2.setTR_fresh hn, L2.Got.zero ks⟩, hk1⟩) (fun A' hA => feed_rows ks hi kk hf (by omega)) fun h1 k hJ hk1 => fin _ hsz h1 k hJ hk1
  · obtain ⟨its, rv, pt, hz⟩ := I.tuple hl
    have hi : its.toArray.toList = ks.map fun p => Value.ref p.1 := by simpa using vals_rows rv
    have hsz : its.toArray.size = ks.length := by
      have := congrArg List.length hi
      simpa using this
    exact call_tuple (I.ok.hd hc) pt (fun h1 hk1 hn => ⟨⟨[], #[], 0, _, L2.setTR_fresh hn, L2.Got.zero ks⟩, hk1⟩) (fun A' hA => feed_rows ks hi kk hf (by omega)) fun h1 k hJ hk1 => fin _ hsz h1 k hJ hk1
/-- set(x), x a list or a tuple of whole numbers -/
def rSetInts (K : PySem.W.Frag) (w : World) : List V → Hp → VK → Prop := fun xs H Q => ∃ (l : Addr) (ns : List Int), xs = [V.ref l] ∧ (SqL K H l (ns.map V.int) ∨ SqT K H l (ns.map V.int)) ∧ ns.length < 4000 ∧
  ∀ a c, H a = none → c ≤ ns.length → Q (.ref a) (upd H a (SetO w a (fun j => decide (j ∈ ns)) c))
theorem cr_setInts (hc : X.calm = true) : CallR X (.type "set") (rSetInts X.K X.w) := by
  intro pins s σ H xs us Q I r h
  obtain ⟨l, ns, rfl, hl, hn, q⟩ := h
  rw [Vals.ref1 r]
  have fresh : H s.heap.objs.size = none := I.hok.fresh (Nat.le_refl _)
  have big : ns.length + 1 < scanBound := by unfold scanBound; omega
  have fin : ∀ (items : Array Value), items.size = ns.length → ∀ (h1 : Heap) (k : Nat), (∃ c, c ≤ items.size ∧ SetR X.w h1 s.heap.objs.size (fun j => decide (j ∈ ns.take items.size)) c) → (∀ b o, s.heap.get? b = some o → h1.get? b = some o) →
      ∃ v H', Inv X pins σ H' { s with heap := h1, toks := k } ∧ RelV v (.ref s.heap.objs.size) ∧ Q v H' := fun items hsz h1 k hJ hk1 => by
    obtain ⟨c, hcl, R⟩ := hJ
    rw [hsz] at hcl
    rw [hsz, List.take_length] at R
    exact ⟨.ref s.heap.objs.size, upd H s.heap.objs.size (SetO X.w s.heap.objs.size (fun j => decide (j ∈ ns)) c), I.laid (t' := k) hk1 (Nat.le_refl _) (setO_new R), rfl, q _ c fresh hcl⟩
  rcases hl with hl | hl
  · obtain ⟨its, rv, pl, hz⟩ := I.list hl
    have hi : IntsAre its.toArray.toList ns := by simpa using rv.ints
    have hsz : its.toArray.size = ns.length := by rw [← Array.length_toList]; exact hi.length
    exact call_list (I.ok.hd hc) pl.isList (fun h1 hk1 hn => ⟨0, Nat.le_refl _, L2.setR_new_at hn⟩) (fun A' hA => feed_ints hi big) fun h1 k hJ hk1 => fin _ hsz h1 k hJ hk1
  · obtain ⟨its, rv, pt, hz⟩ := I.tuple hl
    have hi : IntsAre its.toArray.toList ns := by simpa using rv.ints
    have hsz : its.toArray.size = ns.length := by rw [← Array.length_toList]; exact hi.length
    exact call_tuple (I.ok.hd hc) pt (fun h1 hk1 hn => ⟨0, Nat.le_refl _, L2.setR_new_at hn⟩) (fun A' hA => feed_ints hi big) fun h1 k hJ hk1 => fin _ hsz h1 k hJ hk1
/-- sorted(s), s a set of rows -/
def rSortRows (K : PySem.W.Frag) (P : Program) (w : World) : List V → Hp → VK → Prop := fun vs H Q => ∃ (a : Addr) (L : List (Addr × List Int)), vs = [V.ref a] ∧ H a = some (SetTO P w a L) ∧ (∀ p ∈ L, SqT K H p.1 (p.2.map V.int)) ∧ ((∀ q ∈ L, q.2 ≠ []) ∨ L.length ≤ 1) ∧
  ∀ (L' : List (Addr × List Int)) (p : Addr), L'.map (·.2) = sortRows (L.map (·.2)) → (∀ q ∈ L', q ∈ L) → H p = none → Q (.ref p) (upd H p (.lst (L'.map fun q => V.ref q.1)))
theorem cr_sortRows (hc : X.calm = true) (hu : X.A.units + 64 < cLine) : CallR X (.builtin "sorted") (rSortRows X.K X.prog X.w) := by
  intro pins s σ H vs us Q I r h
  obtain ⟨a, L, rfl, ha, hk, hs, q⟩ := h
  have R0 : L2.SetT0 X.prog X.w s.heap a L := (I.hok a _ ha).1
  obtain ⟨es, ep, t, R⟩ := R0.full fun p hp => I.isT (hk p hp)
  rw [Vals.ref1 r]
  refine sorted_rows R (I.ok.hd hc) (by omega) hs fun s' p out c L' k g o hp hg hout pm eq => ?_
  have few := R.few
  have hlen : (L'.map fun q => V.ref q.1).length ≤ sizeLine := by rw [List.length_map, pm.length_eq, sizeLine_eq]; omega
  have hn : H p = none := I.hok.fresh hp
  have hv : Vals (L'.map fun q => V.ref q.1) out.toList := by rw [hout]; exact L2.vals_of_refs L'
  have J : Inv X pins σ (upd H p (.lst (L'.map fun q => V.ref q.1))) { s with heap := s'.heap, gens := s'.gens, drawn := s'.drawn, toks := s'.toks } :=
    I.call (ch := []) (L2.Un.laid k hp hn) (I.hok.laid k hp ⟨hlen, out.toList, c, hv, hg⟩) (by rw [g]; exact I.bare) (fun _ z => nomatch z)
  have e : s' = { s with heap := s'.heap, gens := s'.gens, drawn := s'.drawn, toks := s'.toks } := by
    cases s'
    cases s
    cases o
    rfl
  rw [e]
  exact ⟨.ref p, _, J, rfl, q L' p eq (fun r hr => pm.mem_iff.mp hr) hn⟩
/-- len(s), s a set of rows -/
def rLenRows (P : Program) (w : World) : List V → Hp → VK → Prop := fun vs H Q => ∃ (a : Addr) (L : List (Addr × List Int)), vs = [V.ref a] ∧ H a = some (SetTO P w a L) ∧ Q (.int L.length) H
theorem cr_lenRows : CallR X (.builtin "len") (rLenRows X.prog X.w) := by
  intro pins s σ H vs us Q I r h
  obtain ⟨a, L, rfl, ha, q⟩ := h
  have R0 : L2.SetT0 X.prog X.w s.heap a L := (I.hok a _ ha).1
  obtain ⟨es, ep, t, ⟨o, ho, hex, hd⟩, hr, tab, nd, pl, led, room, few⟩ := R0.ex
  have hsz : es.size = L.length := by
    have := congrArg List.length hr
    unfold L2.rowsOf at this
    rwa [Array.length_toList, List.length_map] at this
  have hf : t.fits es.size = true := by
    have h1 := tab.sz
    rw [List.length_map] at h1
    unfold SetTable.fits SetTable.fill
    rw [tab.dm, Bool.and_eq_true, beq_iff_eq, decide_eq_true_eq]
    show t.place.size = es.size ∧ t.place.size + 0 ≤ t.mask
    omega
  rw [Vals.ref1 r]
  refine call_len_set ho hex hd hf (by omega) ⟨.int L.length, H, I.tok _, ⟨_, by rw [hsz]⟩, q⟩
def rLenInts (w : World) : List V → Hp → VK → Prop := fun vs H Q => ∃ (a : Addr) (S : Int → Bool) (n : Nat), vs = [V.ref a] ∧ H a = some (SetO w a S n) ∧ ∀ ns : List Int, ns.Nodup → (∀ k, k ∈ ns ↔ S k = true) → ns.length = n → Q (.int n) H
theorem cr_lenInts : CallR X (.builtin "len") (rLenInts X.w) := by
  intro pins s σ H vs us Q I r h
  obtain ⟨a, S, n, rfl, ha, q⟩ := h
  obtain ⟨o, es, ep, t, ho, hex, hd, g, nd, hm, hb, hf, hn, hr, hl⟩ := L2.setO_get I ha
  rw [Vals.ref1 r]
  have hb2 : es.size < 2 ^ 62 := by unfold scanBound at hb; omega
  refine call_len_set ho hex hd hf (by omega) ⟨.int n, H, I.tok _, ⟨_, by rw [hn]⟩, q (es.toList.map L2.keyOf) nd (fun k => (hm k).symm) (by rw [List.length_map, Array.length_toList, hn])⟩
end
end SetF

/-! S5: sorted(x), x a list or a tuple of rows or of whole numbers; a tuple times 0 or 1. -/
namespace SetF
open PySem PySem.Spec PyProof.Rows
open L2 (V SqL SqT Hp HO VK Cx CallR Inv Vals RelV upd SetTO SetO IsT isT_keep)
section
variable {P : Program} {w : World} {A : Around} {E : Value → Shared → Prop} {s : Shared}
theorem collect_tup {l : Addr} {vs : List Value} {Q : List Value → Shared → Prop} (hl : s.heap.IsTuple l vs.toArray) (hz : vs.length ≤ sizeLine)
    (h : Q vs { s with heap := (s.heap.push (seqObj "list" #[] 0)).update s.heap.objs.size (Obj.mapSeq (· ++ vs.toArray)) }) : wpAny (model P w) A (collect (.ref l)) Q E s := by
  obtain ⟨o, ho, hc, n, hd⟩ := id hl
  unfold collect
  refine wpAny_bind (wpAny_runValue (codeAny_builtin entry_proto_collect' ?_))
  show wpAny _ _ (do again (.builtin "list.__iadd__" ⟨[← newList [], .ref l], []⟩)) _ _ s
  refine wpAny_bind (wpAny_newList (wpAny_pure ⟨Code.quiet_builtin _ (by decide +kernel), codeAny_builtin entry_list_iadd' ?_⟩))
  show wpAny _ _ (Builtin.List.listExtendWith (.ref s.heap.objs.size) (.ref l) (.ref s.heap.objs.size)) _ _ { s with heap := s.heap.push (seqObj "list" #[] 0) }
  unfold Builtin.List.listExtendWith
  have g1 : (s.heap.push (seqObj "list" #[] 0)).get? l = some o := Heap.get?_push_of_some _ ho
  have g2 : (s.heap.push (seqObj "list" #[] 0)).get? s.heap.objs.size = some (seqObj "list" #[] 0) := Heap.get?_push_size _ rfl
  refine wpAny_bind (wpAny_typeOf (T := "tuple") ⟨o, g1, hc⟩ ?_)
  rw [if_pos (by rw [show (Value.type "tuple" == Value.type "tuple") = true from rfl, Bool.or_true])]
  refine wpAny_bind (listItems_at g1 hd (wpAny_bind (listItems_at (xs := #[]) (n := 0) g2 rfl ?_)))
  rw [if_neg (by simp)]
  refine wpAny_bind (listUpdate_at (xs := #[]) (n := 0) g2 rfl (wpAny_pure ?_) (Nat.zero_le _) (by show (#[] ++ vs.toArray).size ≤ sizeLine + 1; simp only [Array.size_append, List.size_toArray, List.length_nil]; omega))
  show wpAny (model P w) A (do
      let o ← load s.heap.objs.size
      match o.data with
      | .seq xs _ => pure xs.toList
      | _ => unsupported "internal:collect") Q E { s with heap := (s.heap.push (seqObj "list" #[] 0)).update s.heap.objs.size (Obj.mapSeq (· ++ vs.toArray)) }
  refine wpAny_bind (wpAny_load (get?_update_seq g2 _) ?_)
  show wpAny _ _ (pure ((#[] : Array Value) ++ vs.toArray).toList) Q E _
  rw [show ((#[] : Array Value) ++ vs.toArray).toList = vs by simp]
  exact wpAny_pure h
theorem sorted_seq {l : Addr} {vs : List Value} {κ : PyProof.Rows.KeyKind} {Q : Value → Shared → Prop} (hl : s.heap.IsList l vs.toArray ∨ s.heap.IsTuple l vs.toArray) (S : W.SortsAt P w A.in1.in1 { s with heap := W.sortingHeap (W.copyHeap s.heap vs) (s.heap.objs.size + 1) vs } κ vs) (hz : vs.length ≤ sizeLine)
    (h : Q (.ref (s.heap.objs.size + 1)) { s with heap := sortedAll s.heap vs (W.sortVals κ false vs vs).toArray }) : wpAny (model P w) A (call (.builtin "sorted") [.ref l]) Q E s := by
  rcases hl with hl | hl
  · exact W.sorted_vals hl S hz h
  · refine Calls.call_function_entry kind_sorted plain_sorted entry_sorted (args_sorted1 _) ?_
    unfold Builtin.«sorted»
    refine wpAny_bind (m := checkCount "sorted" 1 1 _) (wpAny_pure ?_)
    refine wpAny_bind (collect_tup hl hz (wpAny_bind (wpAny_newList ?_ hz)))
    have hsz : ((s.heap.push (seqObj "list" #[] 0)).update s.heap.objs.size (Obj.mapSeq (· ++ vs.toArray))).objs.size = s.heap.objs.size + 1 := by
      rw [Heap.size_update, size_push']
    show wpAny _ _ _ _ _ { s with heap := W.copyHeap s.heap vs }
    rw [hsz]
    refine wpAny_bind (wpAny_holding (wpAny_call_entry (s := { s with heap := W.copyHeap s.heap vs }) slot_list_sort ⟨_, W.copyHeap_at s.heap vs, rfl⟩ entry_list_sort (W.list_sort_vals (s := { s with heap := W.copyHeap s.heap vs }) (W.copyHeap_at s.heap vs) S hz ⟨.none, rfl, ?_⟩) (args_list_sort _)))
    exact wpAny_pure ⟨_, rfl, h⟩
end
section
variable {X : Cx}
/-- sorted(x), x a list or a tuple of rows -/
def rSortL (K : PySem.W.Frag) : List V → Hp → VK → Prop := fun vs H Q => ∃ (l : Addr) (ks : List (Addr × List Int)), vs = [V.ref l] ∧ (SqL K H l (ks.map fun p => V.ref p.1) ∨ SqT K H l (ks.map fun p => V.ref p.1)) ∧ (∀ p ∈ ks, SqT K H p.1 (p.2.map V.int)) ∧ ((∀ q ∈ ks, q.2 ≠ []) ∨ ks.length ≤ 1) ∧
  ∀ (L' : List (Addr × List Int)) (p : Addr), L'.Perm ks → L'.map (·.2) = (ks.map (·.2)).mergeSort rowLe → H p = none → Q (.ref p) (upd H p (.lst (L'.map fun q => V.ref q.1)))
theorem cr_sortL (hu : X.A.units + 64 < cLine) : CallR X (.builtin "sorted") (rSortL X.K) := by
  intro pins s σ H vs us Q I r h
  obtain ⟨l, ks, rfl, hl, hk, hs, q⟩ := h
  rw [Vals.ref1 r]
  have kk : ∀ p ∈ ks, IsT X.prog X.w s.heap p.2 p.1 := fun p hp => I.isT (hk p hp)
  obtain ⟨hz, hl2⟩ : ks.length ≤ sizeLine ∧ (s.heap.IsList l (ks.map fun p => Value.ref p.1).toArray ∨ s.heap.IsTuple l (ks.map fun p => Value.ref p.1).toArray) := by
    rcases hl with hl | hl
    · obtain ⟨its, rv, pl, hz⟩ := I.list hl
      have e := L2.refs_of_vals rv
      subst e
      exact ⟨by simpa using hz, .inl pl.isList⟩
    · obtain ⟨its, rv, pt, hz⟩ := I.tuple hl
      have e := L2.refs_of_vals rv
      subst e
      exact ⟨by simpa using hz, .inr pt⟩
  generalize hvs : ks.map (fun p => Value.ref p.1) = vs at *
  have hlen : vs.length = ks.length := by rw [← hvs, List.length_map]
  have tup : ∀ h', (∀ b o, s.heap.get? b = some o → h'.get? b = some o) → ∀ q ∈ ks, IsT X.prog X.w h' q.2 q.1 := fun h' hk q hq => isT_keep (kk q hq) hk
  have S := sorts_rows (A := X.A.in1.in1) (s := { s with heap := W.sortingHeap (W.copyHeap s.heap vs) (s.heap.objs.size + 1) vs }) (tup _ fun b u e => W.sorting_copy_old e) hs (by show X.A.units + 1 + 1 + 2 < cLine; omega)
  rw [hvs] at S
  refine sorted_seq hl2 S (by rw [hlen]; exact hz) ?_
  have er : W.EachIs (fun v (q : Addr × List Int) => v = Value.ref q.1) vs ks := by
    rw [← hvs]
    exact (each_rows ks (tup _ fun b u e => e)).mono fun v q z => z.1
  have eo := W.sortVals_data (h' := W.sortingHeap (W.copyHeap s.heap vs) (s.heap.objs.size + 1) vs) (R := fun v (q : Addr × List Int) => v = Value.ref q.1) (enc := encR) (bs := ks) false er (by
    rw [← hvs]
    exact (each_rows ks (tup _ fun b u e => by rw [hvs]; exact W.sorting_copy_old e)).mono fun v q z => z.2.2) (.of alike_rows)
  have e2 := each_refs eo
  generalize W.sortVals _ false vs vs = out at e2 ⊢
  have pL := List.mergeSort_perm ks (W.dataLe false encR)
  have e3 : (ks.mergeSort (W.dataLe false encR)).map (·.2) = (ks.map (·.2)).mergeSort rowLe := List.map_mergeSort fun p _ q _ => congrFun (congrFun le_rows p.2) q.2
  generalize ks.mergeSort (W.dataLe false encR) = L' at e2 pL e3
  obtain ⟨c, hc⟩ := sortedAll_at s.heap vs out.toArray
  have hlen2 : (L'.map fun q => V.ref q.1).length ≤ sizeLine := by rw [List.length_map, pL.length_eq]; exact hz
  have hv : Vals (L'.map fun q => V.ref q.1) out := by rw [e2]; exact L2.vals_of_refs L'
  exact ⟨.ref _, upd H (s.heap.objs.size + 1) (.lst (L'.map fun q => V.ref q.1)), I.laid (t' := s.toks) (fun _ _ => sortedAll_old) (Nat.le_succ _) ⟨hlen2, out, c, hv, by simpa using hc⟩, rfl, q L' _ pL e3 (I.hok.fresh (Nat.le_succ _))⟩
/-- sorted(t), t a tuple of whole numbers -/
def rSortTI (K : PySem.W.Frag) : List V → Hp → VK → Prop := fun vs H Q => ∃ (l : Addr) (ns : List Int), vs = [V.ref l] ∧ SqT K H l (ns.map V.int) ∧ ∀ p : Addr, H p = none → Q (.ref p) (upd H p (.lst ((ns.mergeSort fun a b => decide (a ≤ b)).map V.int)))
theorem each_ints {h : Heap} : ∀ {vs : List Value} {ns : List Int}, IntsAre vs ns → W.EachIs (fun v (n : Int) => (∃ t, v = .int n t) ∧ ∃ as, Reads h v (.int n) as) vs ns
  | _, _, .nil => .nil
  | _, _, .cons k t r => .cons ⟨⟨t, rfl⟩, [], .int k t⟩ (each_ints r)
theorem ints_each {vs : List Value} {ns : List Int} (e : W.EachIs (fun v (n : Int) => ∃ t, v = .int n t) vs ns) : IntsAre vs ns := by
  induction e with
  | nil => exact .nil
  | cons h _ ih =>
    obtain ⟨t, rfl⟩ := h
    exact .cons _ t ih
theorem cr_sortTI (hu : X.A.units + 64 < cLine) : CallR X (.builtin "sorted") (rSortTI X.K) := by
  intro pins s σ H vs us Q I r h
  obtain ⟨l, ns, rfl, hl, q⟩ := h
  rw [Vals.ref1 r]
  obtain ⟨its, rv, pt, hz⟩ := I.tuple hl
  have hi : IntsAre its ns := rv.ints
  have hlen : its.length = ns.length := hi.length
  have al : W.AllAlike (ns.map PyData.int) := .of fun a b => rfl
  have er : ∀ h', W.EachIs (fun v d => ∃ as, Reads h' v d as) its (ns.map PyData.int) := fun h' => W.each_map (R := fun v d => ∃ as, Reads h' v d as) PyData.int ((each_ints hi).mono fun v n z => z.2)
  have S := W.SortsAt.data (prog := X.prog) (w := X.w) (A := X.A.in1.in1) (s := { s with heap := W.sortingHeap (W.copyHeap s.heap its) (s.heap.objs.size + 1) its }) (er _) al (.others fun n => ⟨nofun, fun xs => nofun⟩) (fun d hd => by
    obtain ⟨n, _, rfl⟩ := List.mem_map.mp hd
    show X.A.units + 1 + 1 + PyData.depth (.int n) < cLine
    have : PyData.depth (.int n) = 0 := by simp [PyData.depth]
    omega)
  have hz2 : its.length ≤ sizeLine := by rw [hlen]; simpa using hz
  refine sorted_seq (.inr pt) S hz2 ?_
  have eo := W.sortVals_data (h' := W.sortingHeap (W.copyHeap s.heap its) (s.heap.objs.size + 1) its) (R := fun v (n : Int) => ∃ t, v = .int n t) (enc := PyData.int) (bs := ns) false ((each_ints (h := s.heap) hi).mono fun v n z => z.1) ((each_ints hi).mono fun v n z => z.2) al
  have e3 : W.dataLe false PyData.int = fun a b : Int => decide (a ≤ b) := W.dataLe_int (fun n : Int => n)
  rw [e3] at eo
  have e2 := ints_each eo
  generalize W.sortVals _ false its its = out at e2 ⊢
  obtain ⟨c, hc⟩ := sortedAll_at s.heap its out.toArray
  have hlen2 : ((ns.mergeSort fun a b => decide (a ≤ b)).map V.int).length ≤ sizeLine := by rw [List.length_map, List.length_mergeSort, ← hlen]; exact hz2
  exact ⟨.ref _, upd H (s.heap.objs.size + 1) (.lst ((ns.mergeSort fun a b => decide (a ≤ b)).map V.int)), I.laid (t' := s.toks) (fun _ _ => sortedAll_old) (Nat.le_succ _) ⟨hlen2, out, c, L2.vals_of_ints e2, by simpa using hc⟩, rfl, q _ (I.hok.fresh (Nat.le_succ _))⟩
/-- a tuple times 1, or times none -/
def rRep1 (K : PySem.W.Frag) : L2.R2 := fun x y H Q => ∃ l xs, x = .ref l ∧ SqT K H l xs ∧ ((y = .int 1 ∧ Q x H) ∨ (∃ k, y = .int k ∧ -1000 ≤ k ∧ k ≤ 0 ∧ xs ≠ [] ∧ ∀ p, H p = none → Q (.ref p) (upd H p (.tup []))))
theorem mul_one (l : Addr) (items : Array Value) (n : Nat) (dd : Option Addr) (sl : Array (Option Value)) (u : Tok) :
    Meets (Builtin.«tuple.__mul__» ⟨[.ref l, .int 1 u], []⟩) (fun _ R s => s.heap.get? l = some { cls := .type "tuple", dict := dd, data := .seq items n, slots := sl } ∧ R (.ok (.ret (.ref l))) s) :=
  .of_wp fun prog w A R s h => by
    obtain ⟨hp, g, d, tk, os⟩ := s
    obtain ⟨hl, h⟩ := h
    have f1 := AutoSeq1.idx_int
    have c0 : ((decide ((1 : Int) < -(2 ^ 63)) || decide ((1 : Int) ≥ 2 ^ 63)) : Bool) = false := by decide
    wp_walk using wpAny_loadPart' hl
    exact ⟨_, rfl, h⟩
theorem mul_none (l : Addr) (items : Array Value) (n : Nat) (dd : Option Addr) (sl : Array (Option Value)) (k : Int) (u : Tok) (c0 : (decide (k < -(2 ^ 63)) || decide (k ≥ 2 ^ 63)) = false) (c1 : (items.isEmpty || k == 1) = false) (c2 : (decide (k ≤ 0) || items.isEmpty) = true) :
    Meets (Builtin.«tuple.__mul__» ⟨[.ref l, .int k u], []⟩) (fun _ R s => s.heap.get? l = some { cls := .type "tuple", dict := dd, data := .seq items n, slots := sl } ∧ R (.ok (.ret (.ref s.heap.objs.size))) { s with heap := s.heap.push { cls := .type "tuple", data := .seq #[] }, toks := s.toks }) :=
  .of_wp fun prog w A R s h => by
    obtain ⟨hp, g, d, tk, os⟩ := s
    obtain ⟨hl, h⟩ := h
    have f1 := AutoSeq1.idx_int
    wp_walk using wpAny_loadPart' hl
    repeat (first
      | (refine wpAny_ite_false (decide_eq_false (by rw [c0]; exact Bool.false_ne_true)) ?_; wp_walk using wpAny_loadPart' hl)
      | (refine wpAny_ite_false (decide_eq_false (by rw [c1]; exact Bool.false_ne_true)) ?_; wp_walk using wpAny_loadPart' hl)
      | (refine wpAny_ite_true (decide_eq_true c2) ?_; wp_walk using wpAny_loadPart' hl))
    exact ⟨_, rfl, h⟩
theorem op_rep1 : L2.OpR X (binaryOp .Mult) (rRep1 X.K) := by
  intro pins s σ H x y v u Q I rx ry h
  obtain ⟨l, xs, rfl, hT, h⟩ := h
  cases rx
  obtain ⟨its, r, ⟨⟨cls, dd, data, sl⟩, ho, hc, n, hd⟩, hs⟩ := I.tuple hT
  simp only at hc hd
  subst hc hd
  rcases h with ⟨rfl, q⟩ | ⟨k, rfl, h1, h2, hne, q⟩
  · obtain ⟨t, rfl⟩ := ry
    refine wpAny_binaryOp_repeat_ref (T := "tuple") (U := "int") (by decide) ⟨_, ho, rfl⟩ (fun s' => typeIs_int s' 1 t) L2.noFill_tuple_mul F.fills_int_mul F.slot_int_rmul L2.repeat_tuple F.slot_int_index.lookup
      (call_meets F.slot_int_rmul (typeIs_int s 1 t) F.entry_int_rmul (F.args_int_rmul_2 _ _) (L2.int_rmul_tuple 1 t l its.toArray n dd sl)
        ⟨ho, rfl, ⟨_, ho, rfl⟩, call_meets F.slot_tuple_mul ⟨_, ho, rfl⟩ F.entry_tuple_mul (F.args_tuple_mul_2 _ _) (mul_one l its.toArray n dd sl t) ⟨ho, ?_⟩⟩)
    exact ⟨.ref l, H, I, rfl, q⟩
  · obtain ⟨t, rfl⟩ := ry
    have hn : its ≠ [] := fun e => hne (by
      have := r.length
      rw [e] at this
      exact List.eq_nil_of_length_eq_zero this)
    have hi : its.toArray.isEmpty = false := by
      cases its with
      | nil => exact absurd rfl hn
      | cons a b => rfl
    have c0 : (decide (k < -(2 ^ 63)) || decide (k ≥ 2 ^ 63)) = false := by
      rw [decide_eq_false (by omega), decide_eq_false (by omega)] <;> rfl
    have c1 : (its.toArray.isEmpty || k == 1) = false := by
      rw [hi, Bool.false_or]
      exact beq_eq_false_iff_ne.mpr (by omega)
    have c2 : (decide (k ≤ 0) || its.toArray.isEmpty) = true := by
      rw [decide_eq_true h2, Bool.true_or]
    refine wpAny_binaryOp_repeat_ref (T := "tuple") (U := "int") (by decide) ⟨_, ho, rfl⟩ (fun s' => typeIs_int s' k t) L2.noFill_tuple_mul F.fills_int_mul F.slot_int_rmul L2.repeat_tuple F.slot_int_index.lookup
      (call_meets F.slot_int_rmul (typeIs_int s k t) F.entry_int_rmul (F.args_int_rmul_2 _ _) (L2.int_rmul_tuple k t l its.toArray n dd sl)
        ⟨ho, rfl, ⟨_, ho, rfl⟩, call_meets F.slot_tuple_mul ⟨_, ho, rfl⟩ F.entry_tuple_mul (F.args_tuple_mul_2 _ _) (mul_none l its.toArray n dd sl k t c0 c1 c2) ⟨ho, ?_⟩⟩)
    exact ⟨.ref s.heap.objs.size, _, I.laid (t' := s.toks) (o := .tup []) (fun b ob q => Heap.get?_push_of_some _ q) (Nat.le_refl _) ⟨Nat.zero_le _, [], .nil, IsTup.new _ _⟩, rfl, q _ (I.hok.fresh (Nat.le_refl _))⟩
end
end SetF

/-! S7: a row looked for in a set of rows. -/
namespace SetF
open PySem PySem.Spec PyProof.Rows
open L2 (wp_if_neg wp_if_pos SetTR IsT thash rowsOf searchRest setSearchFrom_succ nth runAt way nth_add adv go_spec slot_live sameMem seen_tup TabOk)
section
variable {P : Program} {w : World} {A : Around} {E : Value → Shared → Prop} {s : Shared} {a : Addr} {L : List (Addr × List Int)} {es : Array (Int × Value)} {ep : Nat} {t : SetTable}
/-- where the walk for a hash stands behind c steps -/
abbrev trail (t : SetTable) (g : Int) (c : Nat) : SetTable.Probe := nth t.mask (runAt t.mask (SetTable.bits g % (t.mask + 1)) (SetTable.bits g)) c
theorem trail_add (t : SetTable) (g : Int) (c q : Nat) : nth t.mask (trail t g c) q = trail t g (c + q) := (nth_add t.mask c _ q).symm
theorem trail_way (t : SetTable) (g : Int) (c q : Nat) : (nth t.mask (trail t g c) q).j = way t.mask g (c + q) := congrArg SetTable.Probe.j (trail_add t g c q)
theorem trail_plain (t : SetTable) (g : Int) (c : Nat) : (trail t g c).dummy = none := by
  have all : ∀ (n : Nat) (p : SetTable.Probe), p.dummy = none → (nth t.mask p n).dummy = none := fun n => by
    induction n with
    | zero => exact fun p h => h
    | succ n ih =>
      refine fun p h => ih (adv t.mask p) ?_
      unfold adv
      split <;> exact h
  exact all c _ rfl
/-- the search, behind c steps of the walk: no entry of the row is passed -/
theorem look_from (R : SetTR P w s.heap a L es ep t) {x : Addr} {k : List Int} {g : Int} (hg : g = thash P w k) (hx : IsT P w s.heap k x) (hu : A.units < cLine) {K : Nat} (bound : K < 10 * SetTable.turns t.mask) (stop : way t.mask g K ∉ t.place.toList) (full : ∀ c, c < K → way t.mask g c ∈ t.place.toList)
    {Q : SetFound → Shared → Prop} (yes : ∀ i, k ∈ L.map (·.2) → Q (.there (some i)) s) (no : ∀ j, k ∉ L.map (·.2) → Q (.free j false) s) :
    ∀ (f c : Nat) (stand : Option SetTable.Probe), stand.getD (t.probeStart g) = trail t g c → c ≤ K → K - c < f →
      (∀ (i : Nat) p, L[i]? = some p → p.2 = k → ∃ c', c ≤ c' ∧ c' < K ∧ t.place.toList[i]? = some (way t.mask g c')) →
      wpAny (model P w) A (setSearchFrom a (.ref x) g false f stand) Q E s := by
  obtain ⟨o, ho, hex, hd⟩ := R.ob
  have hash : ∀ (i : Nat) p, L[i]? = some p → (es[i]?.map (·.1)).getD 0 = thash P w p.2 := fun i p hp => by rw [R.entry hp]; rfl
  intro f
  induction f with
  | zero => exact fun c _ _ _ z => absurd z (Nat.not_lt_zero _)
  | succ f ih =>
    intro c stand hst hc hf ahead
    rw [setSearchFrom_succ]
    refine wpAny_bind (wpAny_setState_of ho hd R.fits ?_)
    dsimp only
    refine wp_if_neg R.gw ?_
    try refine wpAny_bind (wpAny_pure ?_)
    have back : c + (K - c) = K := by omega
    rcases go_spec t R.tab.ris R.tab.dm (fun i => (es[i]?.map (·.1)).getD 0) g (10 * SetTable.turns t.mask) (K - c) _ (trail_plain t g c) (by omega) (fun q hq => by rw [trail_way]; exact full _ (by omega)) (by rw [trail_way, back]; exact stop)
      with ⟨q, i, hq, hi, hh, hno, hpr⟩ | ⟨hno, hpr⟩
    · have met : t.probe (fun i => (es[i]?.map (·.1)).getD 0) g (stand.getD (t.probeStart g)) = some (.candidate (way t.mask g (c + q)) i (trail t g (c + (q + 1)))) := by
        rw [hst, ← trail_way, ← trail_add]
        exact hpr
      rw [met]
      dsimp only
      rw [trail_way] at hi
      have il : i < L.length := by
        have h1 := (List.getElem?_eq_some_iff.mp hi).1
        have h2 := R.tab.sz
        rw [List.length_map] at h2
        rw [Array.length_toList] at h1
        omega
      obtain ⟨p, hp⟩ : ∃ p, L[i]? = some p := ⟨_, List.getElem?_eq_getElem il⟩
      have pm : p ∈ L := List.mem_of_getElem? hp
      have live : t.slot (way t.mask g (c + q)) = .live i := slot_live R.tab.ris hi
      have rest : wpAny (model P w) A (searchRest a (.ref x) g false f es t (way t.mask g (c + q)) i (trail t g (c + (q + 1)))) Q E s := by
        unfold searchRest
        rw [R.entry hp]
        dsimp only
        refine wpAny_bind (wpAny_holding (wpAny_eqBool_tuple hu (R.tup p pm) hx ?_))
        refine wpAny_bind (wpAny_setState_of ho hd R.fits ?_)
        dsimp only
        refine wp_if_neg (by simp) ?_
        try refine wpAny_bind (wpAny_pure ?_)
        rw [sameMem]
        dsimp only
        simp only [if_true, live, R.entry hp]
        refine wpAny_bind (wpAny_isSame_ref_self (wpAny_bind (wpAny_pure ?_)))
        simp only [if_true]
        by_cases same : p.2 = k
        · refine wp_if_pos (by simp [same]) ?_
          exact wpAny_pure (yes i (List.mem_map.mpr ⟨p, pm, same⟩))
        · refine wp_if_neg (by simp [same]) ?_
          refine ih (c + (q + 1)) _ rfl (by omega) (by omega) fun i0 p0 h0 k0 => ?_
          obtain ⟨c', a1, a2, a3⟩ := ahead i0 p0 h0 k0
          refine ⟨c', ?_, a2, a3⟩
          rcases Nat.lt_trichotomy c' (c + q) with z | z | z
          · refine absurd ((hash i0 p0 h0).trans (by rw [k0, hg])) (hno (c' - c) i0 (by omega) ?_)
            rw [trail_way, show c + (c' - c) = c' by omega]
            exact a3
          · have l0 := slot_live R.tab.ris a3
            rw [z, live] at l0
            injection l0 with l0
            rw [← l0, hp] at h0
            cases h0
            exact absurd k0 same
          · omega
      by_cases led : t.led = true
      · refine wp_if_neg (by simp [led]) ?_
        try refine wpAny_bind (wpAny_pure ?_)
        exact rest
      · refine wp_if_pos (by simp [led]) (wpAny_bind (seen_tup hx (fun y hy => ?_) ?_))
        · obtain ⟨e, he, rfl⟩ := List.mem_map.mp hy
          have he2 : e ∈ es.toList := by
            have : e ∈ es ∧ e.1 = g := by simpa using he
            simpa using this.1
          rw [R.rows] at he2
          obtain ⟨p2, hp2, rfl⟩ := List.mem_map.mp he2
          exact ⟨p2.2, p2.1, rfl, R.tup p2 hp2⟩
        · refine wp_if_neg (by decide) ?_
          try refine wpAny_bind (wpAny_pure ?_)
          exact rest
    · have met : t.probe (fun i => (es[i]?.map (·.1)).getD 0) g (stand.getD (t.probeStart g)) = some (.empty (way t.mask g K) none) := by
        rw [hst, show way t.mask g K = (nth t.mask (trail t g c) (K - c)).j by rw [trail_way, back]]
        exact hpr
      rw [met]
      dsimp only
      refine wpAny_pure (no _ fun hm => ?_)
      obtain ⟨p0, h0, k0⟩ := List.mem_map.mp hm
      obtain ⟨i0, e0⟩ := List.mem_iff_getElem?.mp h0
      obtain ⟨c', a1, a2, a3⟩ := ahead i0 p0 e0 k0
      refine hno (c' - c) i0 (by omega) ?_ ((hash i0 p0 e0).trans (by rw [k0, hg]))
      rw [trail_way, show c + (c' - c) = c' by omega]
      exact a3
theorem find_row (R : SetTR P w s.heap a L es ep t) {x : Addr} {k : List Int} (hx : IsT P w s.heap k x) (hu : A.units < cLine) {Q : Option Nat → Shared → Prop} (fin : ∀ r : Option Nat, r.isSome = decide (k ∈ L.map (·.2)) → Q r s) :
    wpAny (model P w) A (setFind a (.ref x) (thash P w k)) Q E s := by
  obtain ⟨o, ho, hex, hd⟩ := R.ob
  have room := R.room
  obtain ⟨K, hKf, hK, hKb⟩ := R.tab.first (by rw [List.length_map]; omega) (thash P w k)
  have big : K < 100000 := by
    have : 10 * SetTable.turns t.mask ≤ 1420 := by
      unfold SetTable.turns
      rcases R.tab.mok with e | e | e <;> omega
    omega
  unfold setFind
  rw [show (100000 : Nat) = 99999 + 1 from rfl]
  unfold setFindIn
  refine wpAny_bind (wpAny_setState_of ho hd R.fits ?_)
  dsimp only
  refine wp_if_neg (by simp [byScan, Value.scannable]) ?_
  try refine wpAny_bind (wpAny_pure ?_)
  unfold setSearch
  refine wpAny_bind (look_from R rfl hx hu hKf hK hKb (fun i hm => ?_) (fun j hm => ?_) 100000 0 none rfl (Nat.zero_le _) (by omega) fun i p hp hk => ?_)
  · dsimp only
    exact wpAny_pure (fin (some i) (by rw [decide_eq_true hm]; rfl))
  · dsimp only
    exact wpAny_pure (fin none (by rw [decide_eq_false hm]; rfl))
  · have hi : (L.map fun p => thash P w p.2)[i]? = some (thash P w k) := by rw [List.getElem?_map, hp, ← hk]; rfl
    have hil : i < t.place.toList.length := by
      have h1 := (List.getElem?_eq_some_iff.mp hp).1
      have h2 := R.tab.sz
      rw [List.length_map] at h2
      rw [Array.length_toList]
      omega
    have hj := List.getElem?_eq_getElem hil
    obtain ⟨c, hc, e⟩ := R.tab.before hK hi hj
    exact ⟨c, Nat.zero_le _, hc, by rw [hj, e]⟩
/-- x in s at the library's level -/
theorem has_row (R : SetTR P w s.heap a L es ep t) {x : Addr} {k : List Int} (hx : IsT P w s.heap k x) (hu : A.units + 64 < cLine) {Q : Bool → Shared → Prop} (fin : Q (decide (k ∈ L.map (·.2))) { s with toks := s.toks + (k.length + 1) }) :
    wpAny (model P w) A (contains (.ref a) (.ref x)) Q E s := by
  obtain ⟨o, ho, hex, hd⟩ := id R.ob
  have ty : s.TypeIs (.ref a) "set" := ⟨o, ho, hex.1⟩
  have tx := hx.typeIs
  unfold contains
  try with_reducible refine wpAny_holding ?_
  refine wpAny_bind (wpAny_specialOf ty F.slot_set_contains.lookup ?_)
  show wpAny _ _ (if (some (Value.builtin "set.__contains__") == some Value.none) = true then _ else _) _ E s
  rw [if_neg (by rw [beq_builtin_none]; exact Bool.false_ne_true)]
  refine wpAny_bind (wpAny_callSpecialUnlessNone?_slot (name := Str.ofString "__contains__") ty F.slot_set_contains (wpAny_call_entry F.slot_set_contains ty entry_set_contains ?_ (F.args_set_contains_2 _ _)))
  unfold Builtin.«frozenset.__contains__» Builtin.Frozenset.oneOther
  simp only [List.isEmpty_nil, bind_assoc]
  unfold Builtin.Frozenset.addrOf Builtin.Frozenset.withSetAsKey setContains
  refine wpAny_bind (wpAny_pure ?_)
  try dsimp only
  refine wpAny_bind (wpAny_pure ?_)
  try dsimp only
  refine wpAny_bind (wpAny_tryCatch (wpAny_holding (wpAny_bind (wpAny_pyHash_tuple (show A.units + 1 < cLine by omega) hx ?_))))
  refine wpAny_bind (find_row (s := { s with toks := s.toks + (k.length + 1) }) R hx (show A.units + 1 < cLine by omega) fun r hr => wpAny_pure ?_)
  show wpAny _ _ (ret (Value.bool r.isSome)) _ _ _
  rw [hr]
  exact wpAny_pure ⟨_, rfl, wpAny_truthy_bool fin⟩
end
section
open L2 (OpR V SqT VK Hp HO Cx Inv SetTO upd)
variable {X : Cx}
/-- row in s, row not in s -/
def rInRows (K : PySem.W.Frag) (P : Program) (w : World) (neg : Bool) : V → V → Hp → VK → Prop := fun x y H Q => ∃ (b : Addr) (k : List Int) (a : Addr) (L : List (Addr × List Int)), x = .ref b ∧ y = .ref a ∧ SqT K H b (k.map V.int) ∧ H a = some (SetTO P w a L) ∧ (∀ p ∈ L, SqT K H p.1 (p.2.map V.int)) ∧
  Q (.bl (if neg then !decide (k ∈ L.map (·.2)) else decide (k ∈ L.map (·.2)))) H
theorem or_inRows (hu : X.A.units + 64 < cLine) : OpR X (compareOp .In) (rInRows X.K X.prog X.w false) := by
  intro pins s σ H x y v u Q I rx ry h
  obtain ⟨b, k, a, L, rfl, rfl, hb, ha, hL, q⟩ := h
  cases rx
  cases ry
  have R0 : L2.SetT0 X.prog X.w s.heap a L := (I.hok a _ ha).1
  obtain ⟨es, ep, t, R⟩ := R0.full fun p hp => I.isT (hL p hp)
  show wpAny _ _ (do return Value.bool (← contains (.ref a) (.ref b))) _ _ s
  exact wpAny_bind (has_row R (I.isT hb) hu (wpAny_pure ⟨.bl _, H, I.tok _, rfl, q⟩))
theorem or_ninRows (hu : X.A.units + 64 < cLine) : OpR X (compareOp .NotIn) (rInRows X.K X.prog X.w true) := by
  intro pins s σ H x y v u Q I rx ry h
  obtain ⟨b, k, a, L, rfl, rfl, hb, ha, hL, q⟩ := h
  cases rx
  cases ry
  have R0 : L2.SetT0 X.prog X.w s.heap a L := (I.hok a _ ha).1
  obtain ⟨es, ep, t, R⟩ := R0.full fun p hp => I.isT (hL p hp)
  show wpAny _ _ (do return Value.bool (!(← contains (.ref a) (.ref b)))) _ _ s
  exact wpAny_bind (has_row R (I.isT hb) hu (wpAny_pure ⟨.bl _, H, I.tok _, rfl, q⟩))
end
end SetF

/-! Ow4b: more primitives. -/
namespace Ow
open PySem PySem.Spec PyProof.Rows
open L2 (V SqL SqT Rd HO upd upd_same upd_ne TE TT TA TS VK Cx PE PT PA PS PSs WX OpR UnR CallR R2 Room)

section
variable {K : KX} {H : L2.Hp} {bt : Gh} {h : Hp}
theorem RepL.rep {ws : List W} {vs : List V} (r : RepL K H bt h ws vs) : ∀ k : Nat, RepL K H bt h (List.replicate k ws).flatten (List.replicate k vs).flatten
  | 0 => rfl
  | k + 1 => by
    rw [List.replicate_succ, List.replicate_succ, List.flatten_cons, List.flatten_cons]
    exact r.append (RepL.rep r k)
theorem RepL.atI {ws : List W} {vs : List V} {i : Int} {w : W} (r : RepL K H bt h ws vs) (e : L2.atI ws i = some w) : ∃ v, L2.atI vs i = some v ∧ Rep K H bt h w v := by
  unfold L2.atI at e ⊢
  rw [← r.length]
  cases q : L2.ixN ws.length i with
  | none => rw [q] at e; cases e
  | some j =>
    rw [q] at e
    exact r.get e
theorem RepL.cut' {ws : List W} {vs : List V} (lo hi : Option Int) (r : RepL K H bt h ws vs) : RepL K H bt h (cutW ws lo hi) (L2.cutV vs lo hi) := by
  unfold cutW L2.cutV
  rw [← r.length]
  exact (r.drop _).take _
end

section
variable {X : Cx}
def rMulA (K : KX) : R2 := fun x y H Q => ((L2.rI L2.CMul (fun i j => .int (i * j)) x y H Q ∨ L2.rRepT K x y H Q) ∨ L2.rRep x y H Q) ∨ SetF.rRep1 K x y H Q
theorem op_mulA : OpR X (binaryOp .Mult) (rMulA (kx X)) := ((L2.op_mul.or L2.op_repT).or L2.op_rep).or SetF.op_rep1
theorem rd_mul : RdOk (kx X) .mul (rd2 (rMulA (kx X))) := RdOk.of2 rfl (fun H bt h a b x y w Q ok r1 r2 e q => by
  have e : pMul a b = some w := e
  cases a <;> cases b <;> first
    | cases e
    | skip
  · cases r1; cases r2
    simp only [pMul] at e
    split at e
    · cases e
      rename_i c
      simp only [small64, Bool.or_eq_true, decide_eq_true_eq] at c
      exact .inl (.inl (.inl ⟨_, _, rfl, rfl, c, q _ _ (post_flat rfl fun _ z => by cases z)⟩))
    · cases e
  · obtain ⟨a1, xs, rfl, h1, l1⟩ := repT_tup r1
    cases r2
    simp only [pMul] at e
    split at e
    · cases e
      rename_i c
      simp only [Bool.and_eq_true, Bool.not_eq_true', decide_eq_true_eq, List.isEmpty_eq_false_iff] at c
      have hl := l1.length
      rename_i us k
      have hne : xs ≠ [] := fun z => c.1 (by
        subst z
        exact List.length_eq_zero_iff.mp hl)
      by_cases h2 : 2 ≤ k
      · exact .inl (.inl (.inr ⟨a1, k, xs, rfl, rfl, h1, hne, h2, c.2.2.1, by have := c.2.2.2; omega, fun p n => q _ _ (post_newT ok n (l1.rep _))⟩))
      · by_cases h3 : k = 1
        · subst h3
          refine .inr ⟨a1, xs, rfl, h1, .inl ⟨rfl, q _ _ (post_flat ?_ fun _ z => by cases z)⟩⟩
          have e1 : (List.replicate (Int.toNat 1) us).flatten = us := by simp
          rw [e1]
          exact ⟨a1, xs, rfl, h1, l1⟩
        · have e1 : (List.replicate k.toNat us).flatten = [] := by
            rw [show k.toNat = 0 by omega]
            rfl
          rw [e1] at q
          exact .inr ⟨a1, xs, rfl, h1, .inr ⟨k, rfl, c.2.1, by omega, hne, fun p n => q _ _ (post_newT ok n (vs := []) rfl)⟩⟩
    · cases e
  · obtain ⟨a1, xs, rfl, h1, l1⟩ := repT_lst r1
    cases r2
    simp only [pMul] at e
    split at e
    · cases e
      rename_i c
      have c := of_decide_eq_true c
      have hl := l1.length
      exact .inl (.inr ⟨a1, _, xs, rfl, rfl, h1, c.2.1, c.2.2, by rw [← hl]; exact c.1, fun p n => q _ _ (post_newL n (l1.rep _))⟩)
    · cases e) (two_of (fun a => by cases a <;> rfl) (by decide) (by decide) (fun _ _ => by simp) (by decide) (by decide))

/-! is None -/
theorem isNon_rep {K : KX} {H : L2.Hp} {bt : Gh} {h : Hp} {w : W} {v : V} (r : Rep K H bt h w v) : isNon w = decide (v = .non) := by
  cases w with
  | non => cases r; rfl
  | bl _ => cases r; rfl
  | int _ => cases r; rfl
  | str _ => cases r; rfl
  | tup _ => obtain ⟨_, _, rfl, _⟩ := r; rfl
  | lst _ => obtain ⟨_, _, rfl, _⟩ := r; rfl
  | slst _ => obtain ⟨_, _, rfl, _⟩ := r; rfl
  | ref _ => obtain ⟨_, rfl⟩ := r; rfl
  | ty _ => cases r; rfl
  | set _ => (obtain ⟨a, L, rfl, _⟩ := r; rfl)
  | dic _ _ => exact r.elim
  | cls _ => exact r.elim
  | exc _ _ => exact r.elim
def rdIsN (f : Bool → Bool) : List V → L2.Hp → VK → Prop := rd1 fun x H Q => Q (.bl (f (decide (x = .non)))) H
theorem raw_one {p : Prim} {g : Bool → Bool} (raw : p.raw = true) (fr : p.fresh = false) (e0 : ∀ ws w, primF p ws = some w → ∃ a, ws = [a] ∧ w = .bl (g (isNon a))) : RdOk (kx X) p (rdIsN g) := by
  intro H bt h ws vs w Q ok rl e q
  obtain ⟨a, rfl, rfl⟩ := e0 ws w e
  rw [raw] at rl
  obtain ⟨x, t, rfl, r1, e⟩ := rl
  cases (show t = [] from e)
  rw [isNon_rep r1] at q
  exact q _ _ (post_flat rfl fun _ z => by cases z)
theorem rd_isN : RdOk (kx X) .isN (rdIsN id) := raw_one rfl rfl fun ws w e => by
  match ws, e with
  | [a], e => cases e; exact ⟨a, rfl, rfl⟩
theorem rd_notN : RdOk (kx X) .notN (rdIsN not) := raw_one rfl rfl fun ws w e => by
  match ws, e with
  | [a], e => cases e; exact ⟨a, rfl, rfl⟩
theorem pe_isN {a : Expr} {ts : List TE} {j pos pos' : _} (h : PL X [a] ts) (hm : behindInMarks .Is (.Constant .none j pos') = false) : PE X (.Compare a [.Is] [.Constant .none j pos'] pos) (tP ts (rdIsN id)) := by
  obtain ⟨ta, rfl, ha⟩ := h.one
  refine PE.imp (L2.pe_cmpR L2.op_isN ha L2.pe_non hm) fun σ H Q q => ?_
  exact (show L2.tOp _ ta (L2.tC .non) σ H Q from by
    unfold L2.tOp L2.tC
    simp only [true_and]
    exact q)
theorem pe_notN {a : Expr} {ts : List TE} {j pos pos' : _} (h : PL X [a] ts) (hm : behindInMarks .IsNot (.Constant .none j pos') = false) : PE X (.Compare a [.IsNot] [.Constant .none j pos'] pos) (tP ts (rdIsN not)) := by
  obtain ⟨ta, rfl, ha⟩ := h.one
  refine PE.imp (L2.pe_cmpR L2.op_notN ha L2.pe_non hm) fun σ H Q q => ?_
  exact (show L2.tOp _ ta (L2.tC .non) σ H Q from by
    unfold L2.tOp L2.tC
    simp only [true_and]
    exact q)

/-! x in xs -/
theorem flat_rep {K : KX} {H : L2.Hp} {bt : Gh} {h : Hp} {w : W} {v : V} (f : flatW w = true) (r : RepT K H bt h w v) : L2.flatV v = true ∧ ∀ (w' : W) (v' : V), flatW w' = true → RepT K H bt h w' v' → L2.eqV v v' = eqF w w' := by
  cases w <;> first | (cases f; done) | (cases r; exact ⟨rfl, fun w' v' f' r' => by cases w' <;> first | (cases f'; done) | (cases r'; rfl)⟩)
theorem Rep.ofFlat {K : KX} {H : L2.Hp} {bt : Gh} {h : Hp} {w : W} {v : V} (f : flatW w = true) (r : Rep K H bt h w v) : RepT K H bt h w v := by
  cases w <;> first | (cases f; done) | exact r
theorem flat_any {K : KX} {H : L2.Hp} {bt : Gh} {h : Hp} {x : W} {v : V} (f : flatW x = true) (r : RepT K H bt h x v) : ∀ {ws : List W} {vs : List V}, ws.all flatW = true → RepL K H bt h ws vs → vs.all L2.flatV = true ∧ (vs.any fun y => L2.eqV y v) = ws.any fun y => eqF y x
  | [], _, _, l => by cases (show _ = [] from l); exact ⟨rfl, rfl⟩
  | w :: ws, _, g, l => by
    obtain ⟨u, t, rfl, r1, r2⟩ := l
    rw [List.all_cons, Bool.and_eq_true] at g
    obtain ⟨h1, h2⟩ := flat_rep g.1 (r1.ofFlat g.1)
    obtain ⟨h3, h4⟩ := flat_any f r g.2 r2
    exact ⟨by rw [List.all_cons, h1, h3]; rfl, by rw [List.any_cons, List.any_cons, h4, h2 x v f r]⟩
def rMemA (K : KX) : R2 := fun x y H Q => (((∃ i j, x = .str i ∧ y = .str j ∧ Q (.bl (!(Builtin.Str.occurrences j i 0 j.length 1).isEmpty)) H) ∨ L2.rIn K false x y H Q) ∨ L2.rInD K x y H Q) ∨ SetF.rInRows K K.P K.w false x y H Q
def rNmemA (K : KX) : R2 := fun x y H Q => (((∃ i j, x = .str i ∧ y = .str j ∧ Q (.bl (!(!(Builtin.Str.occurrences j i 0 j.length 1).isEmpty))) H) ∨ L2.rIn K true x y H Q) ∨ L2.rNotInD K x y H Q) ∨ SetF.rInRows K K.P K.w true x y H Q
theorem op_memA (hu : X.A.units + 65 < cLine) : OpR X (compareOp .In) (rMemA (kx X)) := ((L2.op_in_str.or L2.op_in_seq).or (L2.op_inD hu)).or (SetF.or_inRows (by omega))
theorem op_nmemA (hu : X.A.units + 65 < cLine) : OpR X (compareOp .NotIn) (rNmemA (kx X)) := ((L2.op_notin_str.or L2.op_notIn_seq).or (L2.op_notInD hu)).or (SetF.or_ninRows (by omega))
theorem pMem_cases {a b : W} {c : Bool} (e : pMem a b = some c) : (∃ x z, a = .str x ∧ b = .str z ∧ c = !(Builtin.Str.occurrences z x 0 z.length 1).isEmpty) ∨ (∃ ws, items b = some ws ∧ pMemF a ws = some c) ∨ (∃ ws, b = .lst ws ∧ pMemD a ws = some c) ∨ ∃ us rs k, a = .tup us ∧ b = .set rs ∧ allInt us = some k ∧ c = decide (k ∈ rs) := by
  unfold pMem at e
  split at e
  · cases e; exact .inl ⟨_, _, rfl, rfl, rfl⟩
  · split at e
    · cases e; exact .inr (.inl ⟨_, rfl, by assumption⟩)
    · exact .inr (.inr (.inl ⟨_, rfl, e⟩))
  · exact .inr (.inl ⟨_, rfl, e⟩)
  · exact .inr (.inl ⟨_, rfl, e⟩)
  · obtain ⟨k, e1, e2⟩ := Option.map_eq_some_iff.mp e
    exact .inr (.inr (.inr ⟨_, _, k, rfl, rfl, e1, e2.symm⟩))
  · cases e
theorem mem_core {H : L2.Hp} {bt : Gh} {h : Hp} {a b : W} {x y : V} {c : Bool} (e : pMem a b = some c) (r1 : RepT (kx X) H bt h a x) (r2 : RepT (kx X) H bt h b y) :
    (∃ i j, x = .str i ∧ y = .str j ∧ c = !(Builtin.Str.occurrences j i 0 j.length 1).isEmpty) ∨ (∃ p xs, y = .ref p ∧ (SqL (kx X) H p xs ∨ SqT (kx X) H p xs) ∧ L2.flatV x = true ∧ xs.all L2.flatV = true ∧ c = L2.inV x xs) ∨
      (∃ d ds, L2.Dp (kx X) H x d ∧ L2.Dp (kx X) H y (.list ds) ∧ SeqAt.shaped d = true ∧ SeqAt.shaped (.list ds) = true ∧ c = ds.any fun z => PyData.eqv z d) ∨
      ∃ (b : Addr) (k : List Int) (a : Addr) (L : List (Addr × List Int)), x = .ref b ∧ y = .ref a ∧ SqT (kx X).K H b (k.map V.int) ∧ H a = some (L2.SetTO (kx X).P (kx X).w a L) ∧ (∀ p ∈ L, SqT (kx X).K H p.1 (p.2.map V.int)) ∧ c = decide (k ∈ L.map (·.2)) := by
  rcases pMem_cases e with ⟨x', z, rfl, rfl, rfl⟩ | ⟨ws, ei, e2⟩ | ⟨ws, rfl, e2⟩ | ⟨us, rs, k, rfl, rfl, e1, rfl⟩
  · cases r1; cases r2
    exact .inl ⟨_, _, rfl, rfl, rfl⟩
  · obtain ⟨p, ys, rfl, sq, l⟩ := items_seq r2 ei
    unfold pMemF at e2
    split at e2
    · cases e2
      rename_i c
      rw [Bool.and_eq_true] at c
      obtain ⟨h1, h2⟩ := flat_any c.1 r1 c.2 l
      exact .inr (.inl ⟨p, ys, rfl, sq, (flat_rep c.1 r1).1, h1, h2.symm⟩)
    · cases e2
  · unfold pMemD at e2
    split at e2
    · cases e2
      rename_i c
      simp only [Bool.and_eq_true] at c
      obtain ⟨⟨⟨c1, c2⟩, c3⟩, c4⟩ := c
      refine .inr (.inr (.inl ⟨_, ws.map toD, r1.dp c1, ?_, c3, c4, ?_⟩))
      · have := r2.dp (w := .lst ws) (by simp only [isD]; exact c2)
        simpa only [toD] using this
      · rw [List.any_map]; rfl
    · cases e2
  · obtain ⟨b, vs, rfl, sq, l⟩ := r1
    cases allInt_vals e1 l
    obtain ⟨a, L, rfl, q, hL, m⟩ := r2
    exact .inr (.inr (.inr ⟨b, k, a, L, rfl, rfl, sq, q, hL, by simp only [m]⟩))
theorem rd_mem : RdOk (kx X) .mem (rd2 (rMemA (kx X))) := RdOk.of2 rfl (fun H bt h a b x y w Q ok r1 r2 e q => by
  have e : (pMem a b).map W.bl = some w := e
  cases e1 : pMem a b with
  | none => rw [e1] at e; cases e
  | some c =>
    rw [e1] at e
    cases e
    have q := q _ _ (post_flat (w := .bl c) rfl fun _ z => by cases z)
    rcases mem_core e1 r1 r2 with ⟨i, j, rfl, rfl, rfl⟩ | ⟨p, xs, rfl, sq, f1, f2, rfl⟩ | ⟨d, ds, d1, d2, s1, s2, rfl⟩ | ⟨b1, k1, a1, L1, rfl, rfl, sq, ha, hL, rfl⟩
    · exact .inl (.inl (.inl ⟨_, _, rfl, rfl, q⟩))
    · exact .inl (.inl (.inr ⟨p, xs, rfl, sq, f1, f2, q⟩))
    · exact .inl (.inr ⟨d, ds, d1, d2, s1, s2, q⟩)
    · exact .inr ⟨b1, k1, a1, L1, rfl, rfl, sq, ha, hL, q⟩) (two_of (fun a => by cases a <;> rfl) (by decide) (by decide) (fun _ _ => by simp) (by decide) (by decide))
theorem rd_nmem : RdOk (kx X) .nmem (rd2 (rNmemA (kx X))) := RdOk.of2 rfl (fun H bt h a b x y w Q ok r1 r2 e q => by
  have e : ((pMem a b).map fun c => W.bl (!c)) = some w := e
  cases e1 : pMem a b with
  | none => rw [e1] at e; cases e
  | some c =>
    rw [e1] at e
    cases e
    have q := q _ _ (post_flat (w := .bl (!c)) rfl fun _ z => by cases z)
    rcases mem_core e1 r1 r2 with ⟨i, j, rfl, rfl, rfl⟩ | ⟨p, xs, rfl, sq, f1, f2, rfl⟩ | ⟨d, ds, d1, d2, s1, s2, rfl⟩ | ⟨b1, k1, a1, L1, rfl, rfl, sq, ha, hL, rfl⟩
    · exact .inl (.inl (.inl ⟨_, _, rfl, rfl, q⟩))
    · exact .inl (.inl (.inr ⟨p, xs, rfl, sq, f1, f2, q⟩))
    · exact .inl (.inr ⟨d, ds, d1, d2, s1, s2, q⟩)
    · exact .inr ⟨b1, k1, a1, L1, rfl, rfl, sq, ha, hL, q⟩) (two_of (fun a => by cases a <;> rfl) (by decide) (by decide) (fun _ _ => by simp) (by decide) (by decide))

/-! x is True -/
theorem rd_isB : RdOk (kx X) .isB (rd2 fun x y H Q => ∃ a b, x = .bl a ∧ y = .bl b ∧ Q (.bl (decide (a = b))) H) := RdOk.of2 rfl (fun H bt h a b x y w Q ok r1 r2 e q => by
  cases a <;> first | (cases e; done) | skip
  cases b <;> first | (cases e; done) | skip
  cases e
  cases r1
  cases r2
  exact ⟨_, _, rfl, rfl, q _ _ (post_flat rfl fun _ z => by cases z)⟩) (two_of (fun a => by cases a <;> rfl) (by decide) (by decide) (fun _ _ => by simp) (by decide) (by decide))
/-! x[i] -/
theorem post_any {K : KX} {H : L2.Hp} {bt : Gh} {h : Hp} {w : W} {v : V} (r : Rep K H bt h w v) : Post K false H H bt h w v := (show L2.Same H H ∧ Rep K H bt h w v from ⟨L2.Same.refl H, r⟩)
theorem rd_idx : RdOk (kx X) .idx (rd2 (L2.rIx (kx X))) := RdOk.of2 rfl (fun H bt h a b x y w Q ok r1 r2 e q => by
  have e : pIdx a b = some w := e
  have sq : ∀ ws p xs, RepL (kx X) H bt h ws xs → ∀ i, b = .int i → (SqL (kx X) H p xs ∨ SqT (kx X) H p xs) → atW ws i = some w → L2.rIx (kx X) (.ref p) y H Q := fun ws p xs l i eb s ea => by
    subst eb
    cases r2
    obtain ⟨v, ev, rv⟩ := l.atI ea
    rcases s with s | s
    · exact .inl ⟨p, xs, i, v, rfl, rfl, s, ev, q _ _ (post_any rv)⟩
    · exact .inr (.inl ⟨p, xs, i, v, rfl, rfl, s, ev, q _ _ (post_any rv)⟩)
  cases a <;> cases b <;> first
    | (cases e; done)
    | skip
  · cases r1; cases r2
    simp only [pIdx] at e
    split at e
    · cases e1 : L2.atI (Str.cps _).toList _ with
      | none => rw [e1] at e; cases e
      | some c =>
        rw [e1] at e
        cases e
        exact .inr (.inr ⟨_, _, c, rfl, rfl, okLen_le (by assumption), e1, q _ _ (post_any rfl)⟩)
    · cases e
  · obtain ⟨a1, xs, rfl, h1, l1⟩ := repT_tup r1
    exact sq _ _ _ l1 _ rfl (.inr h1) e
  · obtain ⟨a1, xs, rfl, h1, l1⟩ := repT_lst r1
    exact sq _ _ _ l1 _ rfl (.inl (.of h1)) e
  · obtain ⟨a1, xs, rfl, h1, l1⟩ := r1
    exact sq _ _ _ l1 _ rfl (.inl h1.sq) e) (two_of (fun a => by cases a <;> rfl) (by decide) (by decide) (fun _ _ => by simp) (by decide) (by decide))

/-! displays -/
def rdTup : List V → L2.Hp → VK → Prop := fun xs H Q => xs.length ≤ sizeLine ∧ ∀ p, H p = none → Q (.ref p) (upd H p (.tup xs))
def rdLst : List V → L2.Hp → VK → Prop := fun xs H Q => xs.length ≤ sizeLine ∧ ∀ p, H p = none → Q (.ref p) (upd H p (.lst xs))
theorem rd_tupd : RdOk (kx X) .tupd rdTup := by
  intro H bt h ws vs w Q ok rl e q
  have rl : RepL (kx X) H bt h ws vs := rl
  simp only [primF] at e
  split at e
  · cases e
    exact ⟨by rw [← rl.length]; exact okLen_le (by assumption), fun p n => q _ _ (post_newT ok n rl)⟩
  · cases e
theorem rd_lstd : RdOk (kx X) .lstd rdLst := by
  intro H bt h ws vs w Q ok rl e q
  have rl : RepL (kx X) H bt h ws vs := rl
  simp only [primF] at e
  split at e
  · cases e
    exact ⟨by rw [← rl.length]; exact okLen_le (by assumption), fun p n => q _ _ (post_newL n rl)⟩
  · cases e
theorem pe_tupL {es : List Expr} {ts : List TE} {x1 pos} (h : PL X es ts) (n : es.all ns = true) : PE X (.Tuple es x1 pos) (tP ts rdTup) := L2.pe_tup (h.pa n)
theorem pe_lstL {es : List Expr} {ts : List TE} {pos} (h : PL X es ts) (n : es.all ns = true) : PE X (.List es pos) (tP ts rdLst) := L2.pe_lst (h.pa n)

/-! two ints -/
def rdI2 (g : Int → Int → Int) : List V → L2.Hp → VK → Prop := fun xs H Q => ∃ i j, xs = [.int i, .int j] ∧ Q (.int (g i j)) H
theorem rdI2_ok {p : Prim} {g : Int → Int → Int} (raw : p.raw = false) (n : ∀ ws, primF p ws ≠ none → ∃ a b, ws = [a, b]) (e0 : ∀ a b w, primF p [a, b] = some w → ∃ i j, a = .int i ∧ b = .int j ∧ w = .int (g i j)) : RdOk (kx X) p (rdI2 g) := by
  intro H bt h ws vs w Q ok rl e q
  obtain ⟨a, b, rfl⟩ := n ws (by rw [e]; simp)
  obtain ⟨i, j, rfl, rfl, rfl⟩ := e0 _ _ _ e
  rw [raw] at rl
  obtain ⟨x, y, rfl, r1, r2⟩ := RepTL.two rl
  cases r1; cases r2
  exact ⟨i, j, rfl, q _ _ (post_flat rfl fun _ z => by cases z)⟩
theorem rd_min2 : RdOk (kx X) .min2 (rdI2 fun i j => if j < i then j else i) := rdI2_ok rfl (two_of (fun a => by cases a <;> rfl) (by decide) (by decide) (fun _ _ => by simp) (by decide) (by decide)) fun a b w e => by
  cases a <;> cases b <;> cases e
  exact ⟨_, _, rfl, rfl, rfl⟩
theorem rd_max2 : RdOk (kx X) .max2 (rdI2 fun i j => if j > i then j else i) := rdI2_ok rfl (two_of (fun a => by cases a <;> rfl) (by decide) (by decide) (fun _ _ => by simp) (by decide) (by decide)) fun a b w e => by
  cases a <;> cases b <;> cases e
  exact ⟨_, _, rfl, rfl, rfl⟩

/-! sorted -/
theorem sorted_uniq : ∀ {as bs : List Int}, as.Perm bs → as.Pairwise (· ≤ ·) → bs.Pairwise (· ≤ ·) → as = bs := fun p a b => p.eq_of_pairwise (fun x y _ _ h1 h2 => Int.le_antisymm h1 h2) a b
theorem sort_ints (ns : List Int) : (ns.mergeSort fun a b => decide (a ≤ b)).Perm ns ∧ (ns.mergeSort fun a b => decide (a ≤ b)).Pairwise (· ≤ ·) := ⟨List.mergeSort_perm _ _, by
  have := List.pairwise_mergeSort (le := fun (a b : Int) => decide (a ≤ b)) (fun a b c h1 h2 => by simp only [decide_eq_true_eq] at *; omega) (fun a b => by simp only [Bool.or_eq_true, decide_eq_true_eq]; omega) ns
  exact this.imp fun h => of_decide_eq_true h⟩
theorem RepL.ints {K : KX} {H : L2.Hp} {bt : Gh} {h : Hp} : ∀ (ns : List Int), RepL K H bt h (ns.map W.int) (ns.map V.int)
  | [] => rfl
  | n :: ns => ⟨.int n, _, rfl, rfl, RepL.ints ns⟩
theorem lst_seq {K : KX} {H : L2.Hp} {bt : Gh} {h : Hp} {a : W} {x : V} {ws : List W} (r : RepT K H bt h a x) (e : a = .lst ws ∨ a = .slst ws) : ∃ p ys, x = .ref p ∧ SqL K H p ys ∧ RepL K H bt h ws ys := by
  rcases e with rfl | rfl
  · obtain ⟨a1, vs, rfl, h1, l1⟩ := repT_lst r
    exact ⟨_, vs, rfl, .of h1, l1⟩
  · obtain ⟨a1, vs, rfl, h1, l1⟩ := r
    exact ⟨_, vs, rfl, h1.sq, l1⟩
/-! isinstance -/
def Tk.nm : Tk → String
  | .tup => "tuple"
  | .lst => "list"
  | .str => "str"
  | .bool => "bool"
  | .int => "int"
def rdIsi (K : KX) (T : Tk) : List V → L2.Hp → VK → Prop := rd1 fun x H Q => L2.rIsi K [x, .ty T.nm] H Q
theorem isi_tab : (∀ T, L2.kitB "NoneType" T.nm = isiF T .non) ∧ (∀ T, L2.kitB "bool" T.nm = isiF T (.bl true)) ∧ (∀ T, L2.kitB "int" T.nm = isiF T (.int 0)) ∧ (∀ T, L2.kitB "str" T.nm = isiF T (.str "")) ∧ (∀ T, L2.kitB "tuple" T.nm = isiF T (.tup [])) ∧ (∀ T, L2.kitB "list" T.nm = isiF T (.lst [])) := by
  refine ⟨fun T => ?_, fun T => ?_, fun T => ?_, fun T => ?_, fun T => ?_, fun T => ?_⟩ <;> cases T <;> decide +kernel
theorem isi_n (T : Tk) : ∀ ws, primF (.isi T) ws ≠ none → ∃ a, ws = [a] := one_of (fun a b => by cases a <;> cases b <;> rfl) (by simp) (by simp) (fun _ _ => by simp)
theorem isi_e (T : Tk) : ∀ a, primF (.isi T) [a] = pOne (.isi T) a := fun _ => rfl
theorem rd_isi (T : Tk) : RdOk (kx X) (.isi T) (rdIsi (kx X) T) := rd_one rfl (fun H bt h a x w Q ok r1 e q => by
  have e : (isiF T a).map W.bl = some w := e
  cases e1 : isiF T a with
  | none => rw [e1] at e; cases e
  | some c =>
    rw [e1] at e
    cases e
    have q := q _ _ (post_flat (w := .bl c) rfl fun _ z => by cases z)
    have fin : ∀ t : String, L2.TyX (kx X) H x (.type t) → L2.kitB t T.nm = some c → L2.rIsi (kx X) [x, .ty T.nm] H Q := fun t ty k => ⟨x, .ty T.nm, .type t, .type T.nm, c, rfl, L2.ClsV.ty T.nm, ty, L2.kit_ty k, q⟩
    obtain ⟨t1, t2, t3, t4, t5, t6⟩ := isi_tab
    cases a with
    | non => cases r1; exact fin "NoneType" (.base .non) ((t1 T).trans e1)
    | bl y => cases r1; exact fin "bool" (.base (.bl _)) ((t2 T).trans (Eq.trans (by cases T <;> rfl) e1))
    | int _ => cases r1; exact fin "int" (.base (.int _)) ((t3 T).trans (Eq.trans (by cases T <;> rfl) e1))
    | str _ => cases r1; exact fin "str" (.base (.str _)) ((t4 T).trans (Eq.trans (by cases T <;> rfl) e1))
    | tup _ =>
      obtain ⟨a1, xs, rfl, h1, l1⟩ := repT_tup r1
      refine fin "tuple" ?_ ((t5 T).trans (Eq.trans (by cases T <;> rfl) e1))
      rcases h1 with (h1 | ⟨o, h1⟩) | ⟨o, its, n, hk, hc, _⟩
      · exact .base (.tup h1)
      · exact .fTuple h1
      · exact .kTuple hk hc
    | lst _ =>
      obtain ⟨a1, xs, rfl, h1, l1⟩ := repT_lst r1
      exact fin "list" (.base (.lst h1)) ((t6 T).trans (Eq.trans (by cases T <;> rfl) e1))
    | slst _ =>
      obtain ⟨a1, xs, rfl, h1, l1⟩ := r1
      refine fin "list" ?_ ((t6 T).trans (Eq.trans (by cases T <;> rfl) e1))
      rcases h1.sq with (h1 | ⟨o, h1⟩) | ⟨o, its, n, hk, hc, _⟩
      · exact .base (.lst h1)
      · exact .base (.frz h1)
      · exact .kList hk hc
    | set _ => simp [isiF] at e1
    | dic _ _ => simp [isiF] at e1
    | ref _ => simp [isiF] at e1
    | ty _ => simp [isiF] at e1
    | cls _ => simp [isiF] at e1
    | exc _ _ => simp [isiF] at e1) (isi_n T) (isi_e T)
end

end Ow

/-! Ow4c: slices. -/
namespace Ow
open PySem PySem.Spec PyProof.Rows
open L2 (V SqL SqT Rd HO upd upd_same upd_ne TE TT TA TS VK Cx PE PT PA PS PSs WX OpR UnR CallR R2 Room)

/-! slices -/
section
variable {X : Cx}
def rSlX (K : KX) : V → Option Int → Option Int → L2.Hp → VK → Prop := fun x lo hi H Q => (L2.rSlL K x lo hi H Q ∨ L2.rSlA K x lo hi H Q) ∨ L2.rSlS x lo hi H Q
theorem sl_all : L2.SlR X (rSlX (kx X)) := (L2.sl_list.or L2.sl_tupA).or L2.sl_str
/-- the parts among the values -/
def rdSl (K : KX) : Bool → Bool → List V → L2.Hp → VK → Prop
  | true, true, [x, .int l, .int u], H, Q => rSlX K x (some l) (some u) H Q
  | true, false, [x, .int l], H, Q => rSlX K x (some l) none H Q
  | false, true, [x, .int u], H, Q => rSlX K x none (some u) H Q
  | false, false, [x], H, Q => rSlX K x none none H Q
  | _, _, _, _, _ => False
def slF (l u : Option Int) : W → Option W
  | .lst ws => some (.lst (cutW ws l u))
  | .tup ws => some (.tup (cutW ws l u))
  | .str z => if okLen z.length then some (.str (L2.cutS z l u)) else none
  | _ => none
theorem slx_ok {H : L2.Hp} {bt : Gh} {h : Hp} {a : W} {x : V} {l u : Option Int} {w : W} {Q : VK} (ok : HeapOk (kx X) H bt h) (r1 : RepT (kx X) H bt h a x)
    (e : slF l u a = some w) (q : ∀ v H', Post (kx X) true H H' bt h w v → Q v H') : rSlX (kx X) x l u H Q := by
  cases a <;> first | (cases e; done) | skip
  · cases r1
    simp only [slF] at e
    split at e
    · cases e
      exact .inr ⟨_, rfl, okLen_le (by assumption), q _ _ (post_flat rfl fun _ z => by cases z)⟩
    · cases e
  · obtain ⟨a1, xs, rfl, h1, l1⟩ := repT_tup r1
    cases e
    refine .inl (.inr ⟨a1, xs, rfl, h1, fun hw => ?_, fun _ p n => q _ _ (post_newT ok n (l1.cut' l u))⟩)
    have hl := l1.length
    refine q _ _ (post_flat ⟨a1, xs, rfl, h1, ?_⟩ fun _ z => by cases z)
    rename_i ws
    have : cutW ws l u = ws := by
      unfold cutW
      rw [hl, hw.1, hw.2, List.drop_zero, Nat.sub_zero, ← hl, List.take_length]
    rw [this]; exact l1
  · obtain ⟨a1, xs, rfl, h1, l1⟩ := repT_lst r1
    cases e
    exact .inl (.inl ⟨a1, xs, rfl, .of h1, fun p n => q _ _ (post_newL n (l1.cut' l u))⟩)
theorem optI_rep {K : KX} {H : L2.Hp} {bt : Gh} {h : Hp} {lo : Bool} {r r1 : List W} {l : Option Int} {vs : List V} (e : optI lo r = some (l, r1)) (rl : RepTL K H bt h r vs) :
    ∃ vs1, RepTL K H bt h r1 vs1 ∧ ((lo = true ∧ ∃ i, l = some i ∧ vs = .int i :: vs1) ∨ (lo = false ∧ l = none ∧ vs = vs1)) := by
  cases lo with
  | false =>
    simp only [optI, Option.some.injEq, Prod.mk.injEq] at e
    obtain ⟨rfl, rfl⟩ := e
    exact ⟨vs, rl, .inr ⟨rfl, rfl, rfl⟩⟩
  | true =>
    cases r with
    | nil => simp [optI] at e
    | cons a r =>
      obtain ⟨v, t, rfl, r1, rl⟩ := rl
      cases a <;> first | (simp [optI] at e; done) | skip
      simp only [optI, Option.some.injEq, Prod.mk.injEq] at e
      obtain ⟨rfl, rfl⟩ := e
      cases r1
      exact ⟨t, rl, .inl ⟨rfl, _, rfl, rfl⟩⟩
theorem rd_sl (lo hi : Bool) : RdOk (kx X) (.sl lo hi) (rdSl (kx X) lo hi) := by
  intro H bt h ws vs w Q ok rl e q
  have rl : RepTL (kx X) H bt h ws vs := rl
  have e : pSl lo hi ws = some w := e
  have q : ∀ v H', Post (kx X) true H H' bt h w v → Q v H' := q
  cases ws with
  | nil => cases e
  | cons x r =>
    obtain ⟨v, t, rfl, r1, rl⟩ := rl
    simp only [pSl, Option.bind_eq_some_iff] at e
    obtain ⟨⟨l, ra⟩, e1, ⟨u, rb⟩, e2, e⟩ := e
    obtain ⟨va, rla, ca⟩ := optI_rep e1 rl
    obtain ⟨vb, rlb, cb⟩ := optI_rep e2 rla
    have e3 : rb = [] ∧ slF l u x = some w := by
      simp only at e
      split at e
      · exact ⟨rfl, e⟩
      · exact ⟨rfl, e⟩
      · exact ⟨rfl, e⟩
      · cases e
    obtain ⟨rfl, e3⟩ := e3
    cases (show vb = [] from rlb)
    have fin := slx_ok (l := l) (u := u) ok r1 e3 q
    rcases ca with ⟨rfl, i, rfl, rfl⟩ | ⟨rfl, rfl, rfl⟩
    · rcases cb with ⟨rfl, j, rfl, rfl⟩ | ⟨rfl, rfl, rfl⟩
      · exact fin
      · exact fin
    · rcases cb with ⟨rfl, j, rfl, rfl⟩ | ⟨rfl, rfl, rfl⟩
      · exact fin
      · exact fin
/-- a part as a value -/
def oL : Option Expr → List Expr
  | none => []
  | some e => [e]
theorem pe_slL {e : Expr} {lo hi : Option Expr} {ts : List TE} {p2 pos : Pos} (hs : PL X (e :: (oL lo ++ oL hi)) ts) : PE X (.Subscript e (.Slice lo hi none p2) pos) (tP ts (rdSl (kx X) lo.isSome hi.isSome)) := by
  have fin : ∀ (pins : List (Addr × PySem.Obj)) (s3 : Shared) (σ : L2.St) (H3 : L2.Hp) (x : V) (v vl vu : Value) (l u : Option Int) (Q : VK), L2.Inv X pins σ H3 s3 → L2.RelV x v → IsPart vl l → IsPart vu u → rSlX (kx X) x l u H3 Q →
      wpAny (model X.prog X.w) X.A (subscriptTail e (.Slice lo hi none p2) v (.ref s3.heap.objs.size)) (L2.EP X pins σ Q) X.xe { s3 with heap := s3.heap.push { cls := .type "slice", data := .fields #[vl, vu, .none] } } := fun pins s3 σ H3 x v vl vu l u Q I3 r1 pl pu q3 => by
    have I4 : L2.Inv X pins σ H3 { s3 with heap := s3.heap.push { cls := .type "slice", data := .fields #[vl, vu, .none] } } := I3.kept (t' := s3.toks) fun b ob q => Heap.get?_push_of_some _ q
    obtain ⟨T, id, hT, ht, hg⟩ := sl_all pins { s3 with heap := s3.heap.push { cls := .type "slice", data := .fields #[vl, vu, .none] } } σ H3 x v vl vu l u s3.heap.objs.size Q I4 r1 (Heap.IsSliceOf.new ..) pl pu q3
    exact tail_any (ops := [.ref s3.heap.objs.size, v]) ht hT hg (by with_unfolding_all rfl)
  cases lo with
  | none =>
    cases hi with
    | none =>
      obtain ⟨te, rfl, he⟩ := hs.one
      refine ⟨fun pins s σ H Q I h => ?_⟩
      refine Subscript_ (L2.thn (he.run pins s σ H _ I h) fun v s1 ⟨x, H1, I1, r1, q1⟩ => ?_)
      refine wpAny_Slice ?_
      rw [evalPart_none]
      refine wpAny_pure (wpAny_pure (wpAny_pure ?_))
      exact fin pins s1 σ H1 x v .none .none none none Q I1 r1 .none .none q1
    | some b =>
      obtain ⟨te, tb, rfl, he, hb⟩ := PL.two hs
      refine ⟨fun pins s σ H Q I h => ?_⟩
      refine Subscript_ (L2.thn (he.run pins s σ H _ I h) fun v s1 ⟨x, H1, I1, r1, q1⟩ => ?_)
      refine wpAny_Slice ?_
      rw [evalPart_none, evalPart_some]
      refine wpAny_pure (L2.thn (hb.run pins s1 σ H1 _ I1 q1) fun v2 s2 ⟨y, H2, I2, r2, q2⟩ => wpAny_pure ?_)
      cases y <;> first | exact q2.elim | skip
      obtain ⟨t, rfl⟩ := r2
      exact fin pins s2 σ H2 x v .none _ none (some _) Q I2 r1 .none (.int _ t) q2
  | some a =>
    cases hi with
    | none =>
      obtain ⟨te, tb, rfl, he, hb⟩ := PL.two hs
      refine ⟨fun pins s σ H Q I h => ?_⟩
      refine Subscript_ (L2.thn (he.run pins s σ H _ I h) fun v s1 ⟨x, H1, I1, r1, q1⟩ => ?_)
      refine wpAny_Slice ?_
      rw [evalPart_none, evalPart_some]
      refine (L2.thn (hb.run pins s1 σ H1 _ I1 q1) fun v2 s2 ⟨y, H2, I2, r2, q2⟩ => wpAny_pure (wpAny_pure ?_))
      cases y <;> first | exact q2.elim | skip
      obtain ⟨t, rfl⟩ := r2
      exact fin pins s2 σ H2 x v _ .none (some _) none Q I2 r1 (.int _ t) .none q2
    | some b =>
      obtain ⟨te, ta, tb, rfl, he, ha, hb⟩ := PL.three hs
      refine ⟨fun pins s σ H Q I h => ?_⟩
      refine Subscript_ (L2.thn (he.run pins s σ H _ I h) fun v s1 ⟨x, H1, I1, r1, q1⟩ => ?_)
      refine wpAny_Slice ?_
      rw [evalPart_none, evalPart_some, evalPart_some]
      refine (L2.thn (ha.run pins s1 σ H1 _ I1 q1) fun v2 s2 ⟨y, H2, I2, r2, q2⟩ => L2.thn (hb.run pins s2 σ H2 _ I2 q2) fun v3 s3 ⟨z, H3, I3, r3, q3⟩ => wpAny_pure ?_)
      cases y <;> first | exact q3.elim | skip
      cases z <;> first | exact q3.elim | skip
      obtain ⟨t, rfl⟩ := r2
      obtain ⟨t', rfl⟩ := r3
      exact fin pins s3 σ H3 x v _ _ (some _) (some _) Q I3 r1 (.int _ t) (.int _ t') q3
/-! list(range(..)) -/
theorem pe_lrg {a : Expr} {ts : List TE} {p1 pos1 p2 pos2 : Pos} (hc : X.calm = true) (hg : L2.Gl X "list") (hm : X.mg "list" = none) (hg2 : L2.Gl X "range") (hm2 : X.mg "range" = none) (n : ns a = true) (h : PL X [a] ts) :
    PE X (.Call (.Name "list" p1) [.Call (.Name "range" p2) [a] [] pos2] [] pos1) (tP ts (rd1 fun x H Q => ∃ n, x = .int n ∧ L2.RgOk 0 n ∧ ∀ q, H q = none → Q (.ref q) (upd H q (.lst (L2.rgV 0 n))))) := by
  obtain ⟨ta, rfl, ha⟩ := h.one
  exact PE.imp (L2.pe_listRg hc hg hm (L2.prg_1 hg2 hm2 ha (star_ns n _ _))) fun σ H Q q => q
theorem pe_trg {a : Expr} {ts : List TE} {p1 pos1 p2 pos2 : Pos} (hc : X.calm = true) (hg : L2.Gl X "tuple") (hm : X.mg "tuple" = none) (hg2 : L2.Gl X "range") (hm2 : X.mg "range" = none) (n : ns a = true) (h : PL X [a] ts) :
    PE X (.Call (.Name "tuple" p1) [.Call (.Name "range" p2) [a] [] pos2] [] pos1) (tP ts (rd1 fun x H Q => ∃ n, x = .int n ∧ L2.RgOk 0 n ∧ ∀ q, H q = none → Q (.ref q) (upd H q (.tup (L2.rgV 0 n))))) := by
  obtain ⟨ta, rfl, ha⟩ := h.one
  exact PE.imp (L2.pe_tupRg hc hg hm (L2.prg_1 hg2 hm2 ha (star_ns n _ _))) fun σ H Q q => q
end
end Ow

/-! Ow4d: sorted(set(x)), len(set(x)). -/
namespace Ow
open PySem PySem.Spec PyProof.Rows SetF
open L2 (V SqL SqT Rd HO upd upd_same upd_ne TE TT TA TS VK Cx PE PT PA PS PSs WX OpR UnR CallR R2 Room)
section
variable {X : Cx}
theorem CallR.or {f : Value} {r1 r2 : List V → L2.Hp → VK → Prop} (h1 : CallR X f r1) (h2 : CallR X f r2) : CallR X f (fun vs H Q => r1 vs H Q ∨ r2 vs H Q) := by
  intro pins s σ H vs us Q I r h
  rcases h with h | h
  · exact h1 pins s σ H vs us Q I r h
  · exact h2 pins s σ H vs us Q I r h
def rSetA (K : KX) : List V → L2.Hp → VK → Prop := fun vs H Q => rSetRows K K.P K.w vs H Q ∨ rSetInts K K.w vs H Q
theorem cr_setA (hc : X.calm = true) (hu : X.A.units + 64 < cLine) : CallR X (.type "set") (rSetA (kx X)) := CallR.or (cr_setRows hc hu) (cr_setInts hc)
def rSortA (K : KX) : List V → L2.Hp → VK → Prop := fun vs H Q => rSortRows K K.P K.w vs H Q ∨ L2.rSortedSet K.w vs H Q
theorem cr_sortA (hc : X.calm = true) (hu : X.A.units + 64 < cLine) : CallR X (.builtin "sorted") (rSortA (kx X)) := CallR.or (cr_sortRows hc hu) (L2.cr_sortedSet hc)
def rLenS (K : KX) : List V → L2.Hp → VK → Prop := fun vs H Q => rLenRows K.P K.w vs H Q ∨ rLenInts K.w vs H Q
theorem cr_lenA : CallR X (.builtin "len") (rLenS (kx X)) := CallR.or cr_lenRows cr_lenInts
/-- rows as they lie -/
theorem rows_vals {K : KX} {H : L2.Hp} {bt : Gh} {h : Hp} : ∀ {ws : List W} {rs : List (List Int)} {vs : List V}, rowsW ws = some rs → RepL K H bt h ws vs → ∃ ks : List (Addr × List Int), vs = ks.map (fun p => V.ref p.1) ∧ ks.map (·.2) = rs ∧ ∀ p ∈ ks, SqT K H p.1 (p.2.map V.int)
  | [], rs, vs, e, r => by
    cases e
    exact ⟨[], r, rfl, fun p hp => by cases hp⟩
  | w :: ws, rs, vs, e, r => by
    obtain ⟨v, t, rfl, r1, r2⟩ := r
    cases w <;> first | (simp [rowsW] at e; done) | skip
    simp only [rowsW, Option.bind_eq_some_iff, Option.map_eq_some_iff] at e
    obtain ⟨n, e1, rs', e2, rfl⟩ := e
    obtain ⟨ks, rfl, h2, h3⟩ := rows_vals e2 r2
    obtain ⟨a, us, rfl, sq, l⟩ := r1
    cases allInt_vals e1 l
    refine ⟨(a, n) :: ks, rfl, by rw [List.map_cons, h2], fun p hp => ?_⟩
    rcases List.mem_cons.mp hp with rfl | hp
    · exact sq
    · exact h3 p hp
theorem RepL.rows {K : KX} {H : L2.Hp} {bt : Gh} {h : Hp} : ∀ (L : List (Addr × List Int)), (∀ p ∈ L, SqT K H p.1 (p.2.map V.int)) → RepL K H bt h ((L.map (·.2)).map rowW) (L.map fun p => V.ref p.1)
  | [], _ => rfl
  | p :: L, hL => ⟨_, _, rfl, ⟨p.1, _, rfl, hL p (List.mem_cons_self ..), RepL.ints _⟩, RepL.rows L fun q hq => hL q (List.mem_cons_of_mem _ hq)⟩
theorem rows_short {L : List (Addr × List Int)} {ks : List (Addr × List Int)} (hsub : ∀ p ∈ L, p ∈ ks) (hall : ∀ p ∈ ks, p.2 ∈ L.map (·.2)) (hn : (L.map (·.2)).Nodup) (hb : ((ks.map (·.2)).all (fun r => !r.isEmpty) || decide ((uniq (ks.map (·.2))).length ≤ 1)) = true) : (∀ q ∈ L, q.2 ≠ []) ∨ L.length ≤ 1 := by
  rw [Bool.or_eq_true] at hb
  rcases hb with hb | hb
  · refine .inl fun q hq z => ?_
    have := List.all_eq_true.mp hb q.2 (List.mem_map.mpr ⟨q, hsub q hq, rfl⟩)
    rw [z] at this
    cases this
  · refine .inr ?_
    have p : (L.map (·.2)).Perm (uniq (ks.map (·.2))) := perm_of_same hn (nodup_uniq _) fun r => by
      rw [mem_uniq]
      constructor
      · intro hr
        obtain ⟨q, hq, rfl⟩ := List.mem_map.mp hr
        exact List.mem_map.mpr ⟨q, hsub q hq, rfl⟩
      · intro hr
        obtain ⟨q, hq, rfl⟩ := List.mem_map.mp hr
        exact hall q hq
    have e := p.length_eq
    rw [List.length_map] at e
    rw [e]
    exact of_decide_eq_true hb
theorem same_rows {L : List (Addr × List Int)} {ks : List (Addr × List Int)} (hsub : ∀ p ∈ L, p ∈ ks) (hall : ∀ p ∈ ks, p.2 ∈ L.map (·.2)) (r : List Int) : r ∈ L.map (·.2) ↔ r ∈ ks.map (·.2) := by
  constructor
  · intro hr
    obtain ⟨q, hq, rfl⟩ := List.mem_map.mp hr
    exact List.mem_map.mpr ⟨q, hsub q hq, rfl⟩
  · intro hr
    obtain ⟨q, hq, rfl⟩ := List.mem_map.mp hr
    exact hall q hq
theorem sqT_same {K : KX} {H H' : L2.Hp} {a : Addr} {vs : List V} (s : L2.Same H H') (q : SqT K H a vs) : SqT K H' a vs := by
  rcases q with (q | ⟨o, q⟩) | q
  · exact .inl (.inl (s _ _ q))
  · exact .inl (.inr ⟨o, s _ _ q⟩)
  · exact .inr q
theorem rd_sset : RdOk (kx X) .sset (fun vs H Q => rSetA (kx X) vs H fun v H1 => rSortA (kx X) [v] H1 Q) := rd_one rfl (fun H bt h a x w Q ok r1 e q => by
  have e' : pSset a = some w := e
  clear e
  unfold pSset at e'
  obtain ⟨ws, e1, e2⟩ := Option.bind_eq_some_iff.mp e'
  clear e'
  obtain ⟨p, ys, rfl, sq, l⟩ := items_seq r1 e1
  cases e3 : allInt ws with
  | some ns =>
    rw [e3] at e2
    simp only at e2
    split at e2
    · cases e2
      rename_i hl
      cases allInt_vals e3 l
      refine .inr ⟨p, ns, rfl, sq, by omega, fun a1 c hn hc => .inr ⟨a1, _, c, rfl, upd_same, by omega, fun ms p1 h1 h2 h3 hn1 => ?_⟩⟩
      have em : ms = sortInts ns := sortInts_eq (h1.imp fun h => Int.le_of_lt h) (h1.imp fun h => Int.ne_of_lt h) fun k => by
        rw [h2]
        exact decide_eq_true_iff
      subst em
      have hne : a1 ≠ p1 := fun z => by rw [z, upd_same] at hn1; cases hn1
      have hn2 : H p1 = none := by rw [upd_ne (Ne.symm hne)] at hn1; exact hn1
      exact q _ _ ⟨p1, _, rfl, hn2, upd_same, RepL.ints _, (Same.upd hn).trans (Same.upd hn1)⟩
    · cases e2
  | none =>
    rw [e3] at e2
    simp only at e2
    obtain ⟨rs, e4, e5⟩ := Option.bind_eq_some_iff.mp e2
    split at e5
    · cases e5
      rename_i hl
      obtain ⟨hl, hb⟩ := hl
      obtain ⟨ks, rfl, rfl, hk⟩ := rows_vals e4 l
      refine .inl ⟨p, ks, rfl, sq, hk, by rw [List.length_map] at hl; exact hl, fun a1 L hn hsub hall hnd => .inl ⟨a1, L, rfl, upd_same, fun r hr => ?_, rows_short hsub hall hnd hb, fun L' p1 hL' hm hn1 => ?_⟩⟩
      · exact sqT_same (Same.upd hn) (hk r (hsub r hr))
      · have hne : a1 ≠ p1 := fun z => by rw [z, upd_same] at hn1; cases hn1
        have hn2 : H p1 = none := by rw [upd_ne (Ne.symm hne)] at hn1; exact hn1
        have es : sortRows (ks.map (·.2)) = L'.map (·.2) := by rw [hL']; exact (sortRows_same (same_rows hsub hall)).symm
        rw [es] at q
        exact q _ _ ⟨p1, _, rfl, hn2, upd_same, RepL.rows L' fun r hr => hk r (hsub r (hm r hr)), (Same.upd hn).trans (Same.upd hn1)⟩
    · cases e5) (one_of (fun a b => by cases a <;> cases b <;> rfl) (by decide) (by decide) (fun _ _ => by simp)) (fun _ => rfl)
theorem rd_set1 : RdOk (kx X) .set1 (fun vs H Q => rSetRows (kx X).K (kx X).P (kx X).w vs H Q) := rd_one rfl (fun H bt h a x w Q ok r1 e q => by
  have e' : ((items a).bind fun ws => (rowsW ws).bind fun rs => if rs.length < 64 then some (W.set rs) else none) = some w := e
  clear e
  obtain ⟨ws, e1, e2⟩ := Option.bind_eq_some_iff.mp e'
  obtain ⟨rs, e3, e4⟩ := Option.bind_eq_some_iff.mp e2
  split at e4
  · cases e4
    rename_i hl
    obtain ⟨p, ys, rfl, sq, l⟩ := items_seq r1 e1
    obtain ⟨ks, rfl, rfl, hk⟩ := rows_vals e3 l
    refine ⟨p, ks, rfl, sq, hk, by rw [List.length_map] at hl; exact hl, fun a1 L hn hsub hall hnd => ?_⟩
    have s1 : L2.Same H (upd H a1 (L2.SetTO (kx X).P (kx X).w a1 L)) := Same.upd hn
    exact q _ _ (show L2.Same H (upd H a1 (L2.SetTO (kx X).P (kx X).w a1 L)) ∧ Rep (kx X) (upd H a1 (L2.SetTO (kx X).P (kx X).w a1 L)) bt h (.set (ks.map (·.2))) (.ref a1) from ⟨s1, a1, L, rfl, upd_same, fun r hr => sqT_same s1 (hk r (hsub r hr)), fun r => (same_rows hsub hall r).symm⟩)
  · cases e4) (one_of (fun a b => by cases a <;> cases b <;> rfl) (by decide) (by decide) (fun _ _ => by simp)) (fun _ => rfl)
theorem rd_lset : RdOk (kx X) .lset (fun vs H Q => rSetA (kx X) vs H fun v H1 => rLenS (kx X) [v] H1 Q) := rd_one rfl (fun H bt h a x w Q ok r1 e q => by
  have e' : pLset a = some w := e
  clear e
  unfold pLset at e'
  obtain ⟨ws, e1, e2⟩ := Option.bind_eq_some_iff.mp e'
  clear e'
  obtain ⟨p, ys, rfl, sq, l⟩ := items_seq r1 e1
  cases e3 : allInt ws with
  | some ns =>
    rw [e3] at e2
    simp only at e2
    split at e2
    · cases e2
      rename_i hl
      cases allInt_vals e3 l
      refine .inr ⟨p, ns, rfl, sq, hl, fun a1 c hn hc => .inr ⟨a1, _, c, rfl, upd_same, fun ms h1 h2 h3 => ?_⟩⟩
      have em : ms.Perm (uniq ns) := perm_of_same h1 (nodup_uniq ns) fun k => by
        rw [h2, mem_uniq]
        exact decide_eq_true_iff
      rw [← h3, em.length_eq]
      exact q _ _ ⟨Same.upd hn, rfl⟩
    · cases e2
  | none =>
    rw [e3] at e2
    simp only at e2
    obtain ⟨rs, e4, e5⟩ := Option.bind_eq_some_iff.mp e2
    split at e5
    · cases e5
      rename_i hl
      obtain ⟨ks, rfl, rfl, hk⟩ := rows_vals e4 l
      refine .inl ⟨p, ks, rfl, sq, hk, by rw [List.length_map] at hl; exact hl, fun a1 L hn hsub hall hnd => .inl ⟨a1, L, rfl, upd_same, ?_⟩⟩
      have em : (L.map (·.2)).Perm (uniq (ks.map (·.2))) := perm_of_same hnd (nodup_uniq _) fun r => by rw [mem_uniq]; exact same_rows hsub hall r
      have el := em.length_eq
      rw [List.length_map] at el
      rw [el]
      exact q _ _ ⟨Same.upd hn, rfl⟩
    · cases e5) (one_of (fun a b => by cases a <;> cases b <;> rfl) (by decide) (by decide) (fun _ _ => by simp)) (fun _ => rfl)
def rSortX (K : KX) : List V → L2.Hp → VK → Prop := fun vs H Q => (L2.rSortedI K vs H Q ∨ rSortTI K vs H Q) ∨ rSortL K vs H Q
theorem cr_sortX (hu : X.A.units + 64 < cLine) : CallR X (.builtin "sorted") (rSortX (kx X)) := CallR.or (CallR.or L2.cr_sortedI (cr_sortTI hu)) (cr_sortL hu)
theorem rd_sorted1 : RdOk (kx X) .sorted1 (rSortX (kx X)) := rd_one rfl (fun H bt h a x w Q ok r1 e q => by
  have e' : ((items a).bind pSort).map W.lst = some w := e
  clear e
  obtain ⟨us, e2, rfl⟩ := Option.map_eq_some_iff.mp e'
  clear e'
  obtain ⟨ws, e1, e2⟩ := Option.bind_eq_some_iff.mp e2
  obtain ⟨p, ys, rfl, sq, l⟩ := items_seq r1 e1
  unfold pSort at e2
  cases e3 : allInt ws with
  | some ns =>
    rw [e3] at e2
    cases e2
    cases allInt_vals e3 l
    rcases sq with sq | sq
    · refine .inl (.inl ⟨p, ns, rfl, sq, fun ns' p' h1 h2 n => ?_⟩)
      have e2 : ns' = ns.mergeSort fun a b => decide (a ≤ b) := sorted_uniq (h1.trans (sort_ints ns).1.symm) h2 (sort_ints ns).2
      subst e2
      exact q _ _ (post_newL n (RepL.ints _))
    · exact .inl (.inr ⟨p, ns, rfl, sq, fun p' n => q _ _ (post_newL n (RepL.ints _))⟩)
  | none =>
    rw [e3] at e2
    simp only at e2
    obtain ⟨rs, e4, e5⟩ := Option.bind_eq_some_iff.mp e2
    split at e5
    · rename_i hb
      cases e5
      obtain ⟨ks, rfl, rfl, hk⟩ := rows_vals e4 l
      refine .inr ⟨p, ks, rfl, sq, hk, ?_, fun L' p1 hp hL hn => ?_⟩
      · rw [Bool.or_eq_true] at hb
        rcases hb with hb | hb
        · refine .inl fun r hr z => ?_
          have := List.all_eq_true.mp hb r.2 (List.mem_map.mpr ⟨r, hr, rfl⟩)
          rw [z] at this
          cases this
        · exact .inr (by have := of_decide_eq_true hb; rwa [List.length_map] at this)
      · rw [← hL] at q
        exact q _ _ (post_newL hn (RepL.rows L' fun r hr => hk r (hp.mem_iff.mp hr)))
    · cases e5) (one_of (fun a b => by cases a <;> cases b <;> rfl) (by decide) (by decide) (fun _ _ => by simp)) (fun _ => rfl)
end
end Ow

/-! Ow5: which expression an Ex stands for (Bool checks), and that the run of it says what the evaluator says. -/
namespace Ow
open PySem PySem.Spec PyProof.Rows
open L2 (V SqL SqT Rd HO upd upd_same upd_ne TE TT TA TS VK Cx PE PT PA PS PSs WX OpR UnR CallR R2 Room Gl Sp XK CXT FnOk Binds)

structure MC where
  T : List Def
  N : List Str
  sc : Scope
  os : Scope
def visB (C : MC) (x : Str) : Bool := match C.sc.names.lookup x with
  | some .local => true
  | some .cell => true
  | some .free => true
  | _ => false
def glB (C : MC) (x : Str) : Bool := match C.sc.names.lookup x with
  | some .globalImplicit => true
  | _ => false
def okN (x : Str) : Bool := !(x == ("__debug__" : Str)) && !(x == ("__classdict__" : Str)) && !(x == ("__name__" : Str))
def ownB (C : MC) (x : Str) : Bool := match C.os.names.lookup x with
  | some .local => true
  | some .cell => true
  | _ => false
def binShp (o : Operator) : Expr → Option (List Expr)
  | .BinOp a o' b _ => if o' = o then some [a, b] else none
  | _ => none
def cmpShp (o : CmpOp) : Expr → Option (List Expr)
  | .Compare a [o'] [b] _ => if o' = o ∧ behindInMarks o' b = false then some [a, b] else none
  | _ => none
def isShp (o : CmpOp) : Expr → Option (List Expr)
  | .Compare a [o'] [.Constant .none _ _] _ => if o' = o then some [a] else none
  | _ => none
def callShp1 (C : MC) (x : Str) : Expr → Option (List Expr)
  | .Call (.Name y _) [a] [] _ => if y = x ∧ glB C x = true ∧ ns a = true then some [a] else none
  | _ => none
def callShp2 (C : MC) (x : Str) : Expr → Option (List Expr)
  | .Call (.Name y _) [a, b] [] _ => if y = x ∧ glB C x = true ∧ ns a = true ∧ ns b = true then some [a, b] else none
  | _ => none
def isiShp (C : MC) (T : Tk) : Expr → Option (List Expr)
  | .Call (.Name y _) [a, .Name z _] [] _ => if y = "isinstance" ∧ z = Str.ofString T.nm ∧ glB C "isinstance" = true ∧ glB C (Str.ofString T.nm) = true ∧ ns a = true then some [a] else none
  | _ => none
def rgShp (C : MC) (x : Str) : Expr → Option (List Expr)
  | .Call (.Name y _) [.Call (.Name z _) [a] [] _] [] _ => if y = x ∧ z = "range" ∧ glB C x = true ∧ glB C "range" = true ∧ ns a = true then some [a] else none
  | _ => none
def setShp (C : MC) (x : Str) : Expr → Option (List Expr)
  | .Call (.Name y _) [.Call (.Name z _) [a] [] _] [] _ => if y = x ∧ z = "set" ∧ glB C x = true ∧ glB C "set" = true ∧ ns a = true then some [a] else none
  | _ => none
def plainIxB : Expr → Bool
  | .Name _ _ => true
  | .Constant _ _ _ => true
  | .BinOp _ _ _ _ => true
  | .UnaryOp _ _ _ => true
  | .Call _ _ _ _ => true
  | .Subscript _ _ _ => true
  | _ => false
def ixShp : Expr → Option (List Expr)
  | .Subscript a b _ => if plainIxB b = true then some [a, b] else none
  | _ => none
def slShp (lo hi : Bool) : Expr → Option (List Expr)
  | .Subscript a (.Slice l u none _) _ => if l.isSome = lo ∧ u.isSome = hi then some (a :: (oL l ++ oL u)) else none
  | _ => none
def tupShp : Expr → Option (List Expr)
  | .Tuple es _ _ => if es.all ns = true then some es else none
  | _ => none
def lstShp : Expr → Option (List Expr)
  | .List es _ => if es.all ns = true then some es else none
  | _ => none
def negShp : Expr → Option (List Expr)
  | .UnaryOp .USub a _ => some [a]
  | _ => none
def shp (C : MC) (p : Prim) (e : Expr) : Option (List Expr) := match p with
  | .add => binShp .Add e
  | .sub => binShp .Sub e
  | .mul => binShp .Mult e
  | .mod => binShp .Mod e
  | .fdiv => binShp .FloorDiv e
  | .pow => binShp .Pow e
  | .neg => negShp e
  | .eq => cmpShp .Eq e
  | .ne => cmpShp .NotEq e
  | .lt => cmpShp .Lt e
  | .isB => cmpShp .Is e
  | .le => cmpShp .LtE e
  | .gt => cmpShp .Gt e
  | .ge => cmpShp .GtE e
  | .mem => cmpShp .In e
  | .nmem => cmpShp .NotIn e
  | .isN => isShp .Is e
  | .notN => isShp .IsNot e
  | .idx => ixShp e
  | .sl lo hi => slShp lo hi e
  | .tupd => tupShp e
  | .lstd => lstShp e
  | .len => callShp1 C "len" e
  | .int1 => callShp1 C "int" e
  | .abs => callShp1 C "abs" e
  | .str1 => callShp1 C "str" e
  | .list1 => callShp1 C "list" e
  | .tuple1 => callShp1 C "tuple" e
  | .sorted1 => callShp1 C "sorted" e
  | .all1 => callShp1 C "all" e
  | .any1 => callShp1 C "any" e
  | .sum1 => callShp1 C "sum" e
  | .min1 => callShp1 C "min" e
  | .max1 => callShp1 C "max" e
  | .min2 => callShp2 C "min" e
  | .max2 => callShp2 C "max" e
  | .rangeL => rgShp C "list" e
  | .rangeT => rgShp C "tuple" e
  | .isi T => isiShp C T e
  | .sset => setShp C "sorted" e
  | .lset => setShp C "len" e
  | .set1 => callShp1 C "set" e

/-- the built-in names that are used -/
def bltNames : List Str := ["len", "int", "abs", "str", "list", "tuple", "sorted", "all", "any", "sum", "min", "max", "isinstance", "range", "bool", "zip", "enumerate", "set"]

/-! ### the context -/
/-- a def's promise, by the evaluator -/
def spC (K : KX) (T : List Def) (Nw d k np : Nat) : Sp := fun vs H Q E => vs.length = np ∧ ∃ b bt h ws, HeapOk K H bt h ∧ b ≤ h.length ∧ RepL K H bt h ws vs ∧ OkE K (fun c x _ H' => E c x H') [] H bt b h Q (evC T Nw d b k ws h)
structure Ctx (Nw d : Nat) (C : MC) (X : Cx) : Prop where
  hN : X.N = C.N
  nd : C.N.Nodup
  sc : X.env.scope = C.sc
  calm : X.calm = true
  loc : ∀ x, C.os.names.lookup x = some .local → C.sc.names.lookup x = some .local
  cel : ∀ x, C.os.names.lookup x = some .cell → C.sc.names.lookup x = some .cell ∧ X.fn x = true
  room : Room d X.A
  blt : ∀ x ∈ bltNames, X.mg x = none
  fns : ∀ k df, C.T[k]? = some df → ∃ f fd ps, FnOk X.prog X.w X.K X.mg X.base (L2.CX X.prog X.w) d f fd ps (spC (kx X) C.T Nw d k df.np) ∧ X.mg df.name = some (.ref f) ∧ PySem.W.keepIn X.K (.ref f) = true ∧ Binds X.K fd ps []
section
variable {Nw d : Nat} {C : MC} {X : Cx}
theorem Ctx.units (c : Ctx Nw d C X) : X.A.units + 65 < cLine := by have := c.room.un; omega
theorem Ctx.vis (c : Ctx Nw d C X) {x : Str} (h : visB C x = true) : L2.Vis X.env.scope x := by
  unfold L2.Vis
  rw [c.sc]
  unfold visB at h
  split at h <;> first | exact .inl (by assumption) | exact .inr (.inl (by assumption)) | exact .inr (.inr (by assumption)) | cases h
theorem Ctx.gl (c : Ctx Nw d C X) {x : Str} (h : glB C x = true) : Gl X x := by
  show X.env.scope.names.lookup x = _
  rw [c.sc]
  unfold glB at h
  split at h <;> first | assumption | cases h

/-! ### primitives -/
theorem binS {o : Operator} {e : Expr} {es : List Expr} {ts : List TE} {r : R2} (h : binShp o e = some es) (p : PL X es ts) (ho : OpR X (binaryOp o) r) : PE X e (tP ts (rd2 r)) := by
  cases e <;> first | (cases h; done) | skip
  simp only [binShp] at h
  split at h
  · cases h
    rename_i q
    subst q
    exact pe_bin ho p
  · cases h
theorem cmpS {o : CmpOp} {e : Expr} {es : List Expr} {ts : List TE} {r : R2} (h : cmpShp o e = some es) (p : PL X es ts) (ho : OpR X (compareOp o) r) : PE X e (tP ts (rd2 r)) := by
  unfold cmpShp at h
  split at h
  · split at h
    · cases h
      rename_i q
      obtain ⟨rfl, q⟩ := q
      exact pe_cmp ho p q
    · cases h
  · cases h
theorem isS {e : Expr} {es : List Expr} {ts : List TE} (h : isShp .Is e = some es) (p : PL X es ts) : PE X e (tP ts (rdIsN id)) := by
  unfold isShp at h
  split at h
  · split at h
    · cases h
      rename_i q
      subst q
      exact pe_isN p rfl
    · cases h
  · cases h
theorem notS {e : Expr} {es : List Expr} {ts : List TE} (h : isShp .IsNot e = some es) (p : PL X es ts) : PE X e (tP ts (rdIsN not)) := by
  unfold isShp at h
  split at h
  · split at h
    · cases h
      rename_i q
      subst q
      exact pe_notN p rfl
    · cases h
  · cases h
theorem call1B (c : Ctx Nw d C X) {x : Str} {id : String} {e : Expr} {es : List Expr} {ts : List TE} {r : List V → L2.Hp → VK → Prop} (h : callShp1 C x e = some es) (p : PL X es ts) (hc : CallR X (.builtin id) r) (hv : bootBuiltins x = some (.builtin id)) (hx : x ∈ bltNames)
    (hn : x ≠ "__name__" := by decide) (hdb : (x == ("__debug__" : Str)) = false := by decide) : PE X e (tP ts r) := by
  unfold callShp1 at h
  split at h
  · split at h
    · cases h
      rename_i q
      obtain ⟨rfl, q1, q2⟩ := q
      exact L2.pe_callB hc (c.gl q1) (c.blt _ hx) hv (p.pa (by simp [q2])) hn hdb (star_ns q2 _ _) rfl
    · cases h
  · cases h
theorem call1T (c : Ctx Nw d C X) {x : Str} {T : String} {e : Expr} {es : List Expr} {ts : List TE} {r : List V → L2.Hp → VK → Prop} (h : callShp1 C x e = some es) (p : PL X es ts) (hc : CallR X (.type T) r) (hv : bootBuiltins x = some (.type T)) (hx : x ∈ bltNames)
    (hn : x ≠ "__name__" := by decide) (hdb : (x == ("__debug__" : Str)) = false := by decide) : PE X e (tP ts r) := by
  unfold callShp1 at h
  split at h
  · split at h
    · cases h
      rename_i q
      obtain ⟨rfl, q1, q2⟩ := q
      exact L2.pe_callTy hc (c.gl q1) (c.blt _ hx) hv (p.pa (by simp [q2])) hn hdb (star_ns q2 _ _) rfl
    · cases h
  · cases h
theorem call2B (c : Ctx Nw d C X) {x : Str} {id : String} {e : Expr} {es : List Expr} {ts : List TE} {r : List V → L2.Hp → VK → Prop} (h : callShp2 C x e = some es) (p : PL X es ts) (hc : CallR X (.builtin id) r) (hv : bootBuiltins x = some (.builtin id)) (hx : x ∈ bltNames)
    (hn : x ≠ "__name__" := by decide) (hdb : (x == ("__debug__" : Str)) = false := by decide) : PE X e (tP ts r) := by
  unfold callShp2 at h
  split at h
  · split at h
    · cases h
      rename_i q
      obtain ⟨rfl, q1, q2, q3⟩ := q
      exact L2.pe_callB hc (c.gl q1) (c.blt _ hx) hv (p.pa (by simp [q2, q3])) hn hdb (star_ns q2 _ _) (star_all (by simp [q3]) _ _)
    · cases h
  · cases h
theorem ixS {e : Expr} {es : List Expr} {ts : List TE} (h : ixShp e = some es) (p : PL X es ts) : PE X e (tP ts (rd2 (L2.rIx (kx X)))) := by
  unfold ixShp at h
  split at h
  · split at h
    · cases h
      rename_i a b pos q
      refine pe_ixL L2.ix_seq p fun o i => ?_
      cases b <;> first | (cases q; done) | rfl
    · cases h
  · cases h
theorem slS {lo hi : Bool} {e : Expr} {es : List Expr} {ts : List TE} (h : slShp lo hi e = some es) (p : PL X es ts) : PE X e (tP ts (rdSl (kx X) lo hi)) := by
  unfold slShp at h
  split at h
  · split at h
    · cases h
      rename_i q
      obtain ⟨rfl, rfl⟩ := q
      exact pe_slL p
    · cases h
  · cases h
theorem tupS {e : Expr} {es : List Expr} {ts : List TE} (h : tupShp e = some es) (p : PL X es ts) : PE X e (tP ts rdTup) := by
  unfold tupShp at h
  split at h
  · split at h
    · cases h
      exact pe_tupL p (by assumption)
    · cases h
  · cases h
theorem lstS {e : Expr} {es : List Expr} {ts : List TE} (h : lstShp e = some es) (p : PL X es ts) : PE X e (tP ts rdLst) := by
  unfold lstShp at h
  split at h
  · split at h
    · cases h
      exact pe_lstL p (by assumption)
    · cases h
  · cases h
theorem negS {e : Expr} {es : List Expr} {ts : List TE} (h : negShp e = some es) (p : PL X es ts) : PE X e (tP ts (rd1 (L2.rU fun i => .int (-i)))) := by
  unfold negShp at h
  split at h
  · cases h
    obtain ⟨ta, rfl, ha⟩ := p.one
    exact L2.pe_un L2.un_neg ha
  · cases h
theorem rgS (c : Ctx Nw d C X) {e : Expr} {es : List Expr} {ts : List TE} (h : rgShp C "list" e = some es) (p : PL X es ts) : PE X e (tP ts (rd1 fun x H Q => ∃ n, x = .int n ∧ L2.RgOk 0 n ∧ ∀ q, H q = none → Q (.ref q) (upd H q (.lst (L2.rgV 0 n))))) := by
  unfold rgShp at h
  split at h
  · split at h
    · cases h
      rename_i q
      obtain ⟨rfl, rfl, q1, q2, q3⟩ := q
      exact pe_lrg c.calm (c.gl q1) (c.blt _ (by decide)) (c.gl q2) (c.blt _ (by decide)) q3 p
    · cases h
  · cases h
theorem rgST (c : Ctx Nw d C X) {e : Expr} {es : List Expr} {ts : List TE} (h : rgShp C "tuple" e = some es) (p : PL X es ts) : PE X e (tP ts (rd1 fun x H Q => ∃ n, x = .int n ∧ L2.RgOk 0 n ∧ ∀ q, H q = none → Q (.ref q) (upd H q (.tup (L2.rgV 0 n))))) := by
  unfold rgShp at h
  split at h
  · split at h
    · cases h
      rename_i q
      obtain ⟨rfl, rfl, q1, q2, q3⟩ := q
      exact pe_trg c.calm (c.gl q1) (c.blt _ (by decide)) (c.gl q2) (c.blt _ (by decide)) q3 p
    · cases h
  · cases h
theorem RepL.rg {K : KX} {H : L2.Hp} {bt : Gh} {h : Hp} (f : Nat → Int) : ∀ l : List Nat, RepL K H bt h (l.map fun i => W.int (f i)) (l.map fun i => V.int (f i))
  | [] => rfl
  | n :: ns => ⟨_, _, rfl, rfl, RepL.rg f ns⟩
theorem rd_rangeL : RdOk (kx X) .rangeL (rd1 fun x H Q => ∃ n, x = .int n ∧ L2.RgOk 0 n ∧ ∀ q, H q = none → Q (.ref q) (upd H q (.lst (L2.rgV 0 n)))) := RdOk.of1 rfl (fun H bt h a x w Q ok r1 e q => by
  cases a <;> first | (cases e; done) | skip
  cases r1
  rename_i n
  have e : (if n ≤ 16777216 ∧ -(2 ^ 62) ≤ n then some (W.lst ((List.range n.toNat).map fun i => .int (i : Nat))) else none) = some w := e
  split at e
  · cases e
    rename_i hn
    refine ⟨n, rfl, ⟨by omega, by omega, by omega, by omega, by omega⟩, fun p np => q _ _ (post_newL np ?_)⟩
    have := RepL.rg (K := (kx X)) (H := H) (bt := bt) (h := h) (fun i => (0 : Int) + (i : Nat)) (List.range (n - 0).toNat)
    unfold L2.rgV
    simp only [Int.sub_zero] at this ⊢
    simpa using this
  · cases e) (one_of (fun a b => by cases a <;> cases b <;> rfl) (by decide) (by decide) (fun _ _ => by simp))
theorem rd_rangeT : RdOk (kx X) .rangeT (rd1 fun x H Q => ∃ n, x = .int n ∧ L2.RgOk 0 n ∧ ∀ q, H q = none → Q (.ref q) (upd H q (.tup (L2.rgV 0 n)))) := RdOk.of1 rfl (fun H bt h a x w Q ok r1 e q => by
  cases a <;> first | (cases e; done) | skip
  cases r1
  rename_i n
  have e : (if n ≤ 16777216 ∧ -(2 ^ 62) ≤ n then some (W.tup ((List.range n.toNat).map fun i => .int (i : Nat))) else none) = some w := e
  split at e
  · cases e
    rename_i hn
    refine ⟨n, rfl, ⟨by omega, by omega, by omega, by omega, by omega⟩, fun p np => q _ _ (post_newT ok np ?_)⟩
    have := RepL.rg (K := (kx X)) (H := H) (bt := bt) (h := h) (fun i => (0 : Int) + (i : Nat)) (List.range (n - 0).toNat)
    unfold L2.rgV
    simp only [Int.sub_zero] at this ⊢
    simpa using this
  · cases e) (one_of (fun a b => by cases a <;> cases b <;> rfl) (by decide) (by decide) (fun _ _ => by simp))
theorem isiS (c : Ctx Nw d C X) {T : Tk} {e : Expr} {es : List Expr} {ts : List TE} (h : isiShp C T e = some es) (p : PL X es ts) (hT : bootBuiltins (Str.ofString T.nm) = some (.type T.nm)) (hx : Str.ofString T.nm ∈ bltNames) (hn : Str.ofString T.nm ≠ "__name__") (hdb : (Str.ofString T.nm == ("__debug__" : Str)) = false) : PE X e (tP ts (rdIsi (kx X) T)) := by
  unfold isiShp at h
  split at h
  · split at h
    · cases h
      rename_i q
      obtain ⟨rfl, rfl, q1, q2, q3⟩ := q
      obtain ⟨ta, rfl, ha⟩ := p.one
      have hb := fun pos => L2.pe_bltn (X := X) (pos := pos) (c.gl q2) (c.blt _ hx) hT (v := .ty T.nm) rfl hn hdb
      refine PE.imp (L2.pe_callB (t := L2.tCons ta (L2.tCons (L2.tC (.ty T.nm)) L2.tNil)) L2.call_isi (c.gl q1) (c.blt _ (by decide)) PyProof.Rows.boot_isinstance (L2.pa_cons ha (L2.pa_cons (hb _) L2.pa_nil rfl) (star_ns q3 _ _)) (by decide) (by decide) (star_ns q3 _ _) rfl) fun σ H Q q => ?_
      exact q
    · cases h
  · cases h
theorem setS (c : Ctx Nw d C X) {x : Str} {id : String} {e : Expr} {es : List Expr} {ts : List TE} {r1 r2 : List V → L2.Hp → VK → Prop} (h : setShp C x e = some es) (p : PL X es ts) (h1 : CallR X (.type "set") r1) (h2 : CallR X (.builtin id) r2) (hv : bootBuiltins x = some (.builtin id)) (hx : x ∈ bltNames)
    (hn : x ≠ "__name__" := by decide) (hdb : (x == ("__debug__" : Str)) = false := by decide) : PE X e (tP ts fun vs H Q => r1 vs H fun v H1 => r2 [v] H1 Q) := by
  unfold setShp at h
  split at h
  · split at h
    · cases h
      rename_i q
      obtain ⟨rfl, rfl, q1, q2, q3⟩ := q
      refine PE.imp (L2.pe_callB h2 (c.gl q1) (c.blt _ hx) hv (L2.pa_cons (L2.pe_callTy h1 (c.gl q2) (c.blt _ (by decide)) (by decide +kernel) (p.pa (by simp [q3])) (by decide) (by decide) (star_ns q3 _ _) rfl) L2.pa_nil (star_ns rfl _ _)) hn hdb (star_ns rfl _ _) rfl) fun σ H Q q => ?_
      exact q
    · cases h
  · cases h
theorem tk_ok (T : Tk) : bootBuiltins (Str.ofString T.nm) = some (.type T.nm) ∧ Str.ofString T.nm ∈ bltNames ∧ Str.ofString T.nm ≠ "__name__" ∧ (Str.ofString T.nm == ("__debug__" : Str)) = false := by
  cases T <;> exact ⟨by decide +kernel, by decide +kernel, by decide +kernel, by decide +kernel⟩
theorem prim_sound (c : Ctx Nw d C X) : ∀ (p : Prim) (e : Expr) (es : List Expr) (ts : List TE), shp C p e = some es → PL X es ts → ∃ rd, RdOk (kx X) p rd ∧ PE X e (tP ts rd)
  | .add, e, es, ts, h, p => ⟨_, rd_add, binS h p op_addA⟩
  | .sub, e, es, ts, h, p => ⟨_, rd_sub, binS h p L2.op_sub⟩
  | .mul, e, es, ts, h, p => ⟨_, rd_mul, binS h p op_mulA⟩
  | .mod, e, es, ts, h, p => ⟨_, rd_mod, binS h p L2.op_modN⟩
  | .fdiv, e, es, ts, h, p => ⟨_, rd_fdiv, binS h p L2.op_fdivN⟩
  | .pow, e, es, ts, h, p => ⟨_, rd_pow, binS h p L2.op_pow⟩
  | .neg, e, es, ts, h, p => ⟨_, rd_neg, negS h p⟩
  | .eq, e, es, ts, h, p => ⟨_, rd_eq, cmpS h p (op_eqA (by have := c.units; omega))⟩
  | .ne, e, es, ts, h, p => ⟨_, rd_ne, cmpS h p (op_neA (by have := c.units; omega))⟩
  | .isB, e, es, ts, h, p => ⟨_, rd_isB, cmpS h p L2.op_is_bl⟩
  | .lt, e, es, ts, h, p => ⟨_, rd_cmp (f := fun i j => decide (i < j)) rfl (two_of (fun a => by cases a <;> rfl) (by decide) (by decide) (fun _ _ => by simp) (by decide) (by decide)) fun _ _ => rfl, cmpS h p L2.op_lt⟩
  | .le, e, es, ts, h, p => ⟨_, rd_cmp (f := fun i j => decide (i ≤ j)) rfl (two_of (fun a => by cases a <;> rfl) (by decide) (by decide) (fun _ _ => by simp) (by decide) (by decide)) fun _ _ => rfl, cmpS h p L2.op_le⟩
  | .gt, e, es, ts, h, p => ⟨_, rd_cmp (f := fun i j => decide (j < i)) rfl (two_of (fun a => by cases a <;> rfl) (by decide) (by decide) (fun _ _ => by simp) (by decide) (by decide)) fun _ _ => rfl, cmpS h p L2.op_gt⟩
  | .ge, e, es, ts, h, p => ⟨_, rd_cmp (f := fun i j => decide (j ≤ i)) rfl (two_of (fun a => by cases a <;> rfl) (by decide) (by decide) (fun _ _ => by simp) (by decide) (by decide)) fun _ _ => rfl, cmpS h p L2.op_ge⟩
  | .mem, e, es, ts, h, p => ⟨_, rd_mem, cmpS h p (op_memA c.units)⟩
  | .nmem, e, es, ts, h, p => ⟨_, rd_nmem, cmpS h p (op_nmemA c.units)⟩
  | .isN, e, es, ts, h, p => ⟨_, rd_isN, isS h p⟩
  | .notN, e, es, ts, h, p => ⟨_, rd_notN, notS h p⟩
  | .idx, e, es, ts, h, p => ⟨_, rd_idx, ixS h p⟩
  | .sl lo hi, e, es, ts, h, p => ⟨_, rd_sl lo hi, slS h p⟩
  | .tupd, e, es, ts, h, p => ⟨_, rd_tupd, tupS h p⟩
  | .lstd, e, es, ts, h, p => ⟨_, rd_lstd, lstS h p⟩
  | .len, e, es, ts, h, p => ⟨_, rd_len, call1B c h p call_lenA boot_len (by decide)⟩
  | .int1, e, es, ts, h, p => ⟨_, rd_int1, call1T c h p L2.call_int1 (by decide +kernel) (by decide)⟩
  | .abs, e, es, ts, h, p => ⟨_, rd_abs, call1B c h p L2.call_abs (by decide +kernel) (by decide)⟩
  | .str1, e, es, ts, h, p => ⟨_, rd_str1, call1T c h p L2.call_str_int (by decide +kernel) (by decide)⟩
  | .list1, e, es, ts, h, p => ⟨_, rd_list1, call1T c h p L2.call_list_of boot_list (by decide)⟩
  | .tuple1, e, es, ts, h, p => ⟨_, rd_tuple1, call1T c h p L2.call_tuple_of boot_tuple (by decide)⟩
  | .sorted1, e, es, ts, h, p => ⟨_, rd_sorted1, call1B c h p (cr_sortX (by have := c.units; omega)) (by decide +kernel) (by decide)⟩
  | .all1, e, es, ts, h, p => ⟨_, rd_all1, call1B c h p (L2.cr_all c.calm) (by decide +kernel) (by decide)⟩
  | .any1, e, es, ts, h, p => ⟨_, rd_any1, call1B c h p (L2.cr_any c.calm) (by decide +kernel) (by decide)⟩
  | .sum1, e, es, ts, h, p => ⟨_, rd_sum1, call1B c h p (L2.cr_sum c.calm) (by decide +kernel) (by decide)⟩
  | .min1, e, es, ts, h, p => ⟨_, rd_min1, call1B c h p (L2.cr_min c.calm) (by decide +kernel) (by decide)⟩
  | .max1, e, es, ts, h, p => ⟨_, rd_max1, call1B c h p (L2.cr_max c.calm) (by decide +kernel) (by decide)⟩
  | .min2, e, es, ts, h, p => ⟨_, rd_min2, call2B c h p (L2.call_min2 c.calm) (by decide +kernel) (by decide)⟩
  | .max2, e, es, ts, h, p => ⟨_, rd_max2, call2B c h p (L2.call_max2 c.calm) (by decide +kernel) (by decide)⟩
  | .rangeL, e, es, ts, h, p => ⟨_, rd_rangeL, rgS c h p⟩
  | .rangeT, e, es, ts, h, p => ⟨_, rd_rangeT, rgST c h p⟩
  | .isi T, e, es, ts, h, p => ⟨_, rd_isi T, isiS c h p (tk_ok T).1 (tk_ok T).2.1 (tk_ok T).2.2.1 (tk_ok T).2.2.2⟩
  | .sset, e, es, ts, h, p => ⟨_, rd_sset, setS c h p (cr_setA c.calm (by have := c.units; omega)) (cr_sortA c.calm (by have := c.units; omega)) (by decide +kernel) (by decide)⟩
  | .lset, e, es, ts, h, p => ⟨_, rd_lset, setS c h p (cr_setA c.calm (by have := c.units; omega)) cr_lenA (by decide +kernel) (by decide)⟩
  | .set1, e, es, ts, h, p => ⟨_, rd_set1, call1T c h p (SetF.cr_setRows c.calm (by have := c.units; omega)) (by decide +kernel) (by decide)⟩
end
end Ow

/-! Ow6: targets and what is walked. -/
namespace Ow
open PySem PySem.Spec PyProof.Rows
open L2 (V SqL SqT Rd HO upd upd_same upd_ne TE TT TA TS VK Cx PE PT PA PS PSs WX OpR UnR CallR R2 Room Gl Sp XK CXT FnOk Binds TG TGs PG PGs It TI PI Inv RelV Vals thn wipe)

/-! ### slots -/
section
variable {K : KX} {σ σ' : L2.St} {H H' : L2.Hp} {bt bt' : Gh} {ρ ρ' : Env} {h h' : Hp}
theorem Stt.set (s : Stt K σ H bt ρ h) {i : Nat} {w : W} {v : V} (r : Rep K H bt h w v) : Stt K (σ.set i (some v)) H bt (ρ.set i (some w)) h := by
  refine ⟨s.hp, fun j u e => ?_, by rw [List.length_set, List.length_set]; exact s.len⟩
  by_cases hi : i = j
  · subst hi
    by_cases hl : i < ρ.length
    · rw [List.getElem?_set_self hl] at e
      cases e
      exact ⟨v, List.getElem?_set_self (by rw [← s.len]; exact hl), r⟩
    · rw [List.getElem?_eq_none (by rw [List.length_set]; omega)] at e
      cases e
  · rw [List.getElem?_set_ne hi] at e
    obtain ⟨v', e', r'⟩ := s.sl j u e
    exact ⟨v', by rw [List.getElem?_set_ne hi]; exact e', r'⟩
theorem Stt.none (s : Stt K σ H bt ρ h) {i : Nat} {o : Option V} : Stt K (σ.set i o) H bt (ρ.set i Option.none) h := by
  refine ⟨s.hp, fun j u e => ?_, by rw [List.length_set, List.length_set]; exact s.len⟩
  by_cases hi : i = j
  · subst hi
    by_cases hl : i < ρ.length
    · rw [List.getElem?_set_self hl] at e
      cases e
    · rw [List.getElem?_eq_none (by rw [List.length_set]; omega)] at e
      cases e
  · rw [List.getElem?_set_ne hi] at e
    obtain ⟨v', e', r'⟩ := s.sl j u e
    exact ⟨v', by rw [List.getElem?_set_ne hi]; exact e', r'⟩
theorem Stt.wipe (s : Stt K σ H bt ρ h) : ∀ is : List Nat, Stt K (L2.wipe σ is) H bt (wipeE ρ is) h
  | [] => s
  | i :: is => by
    show Stt K ((L2.wipe σ is).set i Option.none) H bt ((wipeE ρ is).set i Option.none) h
    exact (Stt.wipe s is).none
/-- forgotten on our side alone -/
theorem Stt.wipe1 (s : Stt K σ H bt ρ h) : ∀ is : List Nat, Stt K σ H bt (wipeE ρ is) h
  | [] => s
  | i :: is => by
    have t := Stt.wipe1 s is
    show Stt K σ H bt ((wipeE ρ is).set i Option.none) h
    refine ⟨t.hp, fun j u e => ?_, by rw [List.length_set]; exact t.len⟩
    by_cases hi : i = j
    · subst hi
      by_cases hl : i < (wipeE ρ is).length
      · rw [List.getElem?_set_self hl] at e
        cases e
      · rw [List.getElem?_eq_none (by rw [List.length_set]; omega)] at e
        cases e
    · rw [List.getElem?_set_ne hi] at e
      exact t.sl j u e
/-- slots that differ in is alone -/
def Out (is : List Nat) (σ σ' : L2.St) : Prop := σ'.length = σ.length ∧ ∀ i, i ∉ is → σ'[i]? = σ[i]?
theorem Out.refl {is : List Nat} : Out is σ σ := ⟨rfl, fun _ _ => rfl⟩
theorem Out.trans {is : List Nat} {σ2 : L2.St} (a : Out is σ σ') (b : Out is σ' σ2) : Out is σ σ2 := ⟨b.1.trans a.1, fun i hi => (b.2 i hi).trans (a.2 i hi)⟩
theorem Out.mono {is js : List Nat} (a : Out is σ σ') (h : ∀ i ∈ is, i ∈ js) : Out js σ σ' := ⟨a.1, fun i hi => a.2 i fun z => hi (h i z)⟩
theorem Out.set {i : Nat} {o : Option V} : Out [i] σ (σ.set i o) := ⟨by simp, fun j hj => List.getElem?_set_ne fun z => hj (by simp [z])⟩
theorem wipe_get : ∀ (is : List Nat) (σ : L2.St) (i : Nat), (L2.wipe σ is)[i]? = if i ∈ is then σ[i]?.map (fun _ => Option.none) else σ[i]?
  | [], σ, i => by simp [L2.wipe]
  | j :: is, σ, i => by
    show ((L2.wipe σ is).set j Option.none)[i]? = _
    have ih := wipe_get is σ i
    by_cases hi : j = i
    · subst hi
      by_cases hl : j < σ.length
      · rw [List.getElem?_set_self (by rw [L2.wipe_length]; exact hl), if_pos (by simp), List.getElem?_eq_getElem hl]
        rfl
      · rw [List.getElem?_eq_none (by rw [List.length_set, L2.wipe_length]; omega), if_pos (by simp), List.getElem?_eq_none (by omega)]
        rfl
    · rw [List.getElem?_set_ne hi, ih]
      by_cases hm : i ∈ is
      · rw [if_pos hm, if_pos (by simp [hm])]
      · rw [if_neg hm, if_neg (by simp [hm]; exact fun z => hi z.symm)]
theorem Out.wipe {is : List Nat} (a : Out is σ σ') : L2.wipe σ' is = L2.wipe σ is := by
  apply List.ext_getElem?
  intro i
  rw [wipe_get, wipe_get]
  by_cases hi : i ∈ is
  · rw [if_pos hi, if_pos hi]
    have a1 := a.1
    by_cases hl : i < σ.length
    · rw [List.getElem?_eq_getElem hl, List.getElem?_eq_getElem (by rw [a.1]; exact hl)]
      rfl
    · rw [List.getElem?_eq_none (show σ'.length ≤ i by omega), List.getElem?_eq_none (show σ.length ≤ i by omega)]
  · rw [if_neg hi, if_neg hi]
    exact a.2 i hi
theorem Out.wiped {is : List Nat} : Out is σ (L2.wipe σ is) := ⟨L2.wipe_length σ is, fun i hi => by rw [wipe_get, if_neg hi]⟩
end

/-! ### targets -/
mutual
def mT (C : MC) : Tg → Expr → Bool
  | .nm i, .Name x _ => decide (C.N[i]? = some x) && ownB C x
  | .tp ts, .Tuple es _ _ => mTs C ts es
  | _, _ => false
def mTs (C : MC) : List Tg → List Expr → Bool
  | [], [] => true
  | t :: ts, e :: es => ns e && mT C t e && mTs C ts es
  | _, _ => false
end
/-- a target's reading, by the evaluator -/
def gT (K : KX) (t : Tg) : TG := fun v σ H Q => ∃ bt h ρ ρ' w, Stt K σ H bt ρ h ∧ Rep K H bt h w v ∧ bindT t w ρ = some ρ' ∧ ∀ σ', Stt K σ' H bt ρ' h → Out t.names σ σ' → Q σ' H
def gTs (K : KX) (ts : List Tg) : TGs := fun vs σ H Q => ∃ bt h ρ ρ' ws, Stt K σ H bt ρ h ∧ RepL K H bt h ws vs ∧ bindTs ts ws ρ = some ρ' ∧ ∀ σ', Stt K σ' H bt ρ' h → Out (Tg.namesL ts) σ σ' → Q σ' H
theorem assignEach_ns {e : Expr} (h : ns e = true) (es : List Expr) (env : PySem.Env) : assignEach (e :: es) env = (false, assign e env) :: assignEach es env := by
  cases e <;> first | rfl | cases h
theorem assignEach_all : ∀ {ts : List Tg} {es : List Expr} {C : MC} (env : PySem.Env), mTs C ts es = true → (assignEach es env).length = ts.length ∧ (assignEach es env).findIdx? (·.1) = none
  | [], [], _, env, _ => ⟨rfl, rfl⟩
  | [], _ :: _, _, _, h => by cases h
  | _ :: _, [], _, _, h => by cases h
  | t :: ts, e :: es, C, env, h => by
    simp only [mTs, Bool.and_eq_true] at h
    obtain ⟨h1, h2⟩ := assignEach_all (C := C) env h.2
    rw [assignEach_ns h.1.1]
    refine ⟨by rw [List.length_cons, List.length_cons, h1], ?_⟩
    rw [List.findIdx?_cons, h2]
    rfl
theorem PG.imp {X : Cx} {e : Expr} {t t' : TG} (h : PG X e t) (i : ∀ v σ H Q, t' v σ H Q → t v σ H Q) : PG X e t' := ⟨fun pins s σ H v u Q I r q => h.run pins s σ H v u Q I r (i v σ H Q q)⟩
theorem PGs.imp {X : Cx} {e : List Expr} {t t' : TGs} (h : PGs X e t) (i : ∀ v σ H Q, t' v σ H Q → t v σ H Q) : PGs X e t' := ⟨fun pins s σ H v u Q I r q => h.run pins s σ H v u Q I r (i v σ H Q q)⟩
theorem bindTs_len : ∀ {ts : List Tg} {ws : List W} {ρ ρ' : Env}, bindTs ts ws ρ = some ρ' → ws.length = ts.length
  | [], [], _, _, _ => rfl
  | [], _ :: _, _, _, e => by simp [bindTs] at e
  | _ :: _, [], _, _, e => by simp [bindTs] at e
  | t :: ts, w :: ws, ρ, ρ', e => by
    simp only [bindTs, Option.bind_eq_some_iff] at e
    obtain ⟨r, _, e⟩ := e
    rw [List.length_cons, List.length_cons, bindTs_len e]
section
variable {Nw d : Nat} {C : MC} {X : Cx}
mutual
theorem tg_sound (c : Ctx Nw d C X) : ∀ (t : Tg) (e : Expr), mT C t e = true → PG X e (gT (kx X) t)
  | .nm i, e, h => by
    cases e <;> first | (simp [mT] at h; done) | skip
    rename_i x pos
    simp only [mT, Bool.and_eq_true, decide_eq_true_eq] at h
    obtain ⟨h1, h2⟩ := h
    have hl : L2.Loc X.env.scope x ∧ (X.fn x = true ∨ X.env.scope.names.lookup x = some .local) := by
      unfold L2.Loc
      rw [c.sc]
      unfold ownB at h2
      split at h2
      · rename_i q
        exact ⟨.inl (c.loc _ q), .inr (c.loc _ q)⟩
      · rename_i q
        exact ⟨.inr (c.cel _ q).1, .inl (c.cel _ q).2⟩
      · cases h2
    refine PG.imp (L2.pg_name (by rw [c.hN]; exact c.nd) (by rw [c.hN]; exact h1) hl.1 hl.2) fun v σ H Q q => ?_
    obtain ⟨bt, hh, ρ, ρ', w, s, r, e, q⟩ := q
    simp only [bindT] at e
    split at e
    · cases e
      exact q _ (s.set r) Out.set
    · cases e
  | .tp ts, e, h => by
    cases e <;> first | (simp [mT] at h; done) | skip
    rename_i es k pos
    simp only [mT] at h
    obtain ⟨h1, h2⟩ := assignEach_all X.env h
    refine PG.imp (L2.pg_tup c.calm (tgs_sound c ts es h) h1 h2) fun v σ H Q q => ?_
    obtain ⟨bt, hh, ρ, ρ', w, s, r, e, q⟩ := q
    cases w <;> first | (simp [bindT] at e; done) | skip
    rename_i ws
    simp only [bindT] at e
    obtain ⟨a, vs, rfl, sq, l⟩ := r
    refine ⟨a, vs, rfl, sq, ?_, bt, hh, ρ, ρ', ws, s, l, e, q⟩
    rw [← l.length, bindTs_len e]
theorem tgs_sound (c : Ctx Nw d C X) : ∀ (ts : List Tg) (es : List Expr), mTs C ts es = true → PGs X es (gTs (kx X) ts)
  | [], [], _ => PGs.imp L2.pgs_nil fun vs σ H Q q => by
    obtain ⟨bt, hh, ρ, ρ', ws, s, r, e, q⟩ := q
    cases ws with
    | nil =>
      simp only [bindTs, Option.some.injEq] at e
      subst e
      exact ⟨r, q _ s Out.refl⟩
    | cons _ _ => simp [bindTs] at e
  | [], _ :: _, h => by cases h
  | _ :: _, [], h => by cases h
  | t :: ts, e :: es, h => by
    simp only [mTs, Bool.and_eq_true] at h
    refine PGs.imp (L2.pgs_cons (tg_sound c t e h.1.2) (tgs_sound c ts es h.2) (by rw [assignEach_ns h.1.1]; rfl)) fun vs σ H Q q => ?_
    obtain ⟨bt, hh, ρ, ρ', ws, s, r, e, q⟩ := q
    cases ws with
    | nil => simp [bindTs] at e
    | cons w ws =>
      obtain ⟨v, vr, rfl, r1, r2⟩ := r
      simp only [bindTs, Option.bind_eq_some_iff] at e
      obtain ⟨ρ1, e1, e⟩ := e
      refine ⟨v, vr, rfl, bt, hh, ρ, ρ1, w, s, r1, e1, fun σ1 s1 o1 => ?_⟩
      exact ⟨bt, hh, ρ1, ρ', ws, s1, r2, e, fun σ2 s2 o2 => q σ2 s2 ((o1.mono fun i hi => List.mem_append_left _ hi).trans (o2.mono fun i hi => List.mem_append_right _ hi))⟩
end

/-! ### what is walked -/
/-- the walk J gives the items, from any state where the sources are as they were -/
def ItOk (K : KX) (k : ItK) (ws : List W) (vs : List V) (its : List W) (J : It) : Prop :=
  ∀ H bt h, HeapOk K H bt h → RepL K H bt h ws vs → itemsOf k (ws.map (deref h)) = some its →
    (∀ i, i < its.length → J.go i H) ∧ J.stop its.length H ∧ ∀ i w x H', its[i]? = some w → J.yld i H x H' → L2.Same H H' ∧ Rep K H' bt h w x
def iterShp (C : MC) (k : ItK) (tg : Expr) (e : Expr) : Option (List Expr) := match k with
  | .seq => some [e]
  | .rng1 => callShp1 C "range" e
  | .rng2 => callShp2 C "range" e
  | .enum => (match tg with
    | .Tuple _ _ _ => callShp1 C "enumerate" e
    | _ => none)
  | _ => none
/-- the sources are read, then walked -/
def kSrc (K : KX) (k : ItK) (R : It → L2.Hp → Prop) : List V → L2.Hp → Prop := fun vs H1 => ∃ bt h ws its, HeapOk K H1 bt h ∧ RepL K H1 bt h ws vs ∧ itemsOf k (ws.map (deref h)) = some its ∧ ∀ J, ItOk K k ws vs its J → R J H1
theorem OkEs.mono {K : KX} {σ : L2.St} {H : L2.Hp} {bt : Gh} {h : Hp} {Wx : WX} {b : Nat} {m : R (List W)} {Q Q' : List V → L2.Hp → Prop} (q : OkEs K Wx σ H bt b h Q m) (i : ∀ v H', Q v H' → Q' v H') : OkEs K Wx σ H bt b h Q' m := by
  cases m with
  | bad => exact q
  | exc e h1 => exact q
  | ok w h1 => exact fun v H1 bt1 x ok p r => i _ _ (q v H1 bt1 x ok p r)
theorem tEvs.mono {K : KX} {σ : L2.St} {H : L2.Hp} {Wx : WX} {m : Nat → Env → Hp → R (List W)} {Q Q' : List V → L2.Hp → Prop} (q : tEvs K Wx m σ H Q) (i : ∀ v H', Q v H' → Q' v H') : tEvs K Wx m σ H Q' := by
  obtain ⟨b, bt, ρ, h, s, hb, q⟩ := q
  exact ⟨b, bt, ρ, h, s, hb, q.mono i⟩
def on1 (f : V → L2.Hp → Prop) : List V → L2.Hp → Prop
  | [x], H => f x H
  | _, _ => False
theorem PI.imp {tg it : Expr} {t t' : TI} (h : PI X tg it t) (i : ∀ σ H Q, t' σ H Q → t σ H Q) : PI X tg it t' := ⟨fun pins s σ H R I q => h.run pins s σ H R I (i σ H R q)⟩
/-- a list or a tuple -/
theorem pi_seq {tg l : Expr} {tl : TE} (hl : PE X l tl) : PI X tg l (fun σ H R => tl σ H fun x H1 => ∃ a, x = .ref a ∧ (((∃ xs, SqL (kx X) H1 a xs) ∧ R (L2.Itl (kx X) a) H1) ∨ ((∃ xs, SqT (kx X) H1 a xs) ∧ R (L2.Itt (kx X) a) H1))) := by
  refine ⟨fun pins s σ H R I h => ?_⟩
  refine thn (hl.run pins s σ H _ I h) fun v s1 ⟨x, H1, I1, r1, q1⟩ => ?_
  obtain ⟨a, e, ⟨⟨xs, hq⟩, q⟩ | ⟨⟨xs, hq⟩, q⟩⟩ := q1
  · subst e
    cases r1
    obtain ⟨its, rv, p, hz⟩ := I1.list hq
    refine wpAny_pyIter_list p.isList ?_
    refine ⟨s1.heap.objs.size, [s1.heap.objs.size], _, _, H1, rfl, I1.kept (t' := s1.toks) fun b o e => Heap.get?_push_of_some _ e, L2.turn_list a _, ⟨_, Heap.get?_push_size _ rfl, rfl, rfl⟩, fun b hb => ?_, q⟩
    have e : b = s1.heap.objs.size := by simpa using hb
    subst e
    exact I1.fpOk (Nat.le_refl _) (I1.hok.fresh (Nat.le_refl _))
  · subst e
    cases r1
    obtain ⟨its, rv, p, hz⟩ := I1.tuple hq
    refine wpAny_pyIter_tuple (show s1.heap.IsTuple a its.toArray from p) ?_
    refine ⟨s1.heap.objs.size, [s1.heap.objs.size], _, _, H1, rfl, I1.kept (t' := s1.toks) fun b o e => Heap.get?_push_of_some _ e, L2.turn_tuple a _, ⟨_, Heap.get?_push_size _ rfl, rfl, rfl⟩, fun b hb => ?_, q⟩
    have e : b = s1.heap.objs.size := by simpa using hb
    subst e
    exact I1.fpOk (Nat.le_refl _) (I1.hok.fresh (Nat.le_refl _))
theorem itl_ok {K : KX} {H : L2.Hp} {bt : Gh} {h : Hp} {a : Addr} {xs : List V} {its : List W} (sq : SqL K H a xs) (l : RepL K H bt h its xs) :
    (∀ i, i < its.length → (L2.Itl K a).go i H) ∧ (L2.Itl K a).stop its.length H ∧ ∀ i w x H', its[i]? = some w → (L2.Itl K a).yld i H x H' → L2.Same H H' ∧ Rep K H' bt h w x := by
  refine ⟨fun i hi => ?_, ⟨xs, sq, by rw [l.length]; exact Nat.le_refl _⟩, fun i w x H' e y => ?_⟩
  · rw [l.length] at hi
    exact ⟨xs, xs[i], sq, by simp [hi]⟩
  · obtain ⟨rfl, y⟩ := y
    obtain ⟨v, e2, r⟩ := l.get e
    rw [y xs sq] at e2
    cases e2
    exact ⟨L2.Same.refl _, r⟩
theorem itt_ok {K : KX} {H : L2.Hp} {bt : Gh} {h : Hp} {a : Addr} {xs : List V} {its : List W} (sq : SqT K H a xs) (l : RepL K H bt h its xs) :
    (∀ i, i < its.length → (L2.Itt K a).go i H) ∧ (L2.Itt K a).stop its.length H ∧ ∀ i w x H', its[i]? = some w → (L2.Itt K a).yld i H x H' → L2.Same H H' ∧ Rep K H' bt h w x := by
  refine ⟨fun i hi => ?_, ⟨xs, sq, by rw [l.length]; exact Nat.le_refl _⟩, fun i w x H' e y => ?_⟩
  · rw [l.length] at hi
    exact ⟨xs, xs[i], sq, by simp [hi]⟩
  · obtain ⟨rfl, y⟩ := y
    obtain ⟨v, e2, r⟩ := l.get e
    rw [y xs sq] at e2
    cases e2
    exact ⟨L2.Same.refl _, r⟩
/-- a list: not a tuple at any time -/
def lstW : W → Bool
  | .tup _ => false
  | _ => true
theorem seq_J {K : KX} {w : W} {v : V} {its : List W} : ∃ f : Addr → It, ∀ H bt h, HeapOk K H bt h → Rep K H bt h w v → items (deref h w) = some its → ∃ a, v = .ref a ∧ (if lstW w = true then (f a = L2.Itl K a ∧ ∃ xs, SqL K H a xs ∧ RepL K H bt h its xs) else (f a = L2.Itt K a ∧ ∃ xs, SqT K H a xs ∧ RepL K H bt h its xs)) := by
  by_cases hw : lstW w = true
  · refine ⟨fun a => L2.Itl K a, fun H bt h ok r e => ?_⟩
    simp only [hw, if_true, true_and]
    have rt := r.t ok
    cases w <;> first | (simp [deref, items] at e; done) | (cases hw; done) | skip
    · obtain ⟨p, ys, rfl, sq, l⟩ := lst_seq rt (.inl rfl)
      simp only [deref, items, Option.some.injEq] at e
      subst e
      exact ⟨p, rfl, ys, sq, l⟩
    · obtain ⟨p, ys, rfl, sq, l⟩ := lst_seq rt (.inr rfl)
      simp only [deref, items, Option.some.injEq] at e
      subst e
      exact ⟨p, rfl, ys, sq, l⟩
    · rename_i n
      cases q : h[n]? with
      | none => simp [deref, q, items] at e
      | some o =>
        cases o <;> first | (simp [deref, q, items] at e; done) | skip
        simp only [deref, q] at rt e
        simp only [items, Option.some.injEq] at e
        subst e
        obtain ⟨p, ys, rfl, sq, l⟩ := lst_seq rt (.inl rfl)
        exact ⟨p, rfl, ys, sq, l⟩
  · refine ⟨fun a => L2.Itt K a, fun H bt h ok r e => ?_⟩
    simp only [hw, if_false, true_and]
    cases w <;> first | (exact absurd rfl hw) | skip
    simp only [deref, items, Option.some.injEq] at e
    subst e
    obtain ⟨a, vs, rfl, sq, l⟩ := r
    exact ⟨a, rfl, vs, sq, l⟩
theorem RepL.one' {K : KX} {H : L2.Hp} {bt : Gh} {h : Hp} {w : W} {vs : List V} (l : RepL K H bt h [w] vs) : ∃ v, vs = [v] ∧ Rep K H bt h w v := by
  obtain ⟨v, t, rfl, r1, e⟩ := l
  cases (show t = [] from e)
  exact ⟨v, rfl, r1⟩
theorem RepL.two' {K : KX} {H : L2.Hp} {bt : Gh} {h : Hp} {w u : W} {vs : List V} (l : RepL K H bt h [w, u] vs) : ∃ v x, vs = [v, x] ∧ Rep K H bt h w v ∧ Rep K H bt h u x := by
  obtain ⟨v, t, rfl, r1, r2⟩ := l
  obtain ⟨x, rfl, r3⟩ := RepL.one' r2
  exact ⟨v, x, rfl, r1, r3⟩
theorem itr_ok {K : KX} {H : L2.Hp} {bt : Gh} {h : Hp} {lo : Int} {n : Nat} :
    let its := (List.range n).map fun i => W.int (lo + (i : Nat))
    (∀ i, i < its.length → (L2.Itr lo n).go i H) ∧ (L2.Itr lo n).stop its.length H ∧ ∀ i w x H', its[i]? = some w → (L2.Itr lo n).yld i H x H' → L2.Same H H' ∧ Rep K H' bt h w x := by
  refine ⟨fun i hi => by simpa [L2.Itr] using hi, by simp [L2.Itr], fun i w x H' e y => ?_⟩
  obtain ⟨rfl, rfl⟩ := y
  rw [List.getElem?_map] at e
  cases q : (List.range n)[i]? with
  | none => rw [q] at e; cases e
  | some j =>
    rw [q] at e
    cases e
    obtain ⟨hj, ej⟩ := List.getElem?_eq_some_iff.mp q
    rw [List.getElem_range] at ej
    subst ej
    exact ⟨L2.Same.refl _, rfl⟩
theorem io_seq {us its : List W} (e : itemsOf .seq us = some its) : ∃ x, us = [x] ∧ items x = some its := by
  unfold itemsOf at e
  split at e <;> rename_i z <;> first | (cases z; done) | skip
  · exact ⟨_, rfl, e⟩
  · cases e
theorem inR_ok {i : Int} (h : inR i = true) : -(2 ^ 62) ≤ i ∧ i < 2 ^ 62 := of_decide_eq_true h
theorem io_rng1 {us its : List W} (e : itemsOf .rng1 us = some its) : ∃ n, us = [.int n] ∧ inR n = true ∧ its = (List.range n.toNat).map fun i => W.int (i : Nat) := by
  unfold itemsOf at e
  split at e <;> rename_i z <;> first | (cases z; done) | skip
  · split at e
    · cases e; exact ⟨_, rfl, by assumption, rfl⟩
    · cases e
  · cases e
theorem io_rng2 {us its : List W} (e : itemsOf .rng2 us = some its) : ∃ n m, us = [.int n, .int m] ∧ (inR n = true ∧ inR m = true) ∧ its = (List.range (m - n).toNat).map fun i => W.int (n + (i : Nat)) := by
  unfold itemsOf at e
  split at e <;> rename_i z <;> first | (cases z; done) | skip
  · split at e
    · cases e
      rename_i q
      rw [Bool.and_eq_true] at q
      exact ⟨_, _, rfl, q, rfl⟩
    · cases e
  · cases e
theorem io_enum {us its : List W} (e : itemsOf .enum us = some its) : ∃ x ys, us = [x] ∧ items x = some ys ∧ its = enumW 0 ys := by
  unfold itemsOf at e
  split at e <;> rename_i z <;> first | (cases z; done) | skip
  · cases e; exact ⟨_, _, rfl, rfl, rfl⟩
  · cases e; exact ⟨_, _, rfl, rfl, rfl⟩
  · cases e
theorem enumW_len : ∀ (n : Nat) (l : List W), (enumW n l).length = l.length
  | _, [] => rfl
  | n, a :: l => congrArg (· + 1) (enumW_len (n + 1) l)
theorem enumW_get : ∀ (l : List W) (n i : Nat), (enumW n l)[i]? = l[i]?.map fun a => .tup [.int ((n + i : Nat) : Int), a]
  | [], _, _ => by simp [enumW]
  | a :: l, n, 0 => rfl
  | a :: l, n, i + 1 => by
    have := enumW_get l (n + 1) i
    rw [show n + 1 + i = n + (i + 1) by omega] at this
    simpa [enumW] using this
theorem enumW_inj {l r : List W} (h : enumW 0 l = enumW 0 r) : l = r := by
  refine List.ext_getElem? fun i => ?_
  have := congrArg (·[i]?) h
  simp only [enumW_get] at this
  cases hl : l[i]? <;> cases hr : r[i]? <;> rw [hl, hr] at this <;> simp at this ⊢
  exact this
theorem pair_ok {K : KX} {H : L2.Hp} {bt : Gh} {h : Hp} {ys : List W} {xs : List V} (ok : HeapOk K H bt h) (l : RepL K H bt h ys xs) {i : Nat} {w : W} {p : Addr} {x : V} (e : (enumW 0 ys)[i]? = some w) (n : H p = none) (hx : xs[i]? = some x) :
    L2.Same H (upd H p (.tup [.int (i : Nat), x])) ∧ Rep K (upd H p (.tup [.int (i : Nat), x])) bt h w (.ref p) := by
  rw [enumW_get] at e
  cases hy : ys[i]? with
  | none => rw [hy] at e; cases e
  | some y =>
    rw [hy] at e
    cases e
    obtain ⟨v, e2, r⟩ := l.get hy
    rw [hx] at e2
    cases e2
    have rp : RepL K H bt h [.int ((0 + i : Nat) : Int), y] [.int (i : Nat), x] := ⟨_, _, rfl, by rw [Nat.zero_add]; rfl, _, _, rfl, r, rfl⟩
    exact post_newT (f := false) ok n rp
theorem ite_ok {K : KX} {H : L2.Hp} {bt : Gh} {h : Hp} {a : Addr} {xs : List V} {ys : List W} (ok : HeapOk K H bt h) (sq : SqL K H a xs) (l : RepL K H bt h ys xs) :
    (∀ i, i < (enumW 0 ys).length → (L2.Ite K a).go i H) ∧ (L2.Ite K a).stop (enumW 0 ys).length H ∧ ∀ i w x H', (enumW 0 ys)[i]? = some w → (L2.Ite K a).yld i H x H' → L2.Same H H' ∧ Rep K H' bt h w x := by
  refine ⟨fun i hi => ?_, ⟨xs, sq, by rw [enumW_len, l.length]; exact Nat.le_refl _⟩, fun i w x H' e ⟨p, y, h1, h2, h3, h4⟩ => ?_⟩
  · rw [enumW_len, l.length] at hi
    exact ⟨xs, xs[i], sq, by simp [hi]⟩
  · subst h1 h3
    exact pair_ok ok l e h2 (h4 xs sq)
theorem iteT_ok {K : KX} {H : L2.Hp} {bt : Gh} {h : Hp} {a : Addr} {xs : List V} {ys : List W} (ok : HeapOk K H bt h) (sq : SqT K H a xs) (l : RepL K H bt h ys xs) :
    (∀ i, i < (enumW 0 ys).length → (EnT.IteT K a).go i H) ∧ (EnT.IteT K a).stop (enumW 0 ys).length H ∧ ∀ i w x H', (enumW 0 ys)[i]? = some w → (EnT.IteT K a).yld i H x H' → L2.Same H H' ∧ Rep K H' bt h w x := by
  refine ⟨fun i hi => ?_, ⟨xs, sq, by rw [enumW_len, l.length]; exact Nat.le_refl _⟩, fun i w x H' e ⟨p, y, h1, h2, h3, h4⟩ => ?_⟩
  · rw [enumW_len, l.length] at hi
    exact ⟨xs, xs[i], sq, by simp [hi]⟩
  · subst h1 h3
    exact pair_ok ok l e h2 (h4 xs sq)
theorem map_1 {α β : Type} {f : α → β} {l : List α} {b : β} (e : l.map f = [b]) : ∃ a, l = [a] ∧ f a = b := by
  match l, e with
  | [a], e => exact ⟨a, rfl, by simpa using e⟩
theorem map_2 {α β : Type} {f : α → β} {l : List α} {b c : β} (e : l.map f = [b, c]) : ∃ a d, l = [a, d] ∧ f a = b ∧ f d = c := by
  match l, e with
  | [a, d], e => exact ⟨a, d, rfl, by simpa using e⟩
theorem deref_int {h : Hp} {w : W} {n : Int} (e : deref h w = .int n) : w = .int n := by
  cases w <;> first | exact e | (simp [deref] at e; done) | (simp only [deref] at e; split at e <;> cases e)
section
variable {K : KX}
theorem kseq {R : It → L2.Hp → Prop} {vs : List V} {H1 : L2.Hp} (q : kSrc K .seq R vs H1) : on1 (fun x H1 => ∃ a, x = .ref a ∧ (((∃ xs, SqL K H1 a xs) ∧ R (L2.Itl K a) H1) ∨ ((∃ xs, SqT K H1 a xs) ∧ R (L2.Itt K a) H1))) vs H1 := by
  obtain ⟨bt, h, ws, its, ok, l, e, q⟩ := q
  obtain ⟨x, em, ei⟩ := io_seq e
  obtain ⟨w, rfl, rfl⟩ := map_1 em
  · obtain ⟨v, rfl, r⟩ := l.one'
    obtain ⟨f, hf⟩ := seq_J (K := K) (w := w) (v := v) (its := its)
    obtain ⟨a, rfl, g⟩ := hf H1 bt h ok r ei
    refine ⟨a, rfl, ?_⟩
    have key : ∀ J, J = f a → ItOk K .seq [w] [.ref a] its J := fun J hJ H' bt' h' ok' l' e' => by
      obtain ⟨v', ev, r'⟩ := l'.one'
      cases ev
      obtain ⟨x', em', ei'⟩ := io_seq e'
      obtain ⟨w', ew', ed'⟩ := map_1 em'
      cases ew'
      subst ed'
      obtain ⟨a', ea, g'⟩ := hf H' bt' h' ok' r' ei'
      cases ea
      subst hJ
      by_cases hw : lstW w = true
      · rw [if_pos hw] at g'
        obtain ⟨ef, xs, sq, ll⟩ := g'
        rw [ef]; exact itl_ok sq ll
      · rw [if_neg hw] at g'
        obtain ⟨ef, xs, sq, ll⟩ := g'
        rw [ef]; exact itt_ok sq ll
    by_cases hw : lstW w = true
    · rw [if_pos hw] at g
      obtain ⟨ef, xs, sq, ll⟩ := g
      exact .inl ⟨⟨xs, sq⟩, q _ (key _ ef.symm)⟩
    · rw [if_neg hw] at g
      obtain ⟨ef, xs, sq, ll⟩ := g
      exact .inr ⟨⟨xs, sq⟩, q _ (key _ ef.symm)⟩
theorem kenum {R : It → L2.Hp → Prop} {vs : List V} {H1 : L2.Hp} (q : kSrc K .enum R vs H1) : ∃ a, vs = [.ref a] ∧ (((∃ xs, SqL K H1 a xs) ∧ R (L2.Ite K a) H1) ∨ ((∃ xs, SqT K H1 a xs) ∧ R (EnT.IteT K a) H1)) := by
  obtain ⟨bt, h, ws, its, ok, l, e, q⟩ := q
  obtain ⟨x, ys, em, ei, rfl⟩ := io_enum e
  obtain ⟨w, rfl, rfl⟩ := map_1 em
  obtain ⟨v, rfl, r⟩ := l.one'
  obtain ⟨f, hf⟩ := seq_J (K := K) (w := w) (v := v) (its := ys)
  obtain ⟨a, rfl, g⟩ := hf H1 bt h ok r ei
  have key : ∀ J : It, (∀ (H' : L2.Hp) bt' h', HeapOk K H' bt' h' → (lstW w = true → ∃ xs, SqL K H' a xs ∧ RepL K H' bt' h' ys xs) → (lstW w = false → ∃ xs, SqT K H' a xs ∧ RepL K H' bt' h' ys xs) → (∀ i, i < (enumW 0 ys).length → J.go i H') ∧ J.stop (enumW 0 ys).length H' ∧ ∀ i w x H2, (enumW 0 ys)[i]? = some w → J.yld i H' x H2 → L2.Same H' H2 ∧ Rep K H2 bt' h' w x) → ItOk K .enum [w] [.ref a] (enumW 0 ys) J := fun J hJ H' bt' h' ok' l' e' => by
    obtain ⟨v', ev, r'⟩ := l'.one'
    cases ev
    obtain ⟨x', ys', em', ei', e2⟩ := io_enum e'
    obtain ⟨w', ew', ed'⟩ := map_1 em'
    cases ew'
    subst ed'
    have ey : ys' = ys := enumW_inj e2.symm
    subst ey
    obtain ⟨a', ea, g'⟩ := hf H' bt' h' ok' r' ei'
    cases ea
    refine hJ H' bt' h' ok' (fun hw => ?_) fun hw => ?_
    · rw [if_pos hw] at g'
      exact g'.2
    · rw [if_neg (by rw [hw]; decide)] at g'
      exact g'.2
  by_cases hw : lstW w = true
  · rw [if_pos hw] at g
    obtain ⟨_, xs, sq, ll⟩ := g
    exact ⟨a, rfl, .inl ⟨⟨xs, sq⟩, q _ (key _ fun H' bt' h' ok' g1 _ => by
      obtain ⟨xs, sq, ll⟩ := g1 hw
      exact ite_ok ok' sq ll)⟩⟩
  · rw [if_neg hw] at g
    obtain ⟨_, xs, sq, ll⟩ := g
    exact ⟨a, rfl, .inr ⟨⟨xs, sq⟩, q _ (key _ fun H' bt' h' ok' _ g2 => by
      obtain ⟨xs, sq, ll⟩ := g2 (by simpa using hw)
      exact iteT_ok ok' sq ll)⟩⟩
theorem krng1 {R : It → L2.Hp → Prop} {vs : List V} {H1 : L2.Hp} (q : kSrc K .rng1 R vs H1) : ∃ j : Int, vs = [.int j] ∧ -(2 ^ 62) ≤ j ∧ j < 2 ^ 62 ∧ R (L2.Itr 0 j.toNat) H1 := by
  obtain ⟨bt, h, ws, its, ok, l, e, q⟩ := q
  obtain ⟨n, em, hn, rfl⟩ := io_rng1 e
  obtain ⟨w, rfl, ed⟩ := map_1 em
  cases deref_int ed
  obtain ⟨v, rfl, r⟩ := l.one'
  cases r
  refine ⟨n, rfl, (inR_ok hn).1, (inR_ok hn).2, q _ fun H' bt' h' ok' l' e' => ?_⟩
  have := itr_ok (K := K) (H := H') (bt := bt') (h := h') (lo := 0) (n := n.toNat)
  simpa using this
theorem krng2 {R : It → L2.Hp → Prop} {vs : List V} {H1 : L2.Hp} (q : kSrc K .rng2 R vs H1) : ∃ i j : Int, vs = [.int i, .int j] ∧ (-(2 ^ 62) ≤ i ∧ i < 2 ^ 62 ∧ -(2 ^ 62) ≤ j ∧ j < 2 ^ 62) ∧ R (L2.Itr i (j - i).toNat) H1 := by
  obtain ⟨bt, h, ws, its, ok, l, e, q⟩ := q
  obtain ⟨n, m, em, hn, rfl⟩ := io_rng2 e
  obtain ⟨w, u, rfl, ed, ed2⟩ := map_2 em
  cases deref_int ed
  cases deref_int ed2
  obtain ⟨v, x, rfl, r, r2⟩ := l.two'
  cases r; cases r2
  refine ⟨n, m, rfl, ⟨(inR_ok hn.1).1, (inR_ok hn.1).2, (inR_ok hn.2).1, (inR_ok hn.2).2⟩, q _ fun H' bt' h' ok' l' e' => ?_⟩
  exact itr_ok (K := K) (H := H') (bt := bt') (h := h') (lo := n) (n := (m - n).toNat)
end
section
variable {Nw d : Nat} {C : MC} {X : Cx} {Wx : WX} {call : Nat → Nat → List W → Hp → R W}
theorem iter_sound (c : Ctx Nw d C X) : ∀ (k : ItK) (tg e : Expr) (es : List Expr) (srcs : List Ex), iterShp C k tg e = some es → PL X es (srcs.map fun a => tEv (kx X) Wx (fun b ρ h => evE call b ρ a h)) →
    PI X tg e (fun σ H R => tEvs (kx X) Wx (fun b ρ h => evEs call b ρ srcs h) σ H (kSrc (kx X) k R))
  | .seq, tg, e, es, srcs, h, p => by
    cases h
    obtain ⟨ta, et, ha⟩ := p.one
    refine PI.imp (pi_seq ha) fun σ H R q => ?_
    have q2 := tl_of srcs σ H _ (q.mono fun vs H1 z => kseq z)
    rw [et] at q2
    exact q2
  | .rng1, tg, e, es, srcs, h, p => by
    have h : callShp1 C "range" e = some es := h
    unfold callShp1 at h
    split at h
    · split at h
      · cases h
        rename_i q
        obtain ⟨rfl, q1, q2⟩ := q
        refine PI.imp (L2.pi_range1 (c.gl q1) (c.blt _ (by decide)) (p.pa (by simp [q2])) (by rw [star_ns q2]; rfl)) fun σ H R q => ?_
        exact tl_of srcs σ H _ (q.mono fun vs H1 z => krng1 z)
      · cases h
    · cases h
  | .rng2, tg, e, es, srcs, h, p => by
    have h : callShp2 C "range" e = some es := h
    unfold callShp2 at h
    split at h
    · split at h
      · cases h
        rename_i q
        obtain ⟨rfl, q1, q2, q3⟩ := q
        refine PI.imp (L2.pi_range2 (c.gl q1) (c.blt _ (by decide)) (p.pa (by simp [q2, q3])) (by rw [star_ns q2, star_ns q3]; rfl) (by rw [star_ns q3]; rfl)) fun σ H R q => ?_
        exact tl_of srcs σ H _ (q.mono fun vs H1 z => krng2 z)
      · cases h
    · cases h
  | .zip, _, _, _, _, h, _ => by cases h
  | .enum, tg, e, es, srcs, h, p => by
    simp only [iterShp] at h
    split at h
    · unfold callShp1 at h
      split at h
      · split at h
        · cases h
          rename_i q
          obtain ⟨rfl, q1, q2⟩ := q
          refine PI.imp (EnT.pi_en (c.gl q1) (c.blt _ (by decide)) (p.pa (by simp [q2])) (by rw [star_ns q2]; rfl)) fun σ H R q => ?_
          exact tl_of srcs σ H _ (q.mono fun vs H1 z => kenum z)
        · cases h
      · cases h
    · cases h
  | .chars, _, _, _, _, h, _ => by cases h
end
end
end Ow

/-! Ow7: comprehensions' loops. -/
namespace Ow
open PySem PySem.Spec PyProof.Rows
open L2 (V SqL SqT Rd HO upd upd_same upd_ne TE TT TA TS VK Cx PE PT PA PS PSs WX OpR UnR CallR R2 Room Gl Sp XK CXT FnOk Binds TG TGs PG PGs It TI PI Inv RelV Vals thn wipe)

mutual
theorem below_mono {m n : Nat} (hm : m ≤ n) : ∀ w : W, below m w = true → below n w = true
  | .non, _ => by simp [below]
  | .bl _, _ => by simp [below]
  | .int _, _ => by simp [below]
  | .str _, _ => by simp [below]
  | .ty _, _ => by simp [below]
  | .cls _, _ => by simp [below]
  | .tup ws, z => by simp only [below] at *; exact belowL_mono' hm ws z
  | .lst ws, z => by simp only [below] at *; exact belowL_mono' hm ws z
  | .slst ws, z => by simp only [below] at *; exact belowL_mono' hm ws z
  | .set _, _ => by simp [below]
  | .exc _ ws, z => by simp only [below] at *; exact belowL_mono' hm ws z
  | .dic a b, z => by simp only [below, Bool.and_eq_true] at *; exact ⟨belowL_mono' hm a z.1, belowL_mono' hm b z.2⟩
  | .ref k, z => by simp only [below, decide_eq_true_eq] at *; omega
theorem belowL_mono' {m n : Nat} (hm : m ≤ n) : ∀ ws : List W, belowL m ws = true → belowL n ws = true
  | [], _ => by simp [belowL]
  | w :: ws, z => by
    simp only [belowL, Bool.and_eq_true] at *
    exact ⟨below_mono hm w z.1, belowL_mono' hm ws z.2⟩
end
theorem belowL_mono {c : Nat} : ∀ l : List W, belowL 0 l = true → belowL c l = true := fun l z => belowL_mono' (Nat.zero_le c) l z
theorem sameAt_map {h h' : Hp} : ∀ {ws : List W}, sameAt h h' ws → ws.map (deref h') = ws.map (deref h)
  | [], _ => rfl
  | w :: ws, s => by
    have key : deref h' w = deref h w ∧ sameAt h h' ws := by
      cases w <;> first | exact ⟨rfl, s⟩ | (obtain ⟨e, s⟩ := s; exact ⟨by simp only [deref, e], s⟩)
    rw [List.map_cons, List.map_cons, key.1, sameAt_map key.2]
section
variable {K : KX} {H H' : L2.Hp} {bt bt' : Gh} {h h' : Hp}
theorem truth_rep (ok : HeapOk K H bt h) {w : W} {v : V} {k : Bool} (r : Rep K H bt h w v) (e : truthW h w = some k) : L2.TruV K v H k := by
  have rt := r.t ok
  unfold truthW at e
  cases q : deref h w <;> rw [q] at e rt <;> first | (cases e; done) | skip
  · cases rt; cases e; rfl
  · cases rt; cases e; rfl
  · cases rt; cases e; rfl
  · cases rt
    simp only at e
    split at e
    · cases e; exact ⟨okLen_le (by assumption), rfl⟩
    · cases e
  · obtain ⟨a, vs, rfl, sq, l⟩ := repT_tup rt
    cases e
    refine .inr (.inl ⟨vs, sq, ?_⟩)
    have := l.length
    rename_i ws
    cases ws <;> cases vs <;> first | rfl | (simp at this)
  · obtain ⟨a, vs, rfl, sq, l⟩ := repT_lst rt
    cases e
    refine .inl ⟨vs, .of sq, ?_⟩
    have := l.length
    rename_i ws
    cases ws <;> cases vs <;> first | rfl | (simp at this)
end

/-- one turn's end -/
def TurnOk (K : KX) (b : Nat) (H : L2.Hp) (bt : Gh) (h : Hp) (N0 : L2.Hp → Prop) (N1 : V → L2.Hp → Prop) : R (Option W) → Prop
  | .ok none h' => ∀ H' bt', Exs H bt h H' bt' h' → HeapOk K H' bt' h' → Pres b h h' → N0 H'
  | .ok (some w) h' => ∀ v H' bt', Exs H bt h H' bt' h' → HeapOk K H' bt' h' → Pres b h h' → Rep K H' bt' h' w v → N1 v H'
  | _ => False
/-- a turn's reading: the target, the tests, the item -/
def tTurn (g : TG) (tt : TT) (te : TE) (σ : L2.St) (vs : List Nat) (x : V) (H' : L2.Hp) (N0 : L2.Hp → Prop) (N1 : V → L2.Hp → Prop) : Prop :=
  g x (L2.wipe σ vs) H' fun σ2 H2 => L2.wipe σ2 vs = L2.wipe σ vs ∧ tt σ2 H2 fun b H3 => if b = true then te σ2 H3 N1 else N0 H3
def FinOk (K : KX) (b : Nat) (H : L2.Hp) (bt : Gh) (h : Hp) (Q : VK) : R (List W) → Prop
  | .ok ys h' => ∀ v H' bt', Exs H bt h H' bt' h' → HeapOk K H' bt' h' → Pres b h h' → Rep K H' bt' h' (.lst ys) v → Q v H'
  | .exc _ _ => True
  | .bad => False
def FinOkM (K : KX) (b : Nat) (H : L2.Hp) (bt : Gh) (h : Hp) (Q : VK) : R W → Prop
  | .ok w h' => ∀ v H' bt', Exs H bt h H' bt' h' → HeapOk K H' bt' h' → Pres b h h' → Rep K H' bt' h' w v → Q v H'
  | .exc _ _ => True
  | .bad => False
section
variable {K : KX} {H1 : L2.Hp} {bt1 : Gh} {h1 : Hp} {b : Nat} {Q : VK} {σ : L2.St} {k : ItK} {ws : List W} {vs0 : List V} {its : List W} {J : It} {g : TG} {tt : TT} {te : TE} {vs : List Nat}
open Classical in
/-- the whole loop, the list not to be changed behind it -/
theorem lc_run (ok1 : HeapOk K H1 bt1 h1) (rw0 : RepL K H1 bt1 h1 ws vs0) (ei : itemsOf k (ws.map (deref h1)) = some its) (hJ : ItOk K k ws vs0 its J) {body : W → Hp → R (Option W)}
    (hbody : ∀ (Hc : L2.Hp) btc hc w x N0 N1, HeapOk K Hc btc hc → Exs H1 bt1 h1 Hc btc hc → Rep K Hc btc hc w x → TurnOk K b Hc btc hc N0 N1 (body w hc) → b ≤ hc.length → tTurn g tt te σ vs x Hc N0 N1)
    (hb : b ≤ h1.length) (fin : FinOk K b H1 bt1 h1 Q (lcLoop body (fun h2 => sameAt h1 h2 ws) its [] h1)) {D : Addr} (hD : H1 D = none) :
    ∃ W : Nat → Nat → L2.Hp → Prop, (∃ m, W 0 m (upd H1 D (.lst []))) ∧ ∀ i m H, W i m H →
      (J.stop i H ∧ Q (.ref D) H) ∨ (J.go i H ∧ ∃ Nx : L2.Hp → Prop, (∀ H', Nx H' → ∃ m', m' < m ∧ W (i + 1) m' H') ∧ ∀ x H', J.yld i H x H' → g x (L2.wipe σ vs) H' fun σ2 H2 => L2.wipe σ2 vs = L2.wipe σ vs ∧ tt σ2 H2 fun b H3 =>
        if b = true then te σ2 H3 fun y H4 => ∃ acc, H4 D = some (.lst acc) ∧ acc.length < sizeLine ∧ Nx (upd H4 D (.lst (acc ++ [y]))) else Nx H3) := by
  have nD : D ∉ bt1.g := fun z => by
    obtain ⟨u, q⟩ := ok1.gl D z
    rw [hD] at q; cases q
  refine ⟨fun i m Hc => m = its.length - i ∧ i ≤ its.length ∧ ∃ btc hc acc us, HeapOk K Hc btc hc ∧ Exs H1 bt1 h1 Hc btc hc ∧ Pres b h1 hc ∧ D ∈ btc.g ∧ Hc D = some (.lst us) ∧ RepL K Hc btc hc acc us ∧ ws.map (deref hc) = ws.map (deref h1) ∧
    FinOk K b H1 bt1 h1 Q (lcLoop body (fun h2 => sameAt h1 h2 ws) (its.drop i) acc hc), ⟨_, rfl, Nat.zero_le _, ?_⟩, ?_⟩
  · obtain ⟨okg, xg⟩ := ok1.ghostX (vs := []) hD
    exact ⟨_, h1, [], [], okg, xg, Pres.refl, List.mem_cons_self, upd_same, rfl, rfl, fin⟩
  · rintro i m Hc ⟨rfl, hi, btc, hc, acc, us, okc, xc, pc, gD, eD, ra, sm, fin⟩
    obtain ⟨J1, J2, J3⟩ := hJ Hc btc hc okc (rw0.ext ok1 xc.toExt) (by rw [sm]; exact ei)
    by_cases hlt : i < its.length
    · have ed : its.drop i = its[i] :: its.drop (i + 1) := List.drop_eq_getElem_cons hlt
      rw [ed] at fin
      refine .inr ⟨J1 i hlt, fun Hn => i + 1 ≤ its.length ∧ ∃ btc hc acc us, HeapOk K Hn btc hc ∧ Exs H1 bt1 h1 Hn btc hc ∧ Pres b h1 hc ∧ D ∈ btc.g ∧ Hn D = some (.lst us) ∧ RepL K Hn btc hc acc us ∧ ws.map (deref hc) = ws.map (deref h1) ∧
        FinOk K b H1 bt1 h1 Q (lcLoop body (fun h2 => sameAt h1 h2 ws) (its.drop (i + 1)) acc hc), fun Hn z => ⟨_, by omega, rfl, z.1, z.2⟩, fun x H' y => ?_⟩
      obtain ⟨s, rx⟩ := J3 i _ x H' (List.getElem?_eq_getElem hlt) y
      obtain ⟨ok', x'⟩ := okc.sameX s
      refine hbody H' btc hc _ x _ _ ok' (xc.trans x') rx ?_ (Nat.le_trans hb xc.len)
      unfold lcLoop at fin
      cases eb : body its[i] hc with
      | bad => rw [eb] at fin; exact fin
      | exc e h5 => rw [eb] at fin; exact fin
      | ok o h5 =>
        rw [eb] at fin
        simp only at fin
        split at fin
        · rename_i kp
          cases o with
          | none =>
            intro H5 bt5 x5 ok5 p5
            simp only at fin
            have xx := (xc.trans x').trans x5
            exact ⟨hlt, bt5, h5, acc, us, ok5, xx, pc.trans p5, (x5.gk D gD).1, (x5.gk D gD).2 _ (s D _ eD), (ra.ext okc x'.toExt).ext ok' x5.toExt, sameAt_map kp, fin⟩
          | some w =>
            intro v H5 bt5 x5 ok5 p5 r5
            simp only at fin
            split at fin
            · rename_i hz
              have xx := (xc.trans x').trans x5
              have e5 : H5 D = some (.lst us) := (x5.gk D gD).2 _ (s D _ eD)
              have r5a : RepL K H5 bt5 h5 acc us := (ra.ext okc x'.toExt).ext ok' x5.toExt
              obtain ⟨okn, xn, wn⟩ := ok5.growX (vs := us ++ [v]) xx (x5.gk D gD).1 nD
              refine ⟨us, e5, by rw [← r5a.length]; exact hz, hlt, bt5, h5, acc ++ [w], us ++ [v], okn, xn, pc.trans p5, (x5.gk D gD).1, upd_same, (r5a.append (.one r5)).ext ok5 wn, sameAt_map kp, fin⟩
            · exact fin.elim
        · exact fin.elim
    · have e : i = its.length := by omega
      subst e
      rw [List.drop_length] at fin
      unfold lcLoop at fin
      obtain ⟨okd, xd, wd, fz⟩ := okc.doneX xc nD gD
      exact .inl ⟨J2, fin _ _ _ xd okd pc ⟨D, us, rfl, ⟨eD, fz⟩, ra.ext okc wd⟩⟩
open Classical in
/-- .. the list an object from the beginning -/
theorem lc_runM (ok1 : HeapOk K H1 bt1 h1) (rw0 : RepL K H1 bt1 h1 ws vs0) (ei : itemsOf k (ws.map (deref h1)) = some its) (hJ : ItOk K k ws vs0 its J) {body : W → Hp → R (Option W)}
    (hbody : ∀ (Hc : L2.Hp) btc hc w x N0 N1, HeapOk K Hc btc hc → Exs H1 bt1 h1 Hc btc hc → Rep K Hc btc hc w x → TurnOk K b Hc btc hc N0 N1 (body w hc) → b ≤ hc.length → tTurn g tt te σ vs x Hc N0 N1)
    (hb : b ≤ h1.length) (fin : FinOkM K b H1 bt1 h1 Q (lcLoopM body (fun h2 => sameAt h1 h2 ws) h1.length its [] (h1 ++ [.lst []]))) {D : Addr} (hD : H1 D = none) :
    ∃ W : Nat → Nat → L2.Hp → Prop, (∃ m, W 0 m (upd H1 D (.lst []))) ∧ ∀ i m H, W i m H →
      (J.stop i H ∧ Q (.ref D) H) ∨ (J.go i H ∧ ∃ Nx : L2.Hp → Prop, (∀ H', Nx H' → ∃ m', m' < m ∧ W (i + 1) m' H') ∧ ∀ x H', J.yld i H x H' → g x (L2.wipe σ vs) H' fun σ2 H2 => L2.wipe σ2 vs = L2.wipe σ vs ∧ tt σ2 H2 fun b H3 =>
        if b = true then te σ2 H3 fun y H4 => ∃ acc, H4 D = some (.lst acc) ∧ acc.length < sizeLine ∧ Nx (upd H4 D (.lst (acc ++ [y]))) else Nx H3) := by
  have sm0 : ws.map (deref (h1 ++ [.lst []])) = ws.map (deref h1) := by
    refine List.map_congr_left fun w hw => ?_
    have rb := RepL.below _ _ rw0
    have key : ∀ {l : List W}, belowL h1.length l = true → w ∈ l → below h1.length w = true := fun {l} => by
      induction l with
      | nil => intro _ z; cases z
      | cons a l ih =>
        intro z m
        simp only [belowL, Bool.and_eq_true] at z
        rcases List.mem_cons.mp m with rfl | m
        · exact z.1
        · exact ih z.2 m
    have kb := key rb hw
    cases w <;> first | rfl | skip
    rename_i n
    simp only [below, decide_eq_true_eq] at kb
    simp only [deref, List.getElem?_append_left kb]
  refine ⟨fun i m Hc => m = its.length - i ∧ i ≤ its.length ∧ ∃ btc hc acc, HeapOk K Hc btc hc ∧ Exs H1 bt1 h1 Hc btc hc ∧ Pres b h1 hc ∧ btc.at_ h1.length = D ∧ hc[h1.length]? = some (.lst acc) ∧ ws.map (deref hc) = ws.map (deref h1) ∧
    FinOkM K b H1 bt1 h1 Q (lcLoopM body (fun h2 => sameAt h1 h2 ws) h1.length (its.drop i) acc hc), ⟨_, rfl, Nat.zero_le _, ?_⟩, ?_⟩
  · obtain ⟨okg, xg⟩ := ok1.newX (ws := []) (vs := []) (Same.upd hD) hD upd_same rfl
    exact ⟨_, _, [], okg, xg, Pres.new hb, Gh.add_self, by simp, sm0, fin⟩
  · rintro i m Hc ⟨rfl, hi, btc, hc, acc, okc, xc, pc, aD, eN, sm, fin⟩
    obtain ⟨J1, J2, J3⟩ := hJ Hc btc hc okc (rw0.ext ok1 xc.toExt) (by rw [sm]; exact ei)
    by_cases hlt : i < its.length
    · have ed : its.drop i = its[i] :: its.drop (i + 1) := List.drop_eq_getElem_cons hlt
      rw [ed] at fin
      refine .inr ⟨J1 i hlt, fun Hn => i + 1 ≤ its.length ∧ ∃ btc hc acc, HeapOk K Hn btc hc ∧ Exs H1 bt1 h1 Hn btc hc ∧ Pres b h1 hc ∧ btc.at_ h1.length = D ∧ hc[h1.length]? = some (.lst acc) ∧ ws.map (deref hc) = ws.map (deref h1) ∧
        FinOkM K b H1 bt1 h1 Q (lcLoopM body (fun h2 => sameAt h1 h2 ws) h1.length (its.drop (i + 1)) acc hc), fun Hn z => ⟨_, by omega, rfl, z.1, z.2⟩, fun x H' y => ?_⟩
      obtain ⟨s, rx⟩ := J3 i _ x H' (List.getElem?_eq_getElem hlt) y
      obtain ⟨ok', x'⟩ := okc.sameX s
      refine hbody H' btc hc _ x _ _ ok' (xc.trans x') rx ?_ (Nat.le_trans hb xc.len)
      have hnl : h1.length < hc.length := (List.getElem?_eq_some_iff.mp eN).1
      unfold lcLoopM at fin
      cases eb : body its[i] hc with
      | bad => rw [eb] at fin; exact fin
      | exc e h5 => rw [eb] at fin; exact fin
      | ok o h5 =>
        rw [eb] at fin
        simp only at fin
        split at fin
        · rename_i kp
          obtain ⟨kp, kn⟩ := kp
          cases o with
          | none =>
            intro H5 bt5 x5 ok5 p5
            simp only at fin
            have xx := (xc.trans x').trans x5
            exact ⟨hlt, bt5, h5, acc, ok5, xx, pc.trans p5, (x5.agree _ hnl).trans aD, kn, sameAt_map kp, fin⟩
          | some w =>
            intro v H5 bt5 x5 ok5 p5 r5
            simp only at fin
            split at fin
            · rename_i hz
              have xx := (xc.trans x').trans x5
              have a5 : bt5.at_ h1.length = D := (x5.agree _ hnl).trans aD
              obtain ⟨us, e5, r5a⟩ := ok5.objs _ _ kn
              rw [a5] at e5
              obtain ⟨okn, xn⟩ := ok5.putX kn (by simp) (r5a.append (.one r5))
              rw [a5] at okn xn
              have hl5 : h1.length < h5.length := (List.getElem?_eq_some_iff.mp kn).1
              have sm2 : ws.map (deref (h5.set h1.length (.lst (acc ++ [w])))) = ws.map (deref h1) := by
                rw [← sameAt_map kp]
                refine List.map_congr_left fun u hu => ?_
                have rb := RepL.below _ _ rw0
                have key : ∀ {l : List W}, belowL h1.length l = true → u ∈ l → below h1.length u = true := fun {l} => by
                  induction l with
                  | nil => intro _ z; cases z
                  | cons a l ih =>
                    intro z m
                    simp only [belowL, Bool.and_eq_true] at z
                    rcases List.mem_cons.mp m with rfl | m
                    · exact z.1
                    · exact ih z.2 m
                have kb := key rb hu
                cases u <;> first | rfl | skip
                rename_i n
                simp only [below, decide_eq_true_eq] at kb
                simp only [deref]
                rw [List.getElem?_set_ne (by omega)]
              refine ⟨us, e5, by rw [← r5a.length]; exact hz, hlt, bt5, _, acc ++ [w], okn, xx.trans xn, (pc.trans p5).trans (Pres.put (.inl hb) fun c z => ?_), a5, ?_, sm2, fin⟩
              · have key : ∀ l : List W, belowL 0 l = true → belowL c l = true := belowL_mono
                exact key _ z
              · rw [List.getElem?_set_self hl5]
            · exact fin.elim
        · exact fin.elim
    · have e : i = its.length := by omega
      subst e
      rw [List.drop_length] at fin
      unfold lcLoopM at fin
      exact .inl ⟨J2, fin _ _ _ xc okc pc ⟨(List.getElem?_eq_some_iff.mp eN).1, by rw [aD]⟩⟩
end
end Ow

/-! Ow8: methods. -/
namespace Ow
open PySem PySem.Spec PyProof.Rows
open L2 (V SqL SqT Rd HO upd upd_same upd_ne TE TT TA TS VK Cx PE PT PA PS PSs WX OpR UnR CallR R2 Room Gl Sp XK CXT FnOk Binds TG TGs PG PGs It TI PI Inv RelV Vals thn wipe)

def Mth.nm : Mth → Str
  | .append => "append"
  | .pop => "pop"
  | .popAt => "pop"
  | .insert => "insert"
  | .reverse => "reverse"
  | .clear => "clear"
  | .join => "join"
def Mth.ar : Mth → Nat
  | .append => 1
  | .pop => 0
  | .popAt => 1
  | .insert => 2
  | .reverse => 0
  | .clear => 0
  | .join => 1
def Mth.ty : Mth → String
  | .join => "str"
  | _ => "list"
def baseB : Expr → Bool
  | .Name _ _ => true
  | .Constant _ _ _ => true
  | .Subscript _ _ _ => true
  | _ => false
def mthShp (m : Mth) : Expr → Option (Expr × List Expr)
  | .Call (.Attribute o nm apos) es [] cpos => if nm = m.nm ∧ baseB o = true ∧ (apos.endLine == cpos.line) = true ∧ es.length = m.ar ∧ es.all ns = true then some (o, es) else none
  | _ => none
section
variable {K : KX} {σ : L2.St} {H H' : L2.Hp} {bt bt' : Gh} {h h' : Hp}
theorem Pres.putL {b n : Nat} {us us' : List W} {w : W} (e : h[n]? = some (.lst us)) (mp : mayPut b n w = true) (c : ∀ c, belowL c us = true → below c w = true → belowL c us' = true) : Pres b h (h.set n (.lst us')) := by
  refine Pres.put2 e fun c' hc hn z => ?_
  simp only [mayPut, Bool.or_eq_true, decide_eq_true_eq] at mp
  rcases mp with mp | mp
  · omega
  · exact c c' z (below_mono (Nat.zero_le _) w mp)
theorem Pres.putS {b n : Nat} {us us' : List W} (e : h[n]? = some (.lst us)) (c : ∀ c, belowL c us = true → belowL c us' = true) : Pres b h (h.set n (.lst us')) := Pres.put2 e fun c' hc hn z => c c' z
theorem belowL_app {c : Nat} : ∀ {as bs : List W}, belowL c (as ++ bs) = (belowL c as && belowL c bs)
  | [], bs => by simp [belowL]
  | a :: as, bs => by rw [List.cons_append]; simp only [belowL, belowL_app (as := as), Bool.and_assoc]
theorem belowL_mem {c : Nat} : ∀ {as : List W}, belowL c as = true ↔ ∀ a ∈ as, below c a = true
  | [] => by simp [belowL]
  | a :: as => by simp only [belowL, Bool.and_eq_true, belowL_mem (as := as), List.mem_cons, forall_eq_or_imp]
/-- what is asked of a method's rule -/
def MRd (K : KX) (m : Mth) (r : V → List V → L2.Hp → VK → Prop) : Prop :=
  ∀ (σ : L2.St) (H : L2.Hp) (bt : Gh) (h : Hp) (b : Nat) (Wx : WX) (ow : W) (ws : List W) (x : V) (xs : List V) (Q : VK), HeapOk K H bt h → Rep K H bt h ow x → RepL K H bt h ws xs → b ≤ h.length → OkE K Wx σ H bt b h Q (runMth b m ow ws h) → r x xs H Q
/-- a list that is rewritten -/
theorem put_run {Q : VK} {b n : Nat} {us us' : List W} {vs' : List V} {w : W} {v : V} (ok : HeapOk K H bt h) (e : h[n]? = some (.lst us)) (p : Pres b h (h.set n (.lst us'))) (r' : RepL K H bt h us' vs') (rw' : Rep K H bt h w v) {Wx : WX}
    (q : OkE K Wx σ H bt b h Q (.ok w (h.set n (.lst us')))) : Q v (upd H (bt.at_ n) (.lst vs')) := by
  obtain ⟨ok1, x1⟩ := ok.putX e (by simp) r'
  exact q v _ bt x1 ok1 p (rw'.ext ok x1.toExt)
theorem RepL.dropLast {us : List W} {vs : List V} (l1 : RepL K H bt h us vs) : RepL K H bt h us.dropLast vs.dropLast := by
  rw [List.dropLast_eq_take, List.dropLast_eq_take, ← l1.length]
  exact l1.take _
theorem ref_obj (ok : HeapOk K H bt h) {n : Nat} {us : List W} {x : V} (r : Rep K H bt h (.ref n) x) (e : h[n]? = some (.lst us)) : x = .ref (bt.at_ n) ∧ ∃ vs, H (bt.at_ n) = some (.lst vs) ∧ RepL K H bt h us vs :=
  ⟨r.2, ok.objs n _ e⟩
theorem lst_of {h : Hp} {n : Nat} {α : Type} {f : List W → R α} (e : (match h[n]? with
    | some (.lst ws) => f ws
    | _ => .bad) ≠ .bad) : ∃ ws, h[n]? = some (.lst ws) := by
  cases q : h[n]? with
  | none => rw [q] at e; exact absurd rfl e
  | some o =>
    cases o <;> first | exact ⟨_, rfl⟩ | (rw [q] at e; exact absurd rfl e)
theorem RepL.len1 {ws : List W} {v : V} (l : RepL K H bt h ws [v]) : ∃ w, ws = [w] ∧ Rep K H bt h w v := by
  match ws, l with
  | [w], l => obtain ⟨v', e, r⟩ := l.one'; cases e; exact ⟨w, rfl, r⟩
  | w :: u :: ws, l =>
    have := l.length
    simp at this
theorem mrd_append : MRd K .append L2.rAppend := by
  intro σ H bt h b Wx ow ws x xs Q ok r l hb q
  unfold runMth at q
  split at q <;> rename_i hm <;> first | (cases hm; done) | skip
  · split at q
    · rename_i us e
      split at q
      · rename_i c
        simp only [Bool.and_eq_true, decide_eq_true_eq] at c
        obtain ⟨rfl, vs, e1, l1⟩ := ref_obj ok r e
        obtain ⟨v, rfl, rv⟩ := l.one'
        exact ⟨_, vs, v, rfl, rfl, e1, by rw [← l1.length]; exact c.2, put_run (w := .non) (v := .non) ok e (Pres.putL e c.1 fun c' z1 z2 => by rw [belowL_app]; simp [z1, z2, belowL]) (l1.append (.one rv)) rfl q⟩
      · exact q.elim
    · exact q.elim
  · exact q.elim
theorem mrd_pop : MRd K .pop L2.rPop := by
  intro σ H bt h b Wx ow ws x xs Q ok r l hb q
  unfold runMth at q
  split at q <;> rename_i hm <;> first | (cases hm; done) | skip
  · split at q
    · rename_i us e
      split at q
      · rename_i w ew
        obtain ⟨rfl, vs, e1, l1⟩ := ref_obj ok r e
        cases (show xs = [] from l)
        have eg : us[us.length - 1]? = some w := by rw [← List.getLast?_eq_getElem?]; exact ew
        obtain ⟨v, ev, rv⟩ := l1.get eg
        refine ⟨_, vs, v, rfl, rfl, e1, by rw [← l1.length]; exact ev, put_run ok e (Pres.putS e fun c z => ?_) l1.dropLast rv q⟩
        exact belowL_mem.mpr fun a ha => belowL_mem.mp z a ((List.dropLast_sublist us).subset ha)
      · exact q.elim
    · exact q.elim
  · exact q.elim
theorem mrd_reverse : MRd K .reverse L2.rReverse := by
  intro σ H bt h b Wx ow ws x xs Q ok r l hb q
  unfold runMth at q
  split at q <;> rename_i hm <;> first | (cases hm; done) | skip
  · split at q
    · rename_i us e
      obtain ⟨rfl, vs, e1, l1⟩ := ref_obj ok r e
      cases (show xs = [] from l)
      refine ⟨_, vs, rfl, rfl, e1, put_run (w := .non) (v := .non) ok e (Pres.putS e fun c z => ?_) l1.reverse rfl q⟩
      exact belowL_mem.mpr fun a ha => belowL_mem.mp z a (List.mem_reverse.mp ha)
    · exact q.elim
  · exact q.elim
theorem mrd_clear : MRd K .clear L2.rClear := by
  intro σ H bt h b Wx ow ws x xs Q ok r l hb q
  unfold runMth at q
  split at q <;> rename_i hm <;> first | (cases hm; done) | skip
  · split at q
    · rename_i us e
      obtain ⟨rfl, vs, e1, l1⟩ := ref_obj ok r e
      cases (show xs = [] from l)
      exact ⟨_, vs, rfl, rfl, e1, put_run (us' := []) (w := .non) (v := .non) ok e (Pres.putS e fun c z => by simp [belowL]) rfl rfl q⟩
    · exact q.elim
  · exact q.elim
theorem mrd_popAt : MRd K .popAt L2.rPopAt := by
  intro σ H bt h b Wx ow ws x xs Q ok r l hb q
  unfold runMth at q
  split at q <;> rename_i hm <;> first | (cases hm; done) | skip
  · split at q
    · rename_i us e
      split at q
      · rename_i j ej
        split at q
        · rename_i w ew
          split at q
          · rename_i c
            obtain ⟨rfl, vs, e1, l1⟩ := ref_obj ok r e
            obtain ⟨v, rfl, rv⟩ := l.one'
            cases rv
            obtain ⟨v, ev, rv⟩ := l1.get ew
            obtain ⟨s1, s2, s3, s4⟩ := L2.ixN_seq (show L2.ixN us.length _ = some j from ej)
            refine ⟨_, vs, _, j, v, rfl, rfl, e1, c.1, c.2, by rw [← l1.length]; exact s1, ev, put_run ok e (Pres.putS e fun c z => ?_) (l1.eraseIdx j) rv q⟩
            exact belowL_mem.mpr fun a ha => belowL_mem.mp z a (List.mem_of_mem_eraseIdx ha)
          · exact q.elim
        · exact q.elim
      · exact q.elim
    · exact q.elim
  · exact q.elim
theorem mrd_insert : MRd K .insert (fun x vs H Q => ∃ (l : Addr) (xs : List V) (i : Int) (y : V), x = .ref l ∧ vs = [.int i, y] ∧ H l = some (.lst xs) ∧ xs.length < sizeLine ∧ 0 ≤ i ∧ i < 2 ^ 63 ∧
    Q .non (upd H l (.lst (xs.take i.toNat ++ [y] ++ xs.drop i.toNat)))) := by
  intro σ H bt h b Wx ow ws x xs Q ok r l hb q
  unfold runMth at q
  split at q <;> rename_i hm <;> first | (cases hm; done) | skip
  · split at q
    · rename_i us e
      split at q
      · rename_i c
        simp only [Bool.and_eq_true, decide_eq_true_eq] at c
        obtain ⟨⟨c1, c2⟩, c3, c4⟩ := c
        obtain ⟨rfl, vs, e1, l1⟩ := ref_obj ok r e
        obtain ⟨v, y, rfl, rv, ry⟩ := l.two'
        cases rv
        have hl : (sizeLine : Nat) < 2 ^ 63 := L2.line63
        refine ⟨_, vs, _, y, rfl, rfl, e1, by rw [← l1.length]; exact c2, c3, by omega, ?_⟩
        rw [List.append_assoc]
        refine put_run (w := .non) (v := .non) ok e (Pres.putL e c1 fun c' z1 z2 => ?_) ((l1.take _).append ((RepL.one ry).append (l1.drop _))) rfl q
        refine belowL_mem.mpr fun a ha => ?_
        rcases List.mem_append.mp ha with ha | ha
        · exact belowL_mem.mp z1 a (List.mem_of_mem_take ha)
        · rcases List.mem_cons.mp ha with rfl | ha
          · exact z2
          · exact belowL_mem.mp z1 a (List.mem_of_mem_drop ha)
      · exact q.elim
    · exact q.elim
  · exact q.elim
theorem mrd_join : MRd K .join (fun x xs H Q => ∃ a p, ∃ ys : List Str, x = .str a ∧ xs = [.ref p] ∧ (SqL K H p (ys.map V.str) ∨ SqT K H p (ys.map V.str)) ∧
    (ys.map (·.length)).sum + ys.length * a.length ≤ 16777216 ∧ Q (.str (Txt.join a ys)) H) := by
  intro σ H bt h b Wx ow ws x xs Q ok r l hb q
  unfold runMth at q
  split at q <;> rename_i hm <;> first | (cases hm; done) | skip
  · rename_i z y
    split at q
    · rename_i w e
      simp only [Option.bind_eq_some_iff] at e
      obtain ⟨us, e1, e2⟩ := e
      obtain ⟨v, rfl, rv⟩ := l.one'
      obtain ⟨p, ys, rfl, sq, l1⟩ := items_seq (rv.t ok) e1
      unfold pJoin at e2
      simp only [Option.bind_eq_some_iff] at e2
      obtain ⟨ss, e3, e2⟩ := e2
      split at e2
      · cases e2
        cases allStr_vals e3 l1
        cases r
        exact ⟨_, p, ss, rfl, rfl, sq, by assumption, q _ _ bt Exs.refl ok Pres.refl rfl⟩
      · cases e2
    · exact q.elim
  · exact q.elim
end

section
variable {X : Cx}
theorem few1 {a : Expr} (n : ns a = true) (pos : Pos) (env : PySem.Env) : ((backTo pos (starEach [a] env)).all (fun x => !x.1) && (backToKw pos (keywordEach [] env)).all (fun x => x.1.isSome)
      && decide ([a].length + ([] : List Keyword).length + (if ([] : List Keyword).isEmpty then 0 else 1) < 30)) = true := by
  rw [star_ns n]; rfl
theorem few2 {a b : Expr} (n : ns a = true) (n2 : ns b = true) (pos : Pos) (env : PySem.Env) : ((backTo pos (starEach [a, b] env)).all (fun x => !x.1) && (backToKw pos (keywordEach [] env)).all (fun x => x.1.isSome)
      && decide ([a, b].length + ([] : List Keyword).length + (if ([] : List Keyword).isEmpty then 0 else 1) < 30)) = true := by
  rw [star_ns n, star_ns n2]; rfl
theorem base_ok {o : Expr} (h : baseB o = true) (nm : Str) (env : PySem.Env) : attributeBase o nm env (eval o env) = eval o env := by
  cases o <;> first | (cases h; done) | rfl
/-- a method's call: the receiver is of its type, then the arguments -/
def tM (K : KX) (m : Mth) (r : V → List V → L2.Hp → VK → Prop) (to : TE) (ts : List TE) : TE := fun σ H Q => to σ H fun x H1 => L2.tyV K m.ty x H1 ∧ tL ts σ H1 fun xs H2 => r x xs H2 Q
theorem mth0 {id : String} {m : Mth} {e o : Expr} {es : List Expr} {to : TE} {ts : List TE} {r : V → List V → L2.Hp → VK → Prop} (h : mthShp m e = some (o, es)) (har : m.ar = 0) (pa : PlainAttrs m.ty) (slot : Slot m.ty m.nm id) (hty : typeOf (.builtin id) = pure (.type "method_descriptor")) (hm : L2.MtR X id r) (ho : PE X o to) (p : PL X es ts) : PE X e (tM (kx X) m r to ts) := by
  unfold mthShp at h
  split at h
  · split at h
    · cases h
      rename_i q
      obtain ⟨rfl, q1, q2, q3, q4⟩ := q
      rw [har] at q3
      cases List.length_eq_zero_iff.mp q3
      cases p
      exact L2.pe_bm0 pa slot hty hm ho (base_ok q1 _ _) q2
    · cases h
  · cases h
theorem mth1 {id : String} {m : Mth} {e o : Expr} {es : List Expr} {to : TE} {ts : List TE} {r : V → List V → L2.Hp → VK → Prop} (h : mthShp m e = some (o, es)) (har : m.ar = 1) (pa : PlainAttrs m.ty) (slot : Slot m.ty m.nm id) (hty : typeOf (.builtin id) = pure (.type "method_descriptor")) (hm : L2.MtR X id r) (ho : PE X o to) (p : PL X es ts) : PE X e (tM (kx X) m r to ts) := by
  unfold mthShp at h
  split at h
  · split at h
    · cases h
      rename_i q
      obtain ⟨rfl, q1, q2, q3, q4⟩ := q
      rw [har] at q3
      match es, q3, q4, p with
      | [a], q3, q4, p =>
        have n : ns a = true := by simpa using q4
        exact L2.pe_bm pa slot hty hm ho (p.pa q4) (base_ok q1 _ _) (few1 n _ _) q2 (star_ns n _ _) rfl
    · cases h
  · cases h
theorem mth2 {id : String} {m : Mth} {e o : Expr} {es : List Expr} {to : TE} {ts : List TE} {r : V → List V → L2.Hp → VK → Prop} (h : mthShp m e = some (o, es)) (har : m.ar = 2) (pa : PlainAttrs m.ty) (slot : Slot m.ty m.nm id) (hty : typeOf (.builtin id) = pure (.type "method_descriptor")) (hm : L2.MtR X id r) (ho : PE X o to) (p : PL X es ts) : PE X e (tM (kx X) m r to ts) := by
  unfold mthShp at h
  split at h
  · split at h
    · cases h
      rename_i q
      obtain ⟨rfl, q1, q2, q3, q4⟩ := q
      rw [har] at q3
      match es, q3, q4, p with
      | [a, b], q3, q4, p =>
        have n : ns a = true ∧ ns b = true := by simpa using q4
        exact L2.pe_bm pa slot hty hm ho (p.pa q4) (base_ok q1 _ _) (few2 n.1 n.2 _ _) q2 (star_ns n.1 _ _) (star_all (by simpa using n.2) _ _)
    · cases h
  · cases h
theorem mth_sound : ∀ (m : Mth) (e o : Expr) (es : List Expr) (to : TE) (ts : List TE), mthShp m e = some (o, es) → PE X o to → PL X es ts → ∃ r, MRd (kx X) m r ∧ PE X e (tM (kx X) m r to ts)
  | .append, e, o, es, to, ts, h, ho, p => ⟨_, mrd_append, mth1 h rfl PySem.F.plainAttrs_list PySem.F.slot_list_append PySem.F.type_list_append L2.mt_append ho p⟩
  | .pop, e, o, es, to, ts, h, ho, p => ⟨_, mrd_pop, mth0 h rfl PySem.F.plainAttrs_list PySem.F.slot_list_pop PySem.F.type_list_pop L2.mt_pop ho p⟩
  | .popAt, e, o, es, to, ts, h, ho, p => ⟨_, mrd_popAt, mth1 h rfl PySem.F.plainAttrs_list PySem.F.slot_list_pop PySem.F.type_list_pop L2.mt_popAt ho p⟩
  | .insert, e, o, es, to, ts, h, ho, p => ⟨_, mrd_insert, mth2 h rfl PySem.F.plainAttrs_list PySem.F.slot_list_insert PySem.F.type_list_insert L2.mt_insert ho p⟩
  | .reverse, e, o, es, to, ts, h, ho, p => ⟨_, mrd_reverse, mth0 h rfl PySem.F.plainAttrs_list PySem.F.slot_list_reverse PySem.F.type_list_reverse L2.mt_reverse ho p⟩
  | .clear, e, o, es, to, ts, h, ho, p => ⟨_, mrd_clear, mth0 h rfl PySem.F.plainAttrs_list PySem.F.slot_list_clear PySem.F.type_list_clear L2.mt_clear ho p⟩
  | .join, e, o, es, to, ts, h, ho, p => ⟨_, mrd_join, mth1 h rfl PySem.F.plainAttrs_str PySem.F.slot_str_join PySem.F.type_str_join L2.mt_join ho p⟩
theorem recv_ty {K : KX} {H : L2.Hp} {bt : Gh} {h : Hp} (ok : HeapOk K H bt h) {m : Mth} {ow : W} {x : V} (r : Rep K H bt h ow x) (e : recvOk m ow h = true) : L2.tyV K m.ty x H := by
  have lst : (match ow with
    | .ref n => match h[n]? with
      | some (.lst _) => true
      | _ => false
    | _ => false) = true → m.ty = "list" → L2.tyV K m.ty x H := fun e t => by
    cases ow <;> first | (cases e; done) | skip
    simp only at e
    split at e
    · rename_i us q
      obtain ⟨rfl, vs, e1, _⟩ := ref_obj ok r q
      rw [t]
      exact .inl ⟨rfl, vs, .of e1⟩
    · cases e
  cases m <;> first
    | exact lst (by cases ow <;> exact e) rfl
    | skip
  cases ow <;> first | (cases e; done) | skip
  cases r
  rfl
end
end Ow

/-! Ow9: expressions. -/
namespace Ow
open PySem PySem.Spec PyProof.Rows
open L2 (V SqL SqT Rd HO upd upd_same upd_ne TE TT TA TS VK Cx PE PT PA PS PSs WX OpR UnR CallR R2 Room Gl Sp XK CXT FnOk Binds TG TGs PG PGs It TI PI Inv RelV Vals thn wipe)

def plainTestB : Expr → Bool
  | .Name _ _ => true
  | .Call _ _ _ _ => true
  | .Subscript _ _ _ => true
  | .BinOp _ _ _ _ => true
  | _ => false
def nsetB : Expr → Bool
  | .Set _ _ _ => false
  | _ => true
def cstB : W → Expr → Bool
  | .non, .Constant .none _ _ => true
  | .bl b, .Constant (.bool c) _ _ => b == c
  | .int i, .Constant (.int j) _ _ => decide (i = j)
  | .str s, .Constant (.str z) _ _ => decide (s = z)
  | _, _ => false
def ownOf (N : List Str) (is : List Nat) : List (Str × Nat) := is.map fun i => (N[i]?.getD "", i)
theorem ownOf_snd {N : List Str} {is : List Nat} : (ownOf N is).map (·.2) = is := by
  unfold ownOf
  rw [List.map_map]
  exact List.map_id is
/-- a test that is asked for its truth -/
def tB : Ex → Expr → Bool
  | .and_ a b, .BoolOp .And (x :: y :: rest) pos => tB a x && tB b (if rest.isEmpty then y else .BoolOp .And (y :: rest) pos)
  | .or_ a b, .BoolOp .Or (x :: y :: rest) pos => tB a x && tB b (if rest.isEmpty then y else .BoolOp .Or (y :: rest) pos)
  | .not_ a, .UnaryOp .Not x _ => tB a x
  | .pr false _ _, .Compare _ [_] [_] _ => true
  | _, e => plainTestB e
mutual
def mE (C : MC) : Ex → Expr → Bool
  | .var i, .Name x _ => decide (C.N[i]? = some x) && visB C x && okN x
  | .cst w, e => cstB w e
  | .pr _ p args, e => match shp C p e with
    | some es => mEs C args es
    | none => false
  | .lc _ t k srcs tests e, .ListComp elt [⟨tg, iter, ifs, 0⟩] scope _ => L2.blkC C.N C.sc scope (ownOf C.N t.names) && nsetB iter && (match iterShp C k tg iter with
      | some es => mEs C srcs es
      | none => false) && mT { C with sc := L2.relS scope C.sc, os := scope } t tg && mE { C with sc := L2.relS scope C.sc, os := scope } e elt && mEs { C with sc := L2.relS scope C.sc, os := scope } tests ifs &&
        (match tests, ifs with
          | [], [] => true
          | [c], [d] => tB c d
          | _, _ => false)
  | .and_ a b, .BoolOp .And (x :: y :: rest) pos => mE C a x && mE C b (if rest.isEmpty then y else .BoolOp .And (y :: rest) pos)
  | .or_ a b, .BoolOp .Or (x :: y :: rest) pos => mE C a x && mE C b (if rest.isEmpty then y else .BoolOp .Or (y :: rest) pos)
  | .not_ a, .UnaryOp .Not x _ => mE C a x
  | .ite c a b, .IfExp c' a' b' _ => mE C c c' && tB c c' && mE C a a' && mE C b b'
  | .call k args, .Call (.Name x _) (e :: es) [] _ => (match C.T[k]? with
      | some df => decide (df.name = x)
      | none => false) && glB C x && okN x && (e :: es).all ns && mEs C args (e :: es)
  | .mth m o args, e => match mthShp m e with
    | some (o', es) => mE C o o' && mEs C args es
    | none => false
  | .frz a, e => mE C a e
  | .opq, _ => true
  | _, _ => false
def mEs (C : MC) : List Ex → List Expr → Bool
  | [], [] => true
  | a :: as, e :: es => mE C a e && mEs C as es
  | _, _ => false
end

section
variable {K : KX} {σ : L2.St} {H H' : L2.Hp} {bt bt' : Gh} {h h' : Hp} {Wx : WX}
theorem tEv.of {m : Nat → Env → Hp → R W} {b : Nat} {ρ : Env} {Q : VK} (s : Stt K σ H bt ρ h) (hb : b ≤ h.length) (q : OkE K Wx σ H bt b h Q (m b ρ h)) : tEv K Wx m σ H Q := ⟨b, bt, ρ, h, s, hb, q⟩
theorem OkE.imp2 {b : Nat} {m : R W} {Q Q' : VK} (q : OkE K Wx σ H bt b h Q m) (i : ∀ w h' v H' bt', m = .ok w h' → Exs H bt h H' bt' h' → HeapOk K H' bt' h' → Pres b h h' → Rep K H' bt' h' w v → Q v H' → Q' v H') : OkE K Wx σ H bt b h Q' m := by
  cases m with
  | bad => exact q
  | exc e h1 => exact q
  | ok w h1 => exact fun v H1 bt1 x ok p r => i _ _ _ _ _ rfl x ok p r (q v H1 bt1 x ok p r)
/-- the same from a later state -/
theorem OkE.later {b : Nat} {m : R W} {Q : VK} {H1 : L2.Hp} {bt1 : Gh} {h1 : Hp} (x : Exs H bt h H1 bt1 h1) (p : Pres b h h1) (q : OkE K Wx σ H bt b h Q m) : OkE K Wx σ H1 bt1 b h1 Q m := by
  cases m with
  | bad => exact q
  | exc e h2 => exact OkX.trans x p q
  | ok w h2 => exact fun v H2 bt2 x2 ok2 p2 r2 => q v H2 bt2 (x.trans x2) ok2 (p.trans p2) r2
/-- a test's result, from its value's -/
theorem OkT.ofE {b : Nat} {m : R W} {Q : Bool → L2.Hp → Prop} (q : OkT K Wx σ H bt b h Q m) : OkE K Wx σ H bt b h (fun v H1 => ∃ k, L2.TruV K v H1 k ∧ Q k H1) m := by
  cases m with
  | bad => exact q
  | exc e h1 => exact q
  | ok w h1 =>
    obtain ⟨k, e, q⟩ := q
    exact fun v H1 bt1 x ok p r => ⟨k, truth_rep ok r e, q H1 bt1 x ok p⟩
end
section
variable {Nw d : Nat} {C : MC} {X : Cx} {Wx : WX}
theorem takesF {X : Cx} : L2.Takes X (fun _ _ _ _ => False) := L2.takes0
theorem Ctx.blk (c : Ctx Nw d C X) {scope : Scope} (s : Shared) (H : L2.Hp) (Ca : Addr) (cl : List (Str × Addr)) (fp : List Addr) : Ctx Nw d { C with sc := L2.relS scope C.sc, os := scope } (X.blk s H scope (compEnvC scope cl Ca X.env) fp) where
  hN := c.hN
  nd := c.nd
  sc := by
    show L2.relS scope X.env.scope = _
    rw [c.sc]
  calm := c.calm
  loc := fun x e => L2.lookup_relS_keep (by simp) e
  cel := fun x e => ⟨L2.lookup_relS_keep (by simp) e, by
    have e : scope.names.lookup x = some .cell := e
    show (scope.names.lookup x == some NameKind.cell) = true
    rw [e]; rfl⟩
  room := ⟨c.room.hd, c.room.dp, c.room.un⟩
  blt := c.blt
  fns := c.fns
theorem evC_len {T : List Def} {N d b k : Nat} {ws : List W} {h : Hp} {df : Def} (e : T[k]? = some df) (n : evC T N d b k ws h ≠ .bad) : ws.length = df.np := by
  cases d with
  | zero => exact absurd rfl n
  | succ d =>
    unfold evC at n
    rw [e] at n
    simp only at n
    by_cases hl : ws.length = df.np
    · exact hl
    · rw [if_neg hl] at n
      exact absurd rfl n
theorem OkE.ne {K : KX} {σ : L2.St} {H : L2.Hp} {bt : Gh} {h : Hp} {b : Nat} {m : R W} {Q : VK} (q : OkE K Wx σ H bt b h Q m) : m ≠ .bad := by
  intro e
  rw [e] at q
  exact q
theorem OkE.flat {K : KX} {σ : L2.St} {H : L2.Hp} {bt : Gh} {h : Hp} {b : Nat} {m : R W} {Q : VK} (q : OkE K Wx σ H bt b h Q m) : OkE K (fun c x _ H' => L2.WE Wx σ c x H') [] H bt b h Q m := by
  cases m <;> exact q
theorem blkOk {N : List Str} {sc scope : Scope} {own : List (Str × Nat)} (h : L2.blkC N sc scope own = true) : L2.BlkOk N sc scope own := L2.blkOk_by h
noncomputable def lcB (call : Nat → Nat → List W → Hp → R W) (b : Nat) (ρ : Env) (t : Tg) (tests : List Ex) (e : Ex) : W → Hp → R (Option W) := fun w hc => match bindT t w (wipeE ρ t.names) with
  | none => .bad
  | some r2 => match tests with
    | [] => (evE call b r2 e hc).bind fun y h3 => .ok (some y) h3
    | c :: _ => (evE call b r2 c hc).bind fun cw h3 => match truthW h3 cw with
      | some true => (evE call b r2 e h3).bind fun y h4 => .ok (some y) h4
      | some false => .ok none h3
      | none => .bad
/-- a turn of a comprehension -/
theorem turn_sound {K : KX} {call : Nat → Nat → List W → Hp → R W} {σ : L2.St} {Hc : L2.Hp} {bt : Gh} {ρ : Env} {hc : Hp} {b : Nat} {t : Tg} {tests : List Ex} {e : Ex} {tt : TT} (s : Stt K σ Hc bt ρ hc) (hb : b ≤ hc.length)
    (htt : (tests = [] ∧ tt = L2.tYes) ∨ ∃ c r, tests = c :: r ∧ tt = tTv K (fun _ _ _ _ => False) fun b ρ h => evE call b ρ c h) {w : W} {x : V} {N0 : L2.Hp → Prop} {N1 : V → L2.Hp → Prop} (r : Rep K Hc bt hc w x)
    (q : TurnOk K b Hc bt hc N0 N1 (lcB call b ρ t tests e w hc)) :
    tTurn (gT K t) tt (tEv K (fun _ _ _ _ => False) fun b ρ h => evE call b ρ e h) σ t.names x Hc N0 N1 := by
  unfold lcB at q
  cases eb : bindT t w (wipeE ρ t.names) with
  | none => rw [eb] at q; exact q.elim
  | some r2 =>
    rw [eb] at q
    simp only at q
    refine ⟨bt, hc, _, r2, w, s.wipe t.names, r, eb, fun σ2 s2 o2 => ⟨(Out.wiped.trans o2).wipe, ?_⟩⟩
    have item : ∀ (H3 : L2.Hp) bt3 h3, Stt K σ2 H3 bt3 r2 h3 → b ≤ h3.length → (∀ v H' bt' w h', Exs H3 bt3 h3 H' bt' h' → HeapOk K H' bt' h' → Pres b h3 h' → Rep K H' bt' h' w v → evE call b r2 e h3 = .ok w h' → N1 v H') → (∃ w h', evE call b r2 e h3 = .ok w h') → tEv K (fun _ _ _ _ => False) (fun b ρ h => evE call b ρ e h) σ2 H3 N1 := fun H3 bt3 h3 s3 hb3 g ⟨w', h', e'⟩ => by
      refine tEv.of s3 hb3 ?_
      show OkE K _ σ2 H3 bt3 b h3 N1 (evE call b r2 e h3)
      rw [e']
      exact fun v H' bt' x ok p r => g v H' bt' _ _ x ok p r e'
    rcases htt with ⟨rfl, rfl⟩ | ⟨c, rr, rfl, rfl⟩
    · show tEv K _ _ σ2 Hc N1
      simp only at q
      cases ee : evE call b r2 e hc with
      | bad => rw [ee] at q; exact q.elim
      | exc _ _ => rw [ee] at q; exact q.elim
      | ok y h3 =>
        rw [ee] at q
        refine item Hc bt hc s2 hb (fun v H' bt' w h' x ok p r e' => ?_) ⟨_, _, ee⟩
        rw [ee] at e'
        cases e'
        exact q v H' bt' x ok p r
    · simp only at q
      refine ⟨b, bt, r2, hc, s2, hb, ?_⟩
      show OkT K _ σ2 Hc bt b hc _ (evE call b r2 c hc)
      cases ec : evE call b r2 c hc with
      | bad => rw [ec] at q; exact q.elim
      | exc _ _ => rw [ec] at q; exact q.elim
      | ok cw h3 =>
        rw [ec] at q
        simp only [R.bind_ok] at q
        cases et : truthW h3 cw with
        | none => rw [et] at q; exact q.elim
        | some k =>
          rw [et] at q
          refine ⟨k, et, fun H3 bt3 x3 ok3 p3 => ?_⟩
          cases k with
          | false => exact q H3 bt3 x3 ok3 p3
          | true =>
            simp only at q
            rw [if_pos rfl]
            cases ee : evE call b r2 e h3 with
            | bad => rw [ee] at q; exact q.elim
            | exc _ _ => rw [ee] at q; exact q.elim
            | ok y h4 =>
              rw [ee] at q
              refine item H3 bt3 h3 (s2.ext x3 ok3) (Nat.le_trans hb x3.len) (fun v H' bt' w h' x ok p r e' => ?_) ⟨_, _, ee⟩
              rw [ee] at e'
              cases e'
              exact q v H' bt' (x3.trans x) ok (p3.trans p) r
theorem ifOne {op : BoolOp} {y : Expr} {rest : List Expr} {pos : Pos} {t : TE} (h : PE X (if rest.isEmpty = true then y else .BoolOp op (y :: rest) pos) t) : PE X (.BoolOp op (y :: rest) pos) t := by
  cases rest with
  | nil => exact L2.pe_one h
  | cons z zs => exact h
/-- a test by its value's truth -/
theorem tst {e : Ex} {x : Expr} {call : Nat → Nat → List W → Hp → R W} (pe : PE X x (tEv (kx X) Wx fun b ρ h => evE call b ρ e h)) (he : ∀ whole, isTrue x X.env whole = (do let v ← whole; standAt x.pos; holding [v] (truthy v))) : PT X x (tTv (kx X) Wx fun b ρ h => evE call b ρ e h) :=
  PT.imp (L2.pt_truth pe he) fun σ H Q q => by
    obtain ⟨b, bt, ρ, h, s, hb, q⟩ := q
    exact tEv.of s hb (OkT.ofE q)
theorem plain_test {x : Expr} {env : PySem.Env} (h : plainTestB x = true) : ∀ whole, isTrue x env whole = (do let v ← whole; standAt x.pos; holding [v] (truthy v)) := by
  cases x <;> first | (cases h; done) | (intro _; rfl)
/-- a comparison as a test -/
def cmpOf : Prim → Option CmpOp
  | .eq => some .Eq
  | .ne => some .NotEq
  | .lt => some .Lt
  | .le => some .LtE
  | .gt => some .Gt
  | .ge => some .GtE
  | .mem => some .In
  | .nmem => some .NotIn
  | .isN => some .Is
  | .isB => some .Is
  | .notN => some .IsNot
  | _ => none
theorem pt_isN {a : Expr} {ts : List TE} {j pos pos' : _} (h : PL X [a] ts) (hm : behindInMarks .Is (.Constant .none j pos') = false) : PT X (.Compare a [.Is] [.Constant .none j pos'] pos) (tPt ts (rdIsN id)) := by
  obtain ⟨ta, rfl, ha⟩ := h.one
  refine PT.imp (L2.pt_cmpR L2.op_isN ha L2.pe_non hm) fun σ H Q q => ?_
  exact (show L2.tTest (L2.tOp _ ta (L2.tC .non)) σ H Q from by
    unfold L2.tTest L2.tOp L2.tC
    simp only [true_and]
    exact q)
theorem pt_notN {a : Expr} {ts : List TE} {j pos pos' : _} (h : PL X [a] ts) (hm : behindInMarks .IsNot (.Constant .none j pos') = false) : PT X (.Compare a [.IsNot] [.Constant .none j pos'] pos) (tPt ts (rdIsN not)) := by
  obtain ⟨ta, rfl, ha⟩ := h.one
  refine PT.imp (L2.pt_cmpR L2.op_notN ha L2.pe_non hm) fun σ H Q q => ?_
  exact (show L2.tTest (L2.tOp _ ta (L2.tC .non)) σ H Q from by
    unfold L2.tTest L2.tOp L2.tC
    simp only [true_and]
    exact q)
theorem cmpT {o : CmpOp} {e : Expr} {es : List Expr} {ts : List TE} {r : R2} (h : cmpShp o e = some es) (p : PL X es ts) (ho : OpR X (compareOp o) r) : PT X e (tPt ts (rd2 r)) := by
  unfold cmpShp at h
  split at h
  · split at h
    · cases h
      rename_i q
      obtain ⟨rfl, q⟩ := q
      exact pt_cmp ho p q
    · cases h
  · cases h
theorem isT {e : Expr} {es : List Expr} {ts : List TE} (h : isShp .Is e = some es) (p : PL X es ts) : PT X e (tPt ts (rdIsN id)) := by
  unfold isShp at h
  split at h
  · split at h
    · cases h
      rename_i q
      subst q
      exact pt_isN p rfl
    · cases h
  · cases h
theorem notT {e : Expr} {es : List Expr} {ts : List TE} (h : isShp .IsNot e = some es) (p : PL X es ts) : PT X e (tPt ts (rdIsN not)) := by
  unfold isShp at h
  split at h
  · split at h
    · cases h
      rename_i q
      subst q
      exact pt_notN p rfl
    · cases h
  · cases h
theorem prim_soundT (c : Ctx Nw d C X) {a : Expr} {o : CmpOp} {b : Expr} {pos : Pos} {es : List Expr} {ts : List TE} : ∀ (p : Prim), shp C p (.Compare a [o] [b] pos) = some es → PL X es ts → ∃ rd, RdOk (kx X) p rd ∧ (cmpOf p).isSome = true ∧ PT X (.Compare a [o] [b] pos) (tPt ts rd)
  | .eq, h, p => ⟨_, rd_eq, rfl, cmpT h p (op_eqA (by have := c.units; omega))⟩
  | .ne, h, p => ⟨_, rd_ne, rfl, cmpT h p (op_neA (by have := c.units; omega))⟩
  | .lt, h, p => ⟨_, rd_cmp (f := fun i j => decide (i < j)) rfl (two_of (fun a => by cases a <;> rfl) (by decide) (by decide) (fun _ _ => by simp) (by decide) (by decide)) fun _ _ => rfl, rfl, cmpT h p L2.op_lt⟩
  | .le, h, p => ⟨_, rd_cmp (f := fun i j => decide (i ≤ j)) rfl (two_of (fun a => by cases a <;> rfl) (by decide) (by decide) (fun _ _ => by simp) (by decide) (by decide)) fun _ _ => rfl, rfl, cmpT h p L2.op_le⟩
  | .gt, h, p => ⟨_, rd_cmp (f := fun i j => decide (j < i)) rfl (two_of (fun a => by cases a <;> rfl) (by decide) (by decide) (fun _ _ => by simp) (by decide) (by decide)) fun _ _ => rfl, rfl, cmpT h p L2.op_gt⟩
  | .ge, h, p => ⟨_, rd_cmp (f := fun i j => decide (j ≤ i)) rfl (two_of (fun a => by cases a <;> rfl) (by decide) (by decide) (fun _ _ => by simp) (by decide) (by decide)) fun _ _ => rfl, rfl, cmpT h p L2.op_ge⟩
  | .mem, h, p => ⟨_, rd_mem, rfl, cmpT h p (op_memA c.units)⟩
  | .nmem, h, p => ⟨_, rd_nmem, rfl, cmpT h p (op_nmemA c.units)⟩
  | .isN, h, p => ⟨_, rd_isN, rfl, isT h p⟩
  | .isB, h, p => ⟨_, rd_isB, rfl, cmpT h p L2.op_is_bl⟩
  | .notN, h, p => ⟨_, rd_notN, rfl, notT h p⟩
  | .add, h, _ | .sub, h, _ | .mul, h, _ | .mod, h, _ | .fdiv, h, _ | .pow, h, _ | .neg, h, _ | .idx, h, _ | .sl _ _, h, _ | .tupd, h, _ | .lstd, h, _ | .len, h, _ | .int1, h, _ | .abs, h, _ | .str1, h, _ | .list1, h, _ | .tuple1, h, _ | .sorted1, h, _
  | .all1, h, _ | .any1, h, _ | .sum1, h, _ | .min1, h, _ | .max1, h, _ | .min2, h, _ | .max2, h, _ | .rangeL, h, _ | .rangeT, h, _ | .isi _, h, _ | .sset, h, _ | .lset, h, _ | .set1, h, _ => by cases h
theorem prim_bl {p : Prim} (h : (cmpOf p).isSome = true) : ∀ ws w, primF p ws = some w → ∃ k, w = .bl k := by
  intro ws w e
  have m1 : ∀ {o : Option Bool} {f : Bool → Bool}, o.map (fun c => W.bl (f c)) = some w → ∃ k, w = .bl k := fun {o f} e => by
    cases o with
    | none => cases e
    | some c => cases e; exact ⟨_, rfl⟩
  have m2 : ∀ {f : Int → Int → Bool} {a b : W}, pCmp f a b = some w → ∃ k, w = .bl k := fun {f a b} e => by
    cases a <;> cases b <;> cases e
    exact ⟨_, rfl⟩
  match ws with
  | [] => cases p <;> first | (cases h; done) | cases e
  | [a] => cases p <;> first | (cases h; done) | (cases e; exact ⟨_, rfl⟩) | (cases a <;> cases e)
  | [a, b] =>
    cases p <;> first
      | (cases h; done)
      | (cases e; done)
      | exact m1 (f := id) e
      | exact m1 (f := not) e
      | exact m2 e
      | (cases a <;> cases b <;> first | (cases e; done) | (cases e; exact ⟨_, rfl⟩))
  | a :: b :: c :: r => cases p <;> first | (cases h; done) | cases e
theorem okT_bl {K : KX} {σ : L2.St} {H : L2.Hp} {bt : Gh} {h : Hp} {b : Nat} {m : R W} {Q : Bool → L2.Hp → Prop} (hbl : ∀ w h', m = .ok w h' → ∃ k, w = .bl k) (q : OkT K Wx σ H bt b h Q m) : OkE K Wx σ H bt b h (fun x H' => ∃ k, x = .bl k ∧ Q k H') m := by
  cases m with
  | bad => exact q
  | exc e h1 => exact q
  | ok w h1 =>
    obtain ⟨k, rfl⟩ := hbl w h1 rfl
    obtain ⟨k', e, q⟩ := q
    have e : some k = some k' := e
    cases e
    exact fun v H1 bt1 x ok p r => ⟨k, r, q H1 bt1 x ok p⟩
/-- a comparison's run as a test -/
theorem cmp_test (c : Ctx Nw d C X) {p : Prim} {args : List Ex} {x : Expr} {es : List Expr} (hs : shp C p x = some es) (pl : PL X es (args.map fun a => tEv (kx X) Wx fun b ρ h => evE (evC C.T Nw d) b ρ a h))
    (pe : PE X x (tEv (kx X) Wx fun b ρ h => evE (evC C.T Nw d) b ρ (.pr false p args) h)) (z : tB (.pr false p args) x = true) : PT X x (tTv (kx X) Wx fun b ρ h => evE (evC C.T Nw d) b ρ (.pr false p args) h) := by
  by_cases hp : plainTestB x = true
  · exact tst pe (plain_test hp)
  · have hx : ∃ a o b pos, x = .Compare a [o] [b] pos := by
      unfold tB at z
      split at z <;> first | exact ⟨_, _, _, _, rfl⟩ | exact absurd z hp | (rename_i q; cases q)
    obtain ⟨a, o, b, pos, rfl⟩ := hx
    obtain ⟨rd, hr, hc, pt⟩ := prim_soundT c p hs pl
    refine PT.imp pt fun σ H Q q => ?_
    obtain ⟨b, bt, ρ, h, s, hb, q⟩ := q
    simp only [evE] at q
    have q2 := okT_bl (fun w h' e => by
      cases e1 : evEs (evC C.T Nw d) b ρ args h with
      | bad => rw [e1] at e; cases e
      | exc _ _ => rw [e1] at e; cases e
      | ok ws h1 =>
        rw [e1] at e
        have e : runPrim false p ws h1 = .ok w h' := e
        unfold runPrim at e
        split at e
        · cases e
        · rename_i w' e2
          simp only [Bool.false_eq_true, if_false] at e
          cases e
          exact prim_bl hc _ _ e2) q
    refine tl_of args σ H _ ⟨b, bt, ρ, h, s, hb, (OkEs.bind q2).mono fun vs H1 z => ?_⟩
    obtain ⟨ws, h1, bt1, _, x1, ok1, p1, r1, q1⟩ := z
    refine prim_run (σ := σ) (b := b) (m := false) hr ok1 (Nat.le_trans hb x1.len) r1 ?_
    revert q1
    cases e1 : runPrim false p ws h1 with
    | bad => exact _root_.id
    | exc e2 h2 => exact absurd e1 (runPrim_noexc e2 h2)
    | ok w2 h2 => exact _root_.id
def bopB : Expr → Bool
  | .BoolOp _ _ _ => true
  | _ => false
theorem PW.imp {e : Expr} {t t' : TT} (h : L2.PW X e t) (i : ∀ σ H Q, t' σ H Q → t σ H Q) : L2.PW X e t' := ⟨fun wh pins s σ H Q I q => h.run wh pins s σ H Q I (i σ H Q q)⟩
theorem ifOneT {op : BoolOp} {y : Expr} {rest : List Expr} {pos : Pos} {t : TT} (h : PT X (if rest.isEmpty = true then y else .BoolOp op (y :: rest) pos) t ∧ (bopB (if rest.isEmpty = true then y else .BoolOp op (y :: rest) pos) = true → L2.PW X (if rest.isEmpty = true then y else .BoolOp op (y :: rest) pos) t)) : L2.PW X (.BoolOp op (y :: rest) pos) t := by
  cases rest with
  | nil =>
    cases op with
    | And => exact L2.pw_and1 h.1
    | Or => exact L2.pw_or1 h.1
  | cons z zs => exact h.2 rfl
theorem noB {x : Expr} {t : TT} (h : PT X x t) (n : bopB x = false) : PT X x t ∧ (bopB x = true → L2.PW X x t) := ⟨h, fun z => by rw [n] at z; cases z⟩
theorem plain_nb {x : Expr} (h : plainTestB x = true) : bopB x = false := by
  cases x <;> first | rfl | cases h
theorem OkT.bind {K : KX} {σ : L2.St} {H : L2.Hp} {bt : Gh} {h : Hp} {b : Nat} {m : R W} {f : W → Hp → R W} {Q : Bool → L2.Hp → Prop} {Q' : Bool → L2.Hp → Prop} (q : OkT K Wx σ H bt b h Q (m.bind f)) (hn : ∀ w h1, truthW h1 w = none → f w h1 = .bad)
    (g : ∀ w h1 H1 bt1 k, truthW h1 w = some k → Exs H bt h H1 bt1 h1 → HeapOk K H1 bt1 h1 → Pres b h h1 → OkT K Wx σ H1 bt1 b h1 Q (f w h1) → Q' k H1) : OkT K Wx σ H bt b h Q' m := by
  cases m with
  | bad => exact q
  | exc e h1 => exact q
  | ok w h1 =>
    have q : OkT K Wx σ H bt b h Q (f w h1) := q
    cases et : truthW h1 w with
    | none => rw [hn w h1 et] at q; exact q.elim
    | some k =>
      refine ⟨k, et, fun H1 bt1 x ok p => g w h1 H1 bt1 k et x ok p ?_⟩
      cases e : f w h1 with
      | bad => rw [e] at q; exact q
      | exc e2 h2 => rw [e] at q; exact OkX.trans x p q
      | ok w2 h2 =>
        rw [e] at q
        obtain ⟨k2, e2, q⟩ := q
        exact ⟨k2, e2, fun H2 bt2 x2 ok2 p2 => q H2 bt2 (x.trans x2) ok2 (p.trans p2)⟩
theorem OkT.bindE {K : KX} {σ : L2.St} {H : L2.Hp} {bt : Gh} {h : Hp} {b : Nat} {m : R W} {f : W → Hp → R W} {Q : VK} {Q' : Bool → L2.Hp → Prop} (q : OkE K Wx σ H bt b h Q (m.bind f)) (hn : ∀ w h1, truthW h1 w = none → f w h1 = .bad)
    (g : ∀ w h1 H1 bt1 k, truthW h1 w = some k → Exs H bt h H1 bt1 h1 → HeapOk K H1 bt1 h1 → Pres b h h1 → OkE K Wx σ H1 bt1 b h1 Q (f w h1) → Q' k H1) : OkT K Wx σ H bt b h Q' m := by
  cases m with
  | bad => exact q
  | exc e h1 => exact q
  | ok w h1 =>
    have q : OkE K Wx σ H bt b h Q (f w h1) := q
    cases et : truthW h1 w with
    | none => rw [hn w h1 et] at q; exact q.elim
    | some k => exact ⟨k, et, fun H1 bt1 x ok p => g w h1 H1 bt1 k et x ok p (q.later x p)⟩
mutual
theorem sE (Nw d : Nat) : ∀ (e : Ex) (C : MC) (X : Cx) (Wx : WX) (x : Expr), Ctx Nw d C X → L2.Takes X Wx → mE C e x = true →
    PE X x (tEv (kx X) Wx fun b ρ h => evE (evC C.T Nw d) b ρ e h) ∧ (tB e x = true → PT X x (tTv (kx X) Wx fun b ρ h => evE (evC C.T Nw d) b ρ e h) ∧ (bopB x = true → L2.PW X x (tTv (kx X) Wx fun b ρ h => evE (evC C.T Nw d) b ρ e h)))
  | .var i, C, X, Wx, x, c, tk, m => by
    cases x <;> first | (simp [mE] at m; done) | skip
    rename_i nm pos
    simp only [mE, Bool.and_eq_true, decide_eq_true_eq] at m
    obtain ⟨⟨m1, m2⟩, m3⟩ := m
    simp only [okN, Bool.and_eq_true, Bool.not_eq_true'] at m3
    have pe : PE X (.Name nm pos) (tEv (kx X) Wx fun b ρ h => evE (evC C.T Nw d) b ρ (.var i) h) := PE.imp (L2.pe_var (by rw [c.hN]; exact m1) (c.vis m2) m3.1.1 m3.1.2) fun σ H Q q => by
      obtain ⟨b, bt, ρ, h, s, hb, q⟩ := q
      simp only [evE] at q
      split at q
      · rename_i w e
        obtain ⟨v, e1, r⟩ := s.sl i w e
        exact ⟨v, e1, q v H bt Exs.refl s.hp Pres.refl r⟩
      · exact q.elim
    exact ⟨pe, fun _ => noB (tst pe (fun _ => rfl)) rfl⟩
  | .cst w, C, X, Wx, x, c, tk, m => by
    simp only [mE] at m
    have fin : ∀ (v : V), PE X x (L2.tC v) → (∀ H bt h, Rep (kx X) H bt h w v) → PE X x (tEv (kx X) Wx fun b ρ h => evE (evC C.T Nw d) b ρ (.cst w) h) := fun v p r => PE.imp p fun σ H Q q => by
      obtain ⟨b, bt, ρ, h, s, hb, q⟩ := q
      simp only [evE] at q
      exact q v H bt Exs.refl s.hp Pres.refl (r H bt h)
    unfold cstB at m
    split at m
    · exact ⟨fin _ L2.pe_non fun _ _ _ => rfl, fun z => by simp [tB, plainTestB] at z⟩
    · cases eq_of_beq m
      exact ⟨fin _ L2.pe_bl fun _ _ _ => rfl, fun z => by simp [tB, plainTestB] at z⟩
    · cases of_decide_eq_true m
      exact ⟨fin _ L2.pe_int fun _ _ _ => rfl, fun z => by simp [tB, plainTestB] at z⟩
    · cases of_decide_eq_true m
      exact ⟨fin _ L2.pe_str fun _ _ _ => rfl, fun z => by simp [tB, plainTestB] at z⟩
    · cases m
  | .pr mu p args, C, X, Wx, x, c, tk, m => by
    simp only [mE] at m
    split at m
    · rename_i es hs
      have pl := sEs Nw d args C X Wx es c tk m
      obtain ⟨rd, hr, pe⟩ := prim_sound c p x es _ hs pl
      have run : ∀ σ H Q, (tEv (kx X) Wx fun b ρ h => evE (evC C.T Nw d) b ρ (.pr mu p args) h) σ H Q → tP (args.map fun a => tEv (kx X) Wx fun b ρ h => evE (evC C.T Nw d) b ρ a h) rd σ H Q := fun σ H Q q => by
        obtain ⟨b, bt, ρ, h, s, hb, q⟩ := q
        simp only [evE] at q
        refine tl_of args σ H _ ⟨b, bt, ρ, h, s, hb, (OkEs.bind q).mono fun vs H1 z => ?_⟩
        obtain ⟨ws, h1, bt1, _, x1, ok1, p1, r1, q1⟩ := z
        refine prim_run (σ := σ) (b := b) (m := mu) hr ok1 (Nat.le_trans hb x1.len) r1 ?_
        revert q1
        cases e1 : runPrim mu p ws h1 with
        | bad => exact id
        | exc e2 h2 => exact absurd e1 (runPrim_noexc e2 h2)
        | ok w2 h2 => exact id
      refine ⟨PE.imp pe run, fun z => ?_⟩
      cases mu with
      | false =>
        refine noB (cmp_test c hs pl (PE.imp pe run) z) ?_
        cases x <;> first | rfl | (simp [tB, plainTestB] at z)
      | true =>
        have z : plainTestB x = true := by cases x <;> exact z
        exact noB (tst (PE.imp pe run) (plain_test z)) (plain_nb z)
    · cases m
  | .lc mu t k srcs tests e, C, X, Wx, x, c, tk, m => by
    unfold mE at m
    split at m <;> rename_i hx <;> first | (cases hx; done) | skip
    · rename_i elt tg iter ifs scope pos
      cases hx
      simp only [Bool.and_eq_true] at m
      obtain ⟨⟨⟨⟨⟨⟨m1, m2⟩, m3⟩, m4⟩, m5⟩, m6⟩, m7⟩ := m
      split at m3
      · rename_i es hes
        have pi := iter_sound (call := evC C.T Nw d) (Wx := Wx) c k tg iter es srcs hes (sEs Nw d srcs C X Wx es c tk m3)
        have hB : ∀ (s : Shared) (H : L2.Hp) (Ca : Addr) (cl : List (Str × Addr)) (fp : List Addr), Ctx Nw d { C with sc := L2.relS scope C.sc, os := scope } (X.blk s H scope (compEnvC scope cl Ca X.env) fp) := fun s H Ca cl fp => c.blk s H Ca cl fp
        have he : ∀ (s : Shared) (H : L2.Hp) (Ca : Addr) (cl : List (Str × Addr)) (fp : List Addr), PE (X.blk s H scope (compEnvC scope cl Ca X.env) fp) elt (tEv (kx X) (fun _ _ _ _ => False) fun b ρ h => evE (evC C.T Nw d) b ρ e h) := fun s H Ca cl fp => (sE Nw d e _ _ (fun _ _ _ _ => False) elt (hB s H Ca cl fp) takesF m5).1
        have ht : ∃ tt, ((tests = [] ∧ tt = L2.tYes) ∨ ∃ c r, tests = c :: r ∧ tt = tTv (kx X) (fun _ _ _ _ => False) fun b ρ h => evE (evC C.T Nw d) b ρ c h) ∧ ∀ (s : Shared) (H : L2.Hp) (Ca : Addr) (cl : List (Str × Addr)) (fp : List Addr), L2.PTs (X.blk s H scope (compEnvC scope cl Ca X.env) fp) ifs tt := by
          match tests, ifs, m6, m7 with
          | [], [], m6, m7 => exact ⟨_, .inl ⟨rfl, rfl⟩, fun _ _ _ _ _ => L2.pts_nil⟩
          | [q], [y], m6, m7 =>
            simp only [mEs, Bool.and_eq_true] at m6
            exact ⟨_, .inr ⟨_, _, rfl, rfl⟩, fun s H Ca cl fp => L2.pts_one ((sE Nw d q _ _ (fun _ _ _ _ => False) y (hB s H Ca cl fp) takesF m6.1).2 m7).1⟩
        obtain ⟨tt, htt, ht⟩ := ht
        have hsn : ∀ x, foldedSetIterable iter X.env x = pure x := by
          intro x
          cases iter <;> first | (cases m2; done) | rfl
        have hgt : ∀ (s : Shared) (H : L2.Hp) (Ca : Addr) (cl : List (Str × Addr)) (fp : List Addr), PG (X.blk s H scope (compEnvC scope cl Ca X.env) fp) tg (gT (kx X) t) := fun s H Ca cl fp => tg_sound (hB s H Ca cl fp) t tg m4
        have pe := L2.pe_lc (pos := pos) c.calm (by rw [c.hN]; exact c.nd) pi (blkOk (by rw [c.hN, c.sc]; exact m1)) hgt ht he hsn
        refine ⟨PE.imp pe fun σ H Q q => ?_, fun z => by simp [tB, plainTestB] at z⟩
        obtain ⟨b, bt, ρ, h, s, hb, q⟩ := q
        simp only [evE] at q
        rw [ownOf_snd]
        refine ⟨b, bt, ρ, h, s, hb, (OkEs.bind q).mono fun vs H1 z => ?_⟩
        obtain ⟨ws, h1, bt1, _, x1, ok1, p1, r1, q1⟩ := z
        split at q1
        · exact q1.elim
        · rename_i its ei
          refine ⟨bt1, h1, ws, its, ok1, r1, ei, fun J hJ D hD => ?_⟩
          have hb1 : b ≤ h1.length := Nat.le_trans hb x1.len
          cases mu with
          | false =>
            simp only [Bool.false_eq_true, if_false] at q1
            have q1 : OkE (kx X) Wx σ H1 bt1 b h1 Q ((lcLoop (lcB (evC C.T Nw d) b ρ t tests e) (fun h2 => sameAt h1 h2 ws) its [] h1).bind fun ys h2 => .ok (.lst ys) h2) := q1
            refine lc_run (b := b) (body := lcB (evC C.T Nw d) b ρ t tests e) ok1 r1 ei hJ (fun Hc btc hc w x N0 N1 okc xc rw' q2 hbc => ?_) hb1 ?_ hD
            · exact turn_sound ((s.ext x1 ok1).ext xc okc) hbc htt rw' q2
            · revert q1
              generalize lcLoop _ _ its [] h1 = r
              intro q1
              cases r with
              | bad => exact q1
              | exc _ _ => exact True.intro
              | ok ys h2 => exact q1
          | true =>
            simp only [if_true] at q1
            have q1 : OkE (kx X) Wx σ H1 bt1 b h1 Q (lcLoopM (lcB (evC C.T Nw d) b ρ t tests e) (fun h2 => sameAt h1 h2 ws) h1.length its [] (h1 ++ [.lst []])) := q1
            refine lc_runM (b := b) (body := lcB (evC C.T Nw d) b ρ t tests e) ok1 r1 ei hJ (fun Hc btc hc w x N0 N1 okc xc rw' q2 hbc => ?_) hb1 ?_ hD
            · exact turn_sound ((s.ext x1 ok1).ext xc okc) hbc htt rw' q2
            · revert q1
              generalize lcLoopM _ _ _ its [] _ = r
              intro q1
              cases r with
              | bad => exact q1
              | exc _ _ => exact True.intro
              | ok ys h2 => exact q1
      · cases m3
    · cases m
  | .and_ a b, C, X, Wx, x, c, tk, m => by
    unfold mE at m
    split at m <;> rename_i hx <;> first | (cases hx; done) | skip
    · rename_i y z rest pos
      cases hx
      simp only [Bool.and_eq_true] at m
      obtain ⟨pa, ta⟩ := sE Nw d a C X Wx y c tk m.1
      obtain ⟨pb, tb⟩ := sE Nw d b C X Wx _ c tk m.2
      refine ⟨PE.imp (L2.pe_andT pa (ifOne pb)) fun σ H Q q => ?_, fun w => ?_⟩
      · obtain ⟨b0, bt, ρ, h, s, hb, q⟩ := q
        simp only [evE] at q
        refine ⟨b0, bt, ρ, h, s, hb, (OkE.bind q).mono fun v H1 z => ?_⟩
        obtain ⟨w, h1, bt1, _, x1, ok1, p1, r1, q1⟩ := z
        cases et : truthW h1 w with
        | none => rw [et] at q1; exact q1.elim
        | some kk =>
          rw [et] at q1
          refine ⟨kk, truth_rep ok1 r1 et, ?_⟩
          cases kk with
          | true => exact ⟨b0, bt1, ρ, h1, s.ext x1 ok1, Nat.le_trans hb x1.len, q1⟩
          | false => exact q1 v H1 bt1 Exs.refl ok1 Pres.refl r1
      · simp only [tB, Bool.and_eq_true] at w
        have pt := L2.pw_and (pos := pos) (ta w.1).1 (ifOneT (tb w.2))
        refine (fun (z : L2.PW X _ _) => ⟨z.pt, fun _ => z⟩) (PW.imp pt fun σ H Q q => ?_)
        obtain ⟨b0, bt, ρ, h, s, hb, q⟩ := q
        simp only [evE] at q
        refine ⟨b0, bt, ρ, h, s, hb, OkT.bind q (fun w h1 et => by rw [et]) fun w h1 H1 bt1 kk et x1 ok1 p1 q1 => ?_⟩
        rw [et] at q1
        cases kk with
        | true => exact ⟨b0, bt1, ρ, h1, s.ext x1 ok1, Nat.le_trans hb x1.len, q1⟩
        | false =>
          obtain ⟨k2, e2, q1⟩ := q1
          rw [et] at e2
          cases e2
          exact q1 H1 bt1 Exs.refl ok1 Pres.refl
    · cases m
  | .or_ a b, C, X, Wx, x, c, tk, m => by
    unfold mE at m
    split at m <;> rename_i hx <;> first | (cases hx; done) | skip
    · rename_i y z rest pos
      cases hx
      simp only [Bool.and_eq_true] at m
      obtain ⟨pa, ta⟩ := sE Nw d a C X Wx y c tk m.1
      obtain ⟨pb, tb⟩ := sE Nw d b C X Wx _ c tk m.2
      refine ⟨PE.imp (L2.pe_orT pa (ifOne pb)) fun σ H Q q => ?_, fun w => ?_⟩
      · obtain ⟨b0, bt, ρ, h, s, hb, q⟩ := q
        simp only [evE] at q
        refine ⟨b0, bt, ρ, h, s, hb, (OkE.bind q).mono fun v H1 z => ?_⟩
        obtain ⟨w, h1, bt1, _, x1, ok1, p1, r1, q1⟩ := z
        cases et : truthW h1 w with
        | none => rw [et] at q1; exact q1.elim
        | some kk =>
          rw [et] at q1
          refine ⟨kk, truth_rep ok1 r1 et, ?_⟩
          cases kk with
          | true => exact q1 v H1 bt1 Exs.refl ok1 Pres.refl r1
          | false => exact ⟨b0, bt1, ρ, h1, s.ext x1 ok1, Nat.le_trans hb x1.len, q1⟩
      · simp only [tB, Bool.and_eq_true] at w
        have pt := L2.pw_or (pos := pos) (ta w.1).1 (ifOneT (tb w.2))
        refine (fun (z : L2.PW X _ _) => ⟨z.pt, fun _ => z⟩) (PW.imp pt fun σ H Q q => ?_)
        obtain ⟨b0, bt, ρ, h, s, hb, q⟩ := q
        simp only [evE] at q
        refine ⟨b0, bt, ρ, h, s, hb, OkT.bind q (fun w h1 et => by rw [et]) fun w h1 H1 bt1 kk et x1 ok1 p1 q1 => ?_⟩
        rw [et] at q1
        cases kk with
        | false => exact ⟨b0, bt1, ρ, h1, s.ext x1 ok1, Nat.le_trans hb x1.len, q1⟩
        | true =>
          obtain ⟨k2, e2, q1⟩ := q1
          rw [et] at e2
          cases e2
          exact q1 H1 bt1 Exs.refl ok1 Pres.refl
    · cases m
  | .not_ a, C, X, Wx, x, c, tk, m => by
    unfold mE at m
    split at m <;> rename_i hx <;> first | (cases hx; done) | skip
    · rename_i y pos
      cases hx
      obtain ⟨pa, ta⟩ := sE Nw d a C X Wx y c tk m
      refine ⟨PE.imp (L2.pe_notT pa) fun σ H Q q => ?_, fun w => ?_⟩
      · obtain ⟨b0, bt, ρ, h, s, hb, q⟩ := q
        simp only [evE] at q
        refine ⟨b0, bt, ρ, h, s, hb, (OkE.bind q).mono fun v H1 z => ?_⟩
        obtain ⟨w, h1, bt1, _, x1, ok1, p1, r1, q1⟩ := z
        cases et : truthW h1 w with
        | none => rw [et] at q1; exact q1.elim
        | some kk =>
          rw [et] at q1
          exact ⟨kk, truth_rep ok1 r1 et, q1 _ H1 bt1 Exs.refl ok1 Pres.refl rfl⟩
      · simp only [tB] at w
        refine noB (PT.imp (L2.pt_not (ta w).1) fun σ H Q q => ?_) rfl
        obtain ⟨b0, bt, ρ, h, s, hb, q⟩ := q
        simp only [evE] at q
        refine ⟨b0, bt, ρ, h, s, hb, OkT.bind q (fun w h1 et => by rw [et]) fun w h1 H1 bt1 kk et x1 ok1 p1 q1 => ?_⟩
        rw [et] at q1
        obtain ⟨k2, e2, q1⟩ := q1
        have e2 : some (!kk) = some k2 := e2
        cases e2
        exact q1 H1 bt1 Exs.refl ok1 Pres.refl
    · cases m
  | .ite q a b, C, X, Wx, x, c, tk, m => by
    unfold mE at m
    split at m <;> rename_i hx <;> first | (cases hx; done) | skip
    · rename_i y1 y2 y3 pos
      cases hx
      simp only [Bool.and_eq_true] at m
      obtain ⟨⟨⟨m1, m2⟩, m3⟩, m4⟩ := m
      have pq := ((sE Nw d q C X Wx y1 c tk m1).2 m2).1
      have pa := (sE Nw d a C X Wx y2 c tk m3).1
      have pb := (sE Nw d b C X Wx y3 c tk m4).1
      refine ⟨PE.imp (L2.pe_ifExp pq pa pb) fun σ H Q q => ?_, fun z => by simp [tB, plainTestB] at z⟩
      obtain ⟨b0, bt, ρ, h, s, hb, q⟩ := q
      simp only [evE] at q
      refine ⟨b0, bt, ρ, h, s, hb, OkT.bindE q (fun w h1 et => by rw [et]) fun w h1 H1 bt1 kk et x1 ok1 p1 q1 => ?_⟩
      rw [et] at q1
      cases kk with
      | true => exact ⟨b0, bt1, ρ, h1, s.ext x1 ok1, Nat.le_trans hb x1.len, q1⟩
      | false => exact ⟨b0, bt1, ρ, h1, s.ext x1 ok1, Nat.le_trans hb x1.len, q1⟩
    · cases m
  | .chn _ _ _ _ _, C, X, Wx, x, c, tk, m => by simp [mE] at m
  | .call k args, C, X, Wx, x, c, tk, m => by
    unfold mE at m
    split at m <;> rename_i hx <;> first | (cases hx; done) | skip
    · rename_i nm p0 e0 es pos
      cases hx
      simp only [Bool.and_eq_true] at m
      obtain ⟨⟨⟨⟨m1, m2⟩, m3⟩, m4⟩, m5⟩ := m
      split at m1
      · rename_i df edf
        cases of_decide_eq_true m1
        simp only [okN, Bool.and_eq_true, Bool.not_eq_true'] at m3
        have pl := sEs Nw d args C X Wx _ c tk m5
        obtain ⟨f, fd, ps, F, hm, hk, hb⟩ := c.fns k df edf
        have nse := m4
        simp only [List.all_cons, Bool.and_eq_true] at nse
        have pe : PE X (.Call (.Name df.name p0) (e0 :: es) [] pos) (tEv (kx X) Wx fun b ρ h => evE (evC C.T Nw d) b ρ (.call k args) h) := by
          refine PE.imp (L2.pe_callSD (dvs := []) (ds := []) (E := L2.WE Wx) F c.room (c.gl m2) hm hk hb .nil (fun σ => L2.passAt tk σ) (pl.pa m4) m3.1.1 (star_ns nse.1 _ _) (star_all nse.2 _ _)) fun σ H Q q => ?_
          obtain ⟨b0, bt, ρ, h, s, hb, q⟩ := q
          simp only [evE] at q
          refine tl_of args σ H _ ⟨b0, bt, ρ, h, s, hb, (OkEs.bind q).mono fun vs H1 z => ?_⟩
          obtain ⟨ws, h1, bt1, _, x1, ok1, p1, r1, q1⟩ := z
          rw [List.append_nil]
          exact ⟨by rw [← r1.length]; exact evC_len edf q1.ne, b0, bt1, h1, ws, ok1, Nat.le_trans hb x1.len, r1, q1.flat⟩
        exact ⟨pe, fun _ => noB (tst pe (fun _ => rfl)) rfl⟩
      · cases m1
    · cases m
  | .mth mm o args, C, X, Wx, x, c, tk, m => by
    simp only [mE] at m
    split at m
    · rename_i o' es hs
      simp only [Bool.and_eq_true] at m
      have po := (sE Nw d o C X Wx o' c tk m.1).1
      have pl := sEs Nw d args C X Wx es c tk m.2
      obtain ⟨r, hr, pe0⟩ := mth_sound mm x o' es _ _ hs po pl
      have pe : PE X x (tEv (kx X) Wx fun b ρ h => evE (evC C.T Nw d) b ρ (.mth mm o args) h) := by
        refine PE.imp pe0 fun σ H Q q => ?_
        obtain ⟨b0, bt, ρ, h, s, hb, q⟩ := q
        simp only [evE] at q
        refine ⟨b0, bt, ρ, h, s, hb, (OkE.bind q).mono fun v H1 z => ?_⟩
        obtain ⟨w, h1, bt1, _, x1, ok1, p1, r1, q1⟩ := z
        split at q1
        · rename_i hrv
          refine ⟨recv_ty ok1 r1 hrv, ?_⟩
          have hb1 := Nat.le_trans hb x1.len
          refine tl_of args σ H1 _ ⟨b0, bt1, ρ, h1, s.ext x1 ok1, hb1, (OkEs.bind q1).mono fun vs H2 z => ?_⟩
          obtain ⟨ws, h2, bt2, _, x2, ok2, p2, r2, q2⟩ := z
          exact hr σ H2 bt2 h2 b0 Wx w ws v vs Q ok2 (r1.ext ok1 x2.toExt) r2 (Nat.le_trans hb1 x2.len) q2
        · exact q1.elim
      refine ⟨pe, fun z => ?_⟩
      unfold mthShp at hs
      split at hs
      · exact noB (tst pe (fun _ => rfl)) rfl
      · cases hs
    · cases m
  | .frz a, C, X, Wx, x, c, tk, m => by
    simp only [mE] at m
    have pa := (sE Nw d a C X Wx x c tk m).1
    have pe : PE X x (tEv (kx X) Wx fun b ρ h => evE (evC C.T Nw d) b ρ (.frz a) h) := by
      refine PE.imp pa fun σ H Q q => ?_
      obtain ⟨b0, bt, ρ, h, s, hb, q⟩ := q
      simp only [evE] at q
      refine ⟨b0, bt, ρ, h, s, hb, (OkE.bind q).mono fun v H1 z => ?_⟩
      obtain ⟨w, h1, bt1, _, x1, ok1, p1, r1, q1⟩ := z
      cases w <;> first | exact q1.elim | skip
      rename_i n _
      simp only at q1
      split at q1
      · rename_i ws e
        obtain ⟨ok2, x2, r2⟩ := ok1.freezeX e
        rw [r1.2]
        exact q1 _ H1 bt1 x2 ok2 (Pres.put (.inr rfl) fun _ _ => rfl) r2
      · rename_i ks vs e
        exact (ok1.objs n _ e).elim
      · exact q1.elim
    refine ⟨pe, fun z => ?_⟩
    have z : plainTestB x = true := by cases x <;> exact z
    exact noB (tst pe (plain_test z)) (plain_nb z)
  | .opq, C, X, Wx, x, c, tk, m => by
    have pe : PE X x (tEv (kx X) Wx fun b ρ h => evE (evC C.T Nw d) b ρ .opq h) := ⟨fun pins s σ H Q I q => by
      obtain ⟨b, bt, ρ, h, s, hb, q⟩ := q
      simp only [evE] at q
      exact q.elim⟩
    refine ⟨pe, fun z => ?_⟩
    have z : plainTestB x = true := by cases x <;> exact z
    exact noB (tst pe (plain_test z)) (plain_nb z)
theorem sEs (Nw d : Nat) : ∀ (es : List Ex) (C : MC) (X : Cx) (Wx : WX) (xs : List Expr), Ctx Nw d C X → L2.Takes X Wx → mEs C es xs = true →
    PL X xs (es.map fun e => tEv (kx X) Wx fun b ρ h => evE (evC C.T Nw d) b ρ e h)
  | [], C, X, Wx, xs, c, tk, m => by
    cases xs with
    | nil => exact .nil
    | cons _ _ => simp [mEs] at m
  | e :: es, C, X, Wx, xs, c, tk, m => by
    cases xs with
    | nil => simp [mEs] at m
    | cons y ys =>
      simp only [mEs, Bool.and_eq_true] at m
      exact .cons (sE Nw d e C X Wx y c tk m.1).1 (sEs Nw d es C X Wx ys c tk m.2)
end
end
end Ow

/-! Ow10: statements. -/
namespace Ow
open PySem PySem.Spec PyProof.Rows
open L2 (V SqL SqT Rd HO upd upd_same upd_ne TE TT TA TS VK Cx PE PT PA PS PSs WX OpR UnR CallR R2 Room Gl Sp XK CXT FnOk Binds TG TGs PG PGs It TI PI Inv RelV Vals thn wipe Ends)

def lcB? : Expr → Bool
  | .ListComp _ _ _ _ => true
  | .SetComp _ _ _ _ => true
  | .DictComp _ _ _ _ _ => true
  | _ => false
def tupB? : Expr → Bool
  | .Tuple _ _ _ => true
  | _ => false
/-- the name is swapped with the comprehension's value -/
def swB (C : MC) (t : Str) (scope : Scope) (pl vl : Nat) : Bool :=
  (match C.sc.names.lookup t with
    | some .local => true
    | _ => false) && (pl == vl) && !(scope.names.any fun (n, k) => n == t && (k == .local || k == .cell))
def locB (C : MC) (x : Str) : Bool := match C.os.names.lookup x with
  | some .local => true
  | _ => false
def funB (C : MC) : Bool := match C.sc.kind with
  | .function => true
  | _ => false
/-- the name is no local of its own block: it is never swapped -/
def cellB (C : MC) (x : Str) : Bool := match C.sc.names.lookup x with
  | some .local => false
  | _ => true
def asgB (C : MC) : Tg → Expr → Expr → Bool
  | .nm i, .Name x pos, e => if lcB? e then (match e with
      | .ListComp _ _ scope pos' => (funB C && locB C x && swB C x scope pos.line pos'.line) || cellB C x
      | _ => false) else true
  | .tp _, .Tuple _ _ _, e => !lcB? e && !tupB? e
  | _, _, _ => false
def lcE : Ex → Bool
  | .lc _ _ _ _ _ _ => true
  | _ => false
def subIxB : Expr → Bool
  | .Name _ _ => true
  | .Constant _ _ _ => true
  | .BinOp _ _ _ _ => true
  | .UnaryOp _ _ _ => true
  | .Call _ _ _ _ => true
  | .Subscript _ _ _ => true
  | _ => false
mutual
def mS (C : MC) : St → Stmt → Bool
  | .asg t e, .Assign [tg] x _ => mT C t tg && mE C e x && asgB C t tg x && (!lcB? x || lcE e)
  | .seti o i e, .Assign [.Subscript o' i' _] x _ => mE C e x && mE C o o' && mE C i i' && subIxB i' && !lcB? x
  | .aug i p e, .AugAssign (.Name x _) op y _ => decide (C.N[i]? = some x) && ownB C x && mE C e y && (match p, op with
      | .add, .Add => true
      | .sub, .Sub => true
      | _, _ => false)
  | .exp e, .Expr x _ => mE C e x && !lcB? x
  | .ret e, .Return (some x) _ => mE C e x
  | .ret (.cst .non), .Return none _ => true
  | .iff c a b, .If c' a' b' _ => mE C c c' && tB c c' && mB C a a' && mB C b b'
  | .forr _ t k srcs _ body, .For tg iter body' [] _ => nsetB iter && mT C t tg && (match iterShp C k tg iter with
      | some es => mEs C srcs es
      | none => false) && mB C body body'
  | .whl c _ body, .While c' body' [] _ => mE C c c' && tB c c' && mB C body body'
  | .brk, .Break _ => true
  | .cnt, .Continue _ => true
  | .pass, .Pass _ => true
  | .opq, _ => true
  | _, _ => false
def mB (C : MC) : List St → List Stmt → Bool
  | [], [] => true
  | s :: ss, x :: xs => mS C s x && mB C ss xs
  | _, _ => false
end

/-- what is wanted of a statement's end -/
def OkS (K : KX) (Wx : WX) (H : L2.Hp) (bt : Gh) (b : Nat) (h : Hp) (D : Ends) : RS → Prop
  | .nxt ρ' h' => ∀ σ' H' bt', Exs H bt h H' bt' h' → Pres b h h' → Stt K σ' H' bt' ρ' h' → D.nx σ' H'
  | .brk ρ' h' => ∀ σ' H' bt', Exs H bt h H' bt' h' → Pres b h h' → Stt K σ' H' bt' ρ' h' → D.bk σ' H'
  | .cnt ρ' h' => ∀ σ' H' bt', Exs H bt h H' bt' h' → Pres b h h' → Stt K σ' H' bt' ρ' h' → D.ct σ' H'
  | .ret w h' => ∀ v H' bt', Exs H bt h H' bt' h' → HeapOk K H' bt' h' → Pres b h h' → Rep K H' bt' h' w v → D.rt v H'
  | .exc e ρ' h' => ∀ c d σ' H' bt', Exs H bt h H' bt' h' → Pres b h h' → Stt K σ' H' bt' ρ' h' → RepX H' bt' h' e c d → Wx c d σ' H'
  | .bad => False
def tSv (K : KX) (Wx : WX) (m : Nat → Env → Hp → RS) : TS := fun D σ H => ∃ b bt ρ h, Stt K σ H bt ρ h ∧ b ≤ h.length ∧ OkS K Wx H bt b h D (m b ρ h)
section
variable {K : KX} {σ : L2.St} {H H' : L2.Hp} {bt bt' : Gh} {h h' : Hp} {Wx : WX} {b : Nat} {D : Ends} {ρ : Env}
theorem OkS.later {r : RS} {H1 : L2.Hp} {bt1 : Gh} {h1 : Hp} (x : Exs H bt h H1 bt1 h1) (p : Pres b h h1) (q : OkS K Wx H bt b h D r) : OkS K Wx H1 bt1 b h1 D r := by
  cases r with
  | bad => exact q
  | exc e ρ' h2 => exact fun c d σ' H2 bt2 x2 p2 s2 rx => q c d σ' H2 bt2 (x.trans x2) (p.trans p2) s2 rx
  | nxt ρ' h2 => exact fun σ' H2 bt2 x2 p2 s2 => q σ' H2 bt2 (x.trans x2) (p.trans p2) s2
  | brk ρ' h2 => exact fun σ' H2 bt2 x2 p2 s2 => q σ' H2 bt2 (x.trans x2) (p.trans p2) s2
  | cnt ρ' h2 => exact fun σ' H2 bt2 x2 p2 s2 => q σ' H2 bt2 (x.trans x2) (p.trans p2) s2
  | ret w h2 => exact fun v H2 bt2 x2 ok2 p2 r2 => q v H2 bt2 (x.trans x2) ok2 (p.trans p2) r2
/-- an expression, then the rest -/
theorem oks_R {m : R W} {f : W → Hp → RS} {D : Ends} (s : Stt K σ H bt ρ h) (q : OkS K Wx H bt b h D (ofR m ρ f)) :
    OkE K Wx σ H bt b h (fun v H1 => ∃ w h1 bt1, m = .ok w h1 ∧ Exs H bt h H1 bt1 h1 ∧ HeapOk K H1 bt1 h1 ∧ Pres b h h1 ∧ Rep K H1 bt1 h1 w v ∧ Stt K σ H1 bt1 ρ h1 ∧ OkS K Wx H1 bt1 b h1 D (f w h1)) m := by
  cases m with
  | bad => exact q
  | exc e h1 => exact fun c d H1 bt1 x ok p rx => q c d σ H1 bt1 x p (s.ext x ok) rx
  | ok w h1 => exact fun v H1 bt1 x ok p r => ⟨w, h1, bt1, rfl, x, ok, p, r, s.ext x ok, OkS.later x p q⟩
theorem oks_Rs {m : R (List W)} {f : List W → Hp → RS} {D : Ends} (s : Stt K σ H bt ρ h) (q : OkS K Wx H bt b h D (ofRs m ρ f)) :
    OkEs K Wx σ H bt b h (fun vs H1 => ∃ ws h1 bt1, m = .ok ws h1 ∧ Exs H bt h H1 bt1 h1 ∧ HeapOk K H1 bt1 h1 ∧ Pres b h h1 ∧ RepL K H1 bt1 h1 ws vs ∧ Stt K σ H1 bt1 ρ h1 ∧ OkS K Wx H1 bt1 b h1 D (f ws h1)) m := by
  cases m with
  | bad => exact q
  | exc e h1 => exact fun c d H1 bt1 x ok p rx => q c d σ H1 bt1 x p (s.ext x ok) rx
  | ok w h1 => exact fun v H1 bt1 x ok p r => ⟨w, h1, bt1, rfl, x, ok, p, r, s.ext x ok, OkS.later x p q⟩
/-- a test, then the rest -/
theorem oks_T {m : R W} {f : W → Hp → RS} {D : Ends} (s : Stt K σ H bt ρ h) (q : OkS K Wx H bt b h D (ofR m ρ f)) (hn : ∀ w h1, truthW h1 w = none → f w h1 = .bad) :
    OkT K Wx σ H bt b h (fun k H1 => ∃ w h1 bt1, truthW h1 w = some k ∧ Exs H bt h H1 bt1 h1 ∧ HeapOk K H1 bt1 h1 ∧ Pres b h h1 ∧ Stt K σ H1 bt1 ρ h1 ∧ OkS K Wx H1 bt1 b h1 D (f w h1)) m := by
  cases m with
  | bad => exact q
  | exc e h1 => exact fun c d H1 bt1 x ok p rx => q c d σ H1 bt1 x p (s.ext x ok) rx
  | ok w h1 =>
    have q : OkS K Wx H bt b h D (f w h1) := q
    cases et : truthW h1 w with
    | none => rw [hn w h1 et] at q; exact q.elim
    | some k => exact ⟨k, et, fun H1 bt1 x ok p => ⟨w, h1, bt1, et, x, ok, p, s.ext x ok, OkS.later x p q⟩⟩
end

section
variable {K : KX} {H1 : L2.Hp} {bt1 : Gh} {h1 : Hp} {b : Nat} {k : ItK} {ws : List W} {vs0 : List V} {its : List W} {J : It} {g : TG} {tb : TS} {Wx : WX} {D : Ends} {σ : L2.St} {ρ : Env}
open Classical in
theorem for_run (s1 : Stt K σ H1 bt1 ρ h1) (rw0 : RepL K H1 bt1 h1 ws vs0) (ei : itemsOf k (ws.map (deref h1)) = some its) (hJ : ItOk K k ws vs0 its J) {body : W → Env → Hp → RS} {kill : List Nat}
    (hbody : ∀ (D' : Ends) (σc : L2.St) (Hc : L2.Hp) btc ρc hc w x, Stt K σc Hc btc ρc hc → Rep K Hc btc hc w x → b ≤ hc.length → OkS K Wx Hc btc b hc D' (body w ρc hc) → g x σc Hc fun σ2 H2 => tb D' σ2 H2)
    (hb : b ≤ h1.length) (fin : OkS K Wx H1 bt1 b h1 D (forLoop body kill (fun h2 => sameAt h1 h2 ws) its ρ h1)) :
    ∃ W : Nat → Nat → L2.St → L2.Hp → Prop, (∃ m, W 0 m σ H1) ∧ ∀ i m σ H, W i m σ H →
      (J.stop i H ∧ D.nx σ H) ∨ (J.go i H ∧ ∃ N : L2.St → L2.Hp → Prop, (∀ σ' H', N σ' H' → ∃ m', m' < m ∧ W (i + 1) m' σ' H') ∧ ∀ x H', J.yld i H x H' → g x σ H' fun σ2 H2 => tb { D with nx := N, ct := N, bk := D.nx } σ2 H2) := by
  refine ⟨fun i m σc Hc => m = its.length - i ∧ i ≤ its.length ∧ ∃ btc ρc hc, Stt K σc Hc btc ρc hc ∧ Exs H1 bt1 h1 Hc btc hc ∧ Pres b h1 hc ∧ ws.map (deref hc) = ws.map (deref h1) ∧
    OkS K Wx H1 bt1 b h1 D (forLoop body kill (fun h2 => sameAt h1 h2 ws) (its.drop i) ρc hc), ⟨_, rfl, Nat.zero_le _, bt1, ρ, h1, s1, Exs.refl, Pres.refl, rfl, fin⟩, ?_⟩
  rintro i m σc Hc ⟨rfl, hi, btc, ρc, hc, sc, xc, pc, sm, fin⟩
  obtain ⟨J1, J2, J3⟩ := hJ Hc btc hc sc.hp (rw0.ext s1.hp xc.toExt) (by rw [sm]; exact ei)
  by_cases hlt : i < its.length
  · have ed : its.drop i = its[i] :: its.drop (i + 1) := List.drop_eq_getElem_cons hlt
    rw [ed] at fin
    refine .inr ⟨J1 i hlt, fun σn Hn => i + 1 ≤ its.length ∧ ∃ btc ρc hc, Stt K σn Hn btc ρc hc ∧ Exs H1 bt1 h1 Hn btc hc ∧ Pres b h1 hc ∧ ws.map (deref hc) = ws.map (deref h1) ∧
      OkS K Wx H1 bt1 b h1 D (forLoop body kill (fun h2 => sameAt h1 h2 ws) (its.drop (i + 1)) ρc hc), fun σn Hn z => ⟨_, by omega, rfl, z.1, z.2⟩, fun x H' y => ?_⟩
    obtain ⟨s, rx⟩ := J3 i _ x H' (List.getElem?_eq_getElem hlt) y
    obtain ⟨ok', x'⟩ := sc.hp.sameX s
    have xx' := xc.trans x'
    refine hbody _ σc H' btc (wipeE ρc kill) hc _ x ((sc.ext x' ok').wipe1 kill) rx (Nat.le_trans hb xc.len) ?_
    unfold forLoop at fin
    cases eb : body its[i] (wipeE ρc kill) hc with
    | bad => rw [eb] at fin; exact fin
    | exc e r2 h2 => rw [eb] at fin; exact OkS.later (r := .exc e r2 h2) xx' pc fin
    | ret w h2 => rw [eb] at fin; exact OkS.later (r := .ret w h2) xx' pc fin
    | nxt r2 h2 =>
      rw [eb] at fin
      simp only at fin
      split at fin
      · rename_i kp
        exact fun σ2 H2 bt2 x2 p2 s2 => ⟨hlt, bt2, r2, h2, s2, xx'.trans x2, pc.trans p2, sameAt_map kp, fin⟩
      · exact fin.elim
    | cnt r2 h2 =>
      rw [eb] at fin
      simp only at fin
      split at fin
      · rename_i kp
        exact fun σ2 H2 bt2 x2 p2 s2 => ⟨hlt, bt2, r2, h2, s2, xx'.trans x2, pc.trans p2, sameAt_map kp, fin⟩
      · exact fin.elim
    | brk r2 h2 =>
      rw [eb] at fin
      simp only at fin
      exact fun σ2 H2 bt2 x2 p2 s2 => fin σ2 H2 bt2 (xx'.trans x2) (pc.trans p2) (s2.wipe1 kill)
  · have e : i = its.length := by omega
    subst e
    rw [List.drop_length] at fin
    unfold forLoop at fin
    exact .inl ⟨J2, fin σc Hc btc xc pc (sc.wipe1 kill)⟩
theorem while_run (s1 : Stt K σ H1 bt1 ρ h1) (hb : b ≤ h1.length) {test : Env → Hp → R W} {body : Env → Hp → RS} {kill : List Nat} {N : Nat} {tc : TT}
    (htest : ∀ (σc : L2.St) (Hc : L2.Hp) btc ρc hc (Q : Bool → L2.Hp → Prop), Stt K σc Hc btc ρc hc → b ≤ hc.length → OkT K Wx σc Hc btc b hc Q (test ρc hc) → tc σc Hc Q)
    (hbody : ∀ (D' : Ends) (σc : L2.St) (Hc : L2.Hp) btc ρc hc, Stt K σc Hc btc ρc hc → b ≤ hc.length → OkS K Wx Hc btc b hc D' (body ρc hc) → tb D' σc Hc)
    (fin : OkS K Wx H1 bt1 b h1 D (whileLoop test body kill N ρ h1)) : L2.tWhile tc tb D σ H1 := by
  refine ⟨fun m σc Hc => ∃ btc ρc hc, Stt K σc Hc btc ρc hc ∧ Exs H1 bt1 h1 Hc btc hc ∧ Pres b h1 hc ∧ OkS K Wx H1 bt1 b h1 D (whileLoop test body kill m ρc hc), ⟨N, bt1, ρ, h1, s1, Exs.refl, Pres.refl, fin⟩, ?_⟩
  rintro m σc Hc ⟨btc, ρc, hc, sc, xc, pc, fin⟩
  cases m with
  | zero => exact fin.elim
  | succ m =>
    unfold whileLoop at fin
    have hbc := Nat.le_trans hb xc.len
    have sw := sc.wipe1 kill
    refine htest σc Hc btc _ hc _ sw hbc ?_
    cases er : test (wipeE ρc kill) hc with
    | bad => rw [er] at fin; exact fin
    | exc e h2 => rw [er] at fin; exact fun c d H2 bt2 x ok p rx => fin c d σc H2 bt2 (xc.trans x) (pc.trans p) (sw.ext x ok) rx
    | ok w0 h2 =>
      rw [er] at fin
      simp only [ofR_ok] at fin
      cases et : truthW h2 w0 with
      | none => rw [et] at fin; exact fin.elim
      | some k =>
        rw [et] at fin
        refine ⟨k, et, fun H' bt2 x2 ok2 p2 => ?_⟩
        have s2 := sw.ext x2 ok2
        have xx := xc.trans x2
        have pp := pc.trans p2
        have hb2 := Nat.le_trans hbc x2.len
        cases k with
        | false =>
          exact L2.iteF (fin σc H' bt2 xx pp s2)
        | true =>
          simp only at fin
          refine L2.iteT ⟨fun σn Hn => ∃ btc ρc hc, Stt K σn Hn btc ρc hc ∧ Exs H1 bt1 h1 Hn btc hc ∧ Pres b h1 hc ∧ OkS K Wx H1 bt1 b h1 D (whileLoop test body kill m ρc hc), fun σn Hn z => ⟨m, Nat.lt_succ_self m, z⟩, ?_⟩
          refine hbody _ σc H' bt2 _ h2 s2 hb2 ?_
          cases eb : body (wipeE ρc kill) h2 with
          | bad => rw [eb] at fin; exact fin
          | exc e r2 h3 => rw [eb] at fin; exact OkS.later (r := .exc e r2 h3) xx pp fin
          | ret w h3 => rw [eb] at fin; exact OkS.later (r := .ret w h3) xx pp fin
          | brk r2 h3 =>
            rw [eb] at fin
            exact fun σ2 H2 bt3 x3 p3 s3 => fin σ2 H2 bt3 (xx.trans x3) (pp.trans p3) (s3.wipe1 kill)
          | nxt r2 h3 =>
            rw [eb] at fin
            exact fun σ2 H2 bt3 x3 p3 s3 => ⟨bt3, r2, h3, s3, xx.trans x3, pp.trans p3, fin⟩
          | cnt r2 h3 =>
            rw [eb] at fin
            exact fun σ2 H2 bt3 x3 p3 s3 => ⟨bt3, r2, h3, s3, xx.trans x3, pp.trans p3, fin⟩
theorem endEnv_get {b : Nat} {r : Env} {i : Nat} {w : W} (e : (endEnv b r)[i]? = some (some w)) : r[i]? = some (some w) ∧ below b w = true := by
  unfold endEnv at e
  rw [List.getElem?_map] at e
  cases q : r[i]? with
  | none => rw [q] at e; cases e
  | some o =>
    rw [q] at e
    cases o with
    | none => cases e
    | some u =>
      simp only [Option.map_some, Option.some.injEq] at e
      split at e
      · cases e
        exact ⟨rfl, by assumption⟩
      · cases e
theorem Stt.cut {σ' : L2.St} {H' : L2.Hp} {bt' : Gh} {r4 : Env} {h4 : Hp} {b : Nat} (s : Stt K σ' H' bt' r4 h4) (c : Cl b h4) : Stt K σ' H' bt' (endEnv b r4) (h4.take b) := by
  refine ⟨s.hp.cut c, fun i w e => ?_, by unfold endEnv; rw [List.length_map]; exact s.len⟩
  obtain ⟨e1, e2⟩ := endEnv_get e
  obtain ⟨v, e3, r⟩ := s.sl i w e1
  exact ⟨v, e3, Rep.cut c.1 w v r e2⟩
/-- a turn whose objects are gone behind it -/
theorem region_ok {Hc : L2.Hp} {btc : Gh} {hc : Hp} {D' : Ends} (ok : HeapOk K Hc btc hc) (hb : b ≤ hc.length) {x : RS} (q : OkS K Wx Hc btc b hc D' (match x with
    | .nxt r4 h4 => .nxt (endEnv hc.length r4) (h4.take hc.length)
    | .cnt r4 h4 => .cnt (endEnv hc.length r4) (h4.take hc.length)
    | .brk r4 h4 => .brk (endEnv hc.length r4) (h4.take hc.length)
    | _ => .bad)) : OkS K Wx Hc btc hc.length hc D' x := by
  have fin : ∀ (P : L2.St → L2.Hp → Prop) r4 h4, (∀ σ' H' bt', Exs Hc btc hc H' bt' (h4.take hc.length) → Pres b hc (h4.take hc.length) → Stt K σ' H' bt' (endEnv hc.length r4) (h4.take hc.length) → P σ' H') →
      ∀ σ' H' bt', Exs Hc btc hc H' bt' h4 → Pres hc.length hc h4 → Stt K σ' H' bt' r4 h4 → P σ' H' := fun P r4 h4 q σ' H' bt' x p s => by
    have cl := p hc.length (Nat.le_refl _) ok.cl
    exact q σ' H' bt' ⟨x.toExt.cut, x.gk⟩ (Pres.cut hb x.len (p.mono hb)) (s.cut cl)
  cases x with
  | bad => exact q
  | exc _ _ _ => exact q.elim
  | ret _ _ => exact q.elim
  | nxt r4 h4 => exact fin _ r4 h4 q
  | brk r4 h4 => exact fin _ r4 h4 q
  | cnt r4 h4 => exact fin _ r4 h4 q
end

section
variable {Nw d : Nat} {C : MC} {X : Cx} {Wx : WX}
theorem nolc {x : Expr} (h : lcB? x = false) (t : Option Expr) (l : Nat) (env : PySem.Env) : swapsWith x t l env = pure false := by
  cases x <;> first | (cases h; done) | rfl
theorem mT_form {t : Tg} {e : Expr} (h : mT C t e = true) : (∃ i x p, t = .nm i ∧ e = .Name x p) ∨ ∃ ts es k p, t = .tp ts ∧ e = .Tuple es k p := by
  cases t <;> cases e <;> first | (simp [mT] at h; done) | exact .inl ⟨_, _, _, rfl, rfl⟩ | exact .inr ⟨_, _, _, _, rfl, rfl⟩
theorem own_name (c : Ctx Nw d C X) {x : Str} (h2 : ownB C x = true) : L2.Loc X.env.scope x ∧ (X.fn x = true ∨ X.env.scope.names.lookup x = some .local) := by
  unfold L2.Loc
  rw [c.sc]
  unfold ownB at h2
  split at h2
  · rename_i q
    exact ⟨.inl (c.loc _ q), .inr (c.loc _ q)⟩
  · rename_i q
    exact ⟨.inr (c.cel _ q).1, .inl (c.cel _ q).2⟩
  · cases h2
/-- the parts of a comprehension -/
theorem lc_parts (Nw d : Nat) {mu : Bool} {t : Tg} {k : ItK} {srcs tests : List Ex} {e : Ex} {C : MC} {X : Cx} {Wx : WX} {x : Expr} (c : Ctx Nw d C X) (tk : L2.Takes X Wx) (m : mE C (.lc mu t k srcs tests e) x = true) :
    ∃ elt tg iter ifs scope pos wi g tt te own, x = .ListComp elt [⟨tg, iter, ifs, 0⟩] scope pos ∧ PI X tg iter wi ∧ L2.BlkOk X.N X.env.scope scope own ∧
      (∀ (s : Shared) (H : L2.Hp) (Ca : Addr) (cl : List (Str × Addr)) (fp : List Addr), PG (X.blk s H scope (compEnvC scope cl Ca X.env) fp) tg g) ∧ (∀ (s : Shared) (H : L2.Hp) (Ca : Addr) (cl : List (Str × Addr)) (fp : List Addr), L2.PTs (X.blk s H scope (compEnvC scope cl Ca X.env) fp) ifs tt) ∧
      (∀ (s : Shared) (H : L2.Hp) (Ca : Addr) (cl : List (Str × Addr)) (fp : List Addr), PE (X.blk s H scope (compEnvC scope cl Ca X.env) fp) elt te) ∧ (∀ x, foldedSetIterable iter X.env x = pure x) ∧
      ∀ σ H Q, (tEv (kx X) Wx fun b ρ h => evE (evC C.T Nw d) b ρ (.lc mu t k srcs tests e) h) σ H Q → L2.tLc wi g tt te (own.map (·.2)) σ H Q := by
  unfold mE at m
  split at m <;> rename_i hx <;> first | (cases hx; done) | skip
  · rename_i elt tg iter ifs scope pos
    cases hx
    simp only [Bool.and_eq_true] at m
    obtain ⟨⟨⟨⟨⟨⟨m1, m2⟩, m3⟩, m4⟩, m5⟩, m6⟩, m7⟩ := m
    split at m3
    · rename_i es hes
      have pi := iter_sound (call := evC C.T Nw d) (Wx := Wx) c k tg iter es srcs hes (sEs Nw d srcs C X Wx es c tk m3)
      have hB : ∀ (s : Shared) (H : L2.Hp) (Ca : Addr) (cl : List (Str × Addr)) (fp : List Addr), Ctx Nw d { C with sc := L2.relS scope C.sc, os := scope } (X.blk s H scope (compEnvC scope cl Ca X.env) fp) := fun s H Ca cl fp => c.blk s H Ca cl fp
      have he : ∀ (s : Shared) (H : L2.Hp) (Ca : Addr) (cl : List (Str × Addr)) (fp : List Addr), PE (X.blk s H scope (compEnvC scope cl Ca X.env) fp) elt (tEv (kx X) (fun _ _ _ _ => False) fun b ρ h => evE (evC C.T Nw d) b ρ e h) := fun s H Ca cl fp => (sE Nw d e _ _ (fun _ _ _ _ => False) elt (hB s H Ca cl fp) takesF m5).1
      have ht : ∃ tt, ((tests = [] ∧ tt = L2.tYes) ∨ ∃ c r, tests = c :: r ∧ tt = tTv (kx X) (fun _ _ _ _ => False) fun b ρ h => evE (evC C.T Nw d) b ρ c h) ∧ ∀ (s : Shared) (H : L2.Hp) (Ca : Addr) (cl : List (Str × Addr)) (fp : List Addr), L2.PTs (X.blk s H scope (compEnvC scope cl Ca X.env) fp) ifs tt := by
        match tests, ifs, m6, m7 with
        | [], [], m6, m7 => exact ⟨_, .inl ⟨rfl, rfl⟩, fun _ _ _ _ _ => L2.pts_nil⟩
        | [q], [y], m6, m7 =>
          simp only [mEs, Bool.and_eq_true] at m6
          exact ⟨_, .inr ⟨_, _, rfl, rfl⟩, fun s H Ca cl fp => L2.pts_one ((sE Nw d q _ _ (fun _ _ _ _ => False) y (hB s H Ca cl fp) takesF m6.1).2 m7).1⟩
      obtain ⟨tt, htt, ht⟩ := ht
      have hsn : ∀ x, foldedSetIterable iter X.env x = pure x := by
        intro x
        cases iter <;> first | (cases m2; done) | rfl
      have hgt : ∀ (s : Shared) (H : L2.Hp) (Ca : Addr) (cl : List (Str × Addr)) (fp : List Addr), PG (X.blk s H scope (compEnvC scope cl Ca X.env) fp) tg (gT (kx X) t) := fun s H Ca cl fp => tg_sound (hB s H Ca cl fp) t tg m4
      refine ⟨elt, tg, iter, ifs, scope, pos, _, _, tt, _, ownOf C.N t.names, rfl, pi, blkOk (by rw [c.hN, c.sc]; exact m1), hgt, ht, he, hsn, fun σ H Q q => ?_⟩
      obtain ⟨b, bt, ρ, h, s, hb, q⟩ := q
      simp only [evE] at q
      rw [ownOf_snd]
      refine ⟨b, bt, ρ, h, s, hb, (OkEs.bind q).mono fun vs H1 z => ?_⟩
      obtain ⟨ws, h1, bt1, _, x1, ok1, p1, r1, q1⟩ := z
      split at q1
      · exact q1.elim
      · rename_i its ei
        refine ⟨bt1, h1, ws, its, ok1, r1, ei, fun J hJ D hD => ?_⟩
        have hb1 : b ≤ h1.length := Nat.le_trans hb x1.len
        cases mu with
        | false =>
          simp only [Bool.false_eq_true, if_false] at q1
          have q1 : OkE (kx X) Wx σ H1 bt1 b h1 Q ((lcLoop (lcB (evC C.T Nw d) b ρ t tests e) (fun h2 => sameAt h1 h2 ws) its [] h1).bind fun ys h2 => .ok (.lst ys) h2) := q1
          refine lc_run (b := b) (body := lcB (evC C.T Nw d) b ρ t tests e) ok1 r1 ei hJ (fun Hc btc hc w x N0 N1 okc xc rw' q2 hbc => ?_) hb1 ?_ hD
          · exact turn_sound ((s.ext x1 ok1).ext xc okc) hbc htt rw' q2
          · revert q1
            generalize lcLoop _ _ its [] h1 = r
            intro q1
            cases r with
            | bad => exact q1
            | exc _ _ => exact True.intro
            | ok ys h2 => exact q1
        | true =>
          simp only [if_true] at q1
          have q1 : OkE (kx X) Wx σ H1 bt1 b h1 Q (lcLoopM (lcB (evC C.T Nw d) b ρ t tests e) (fun h2 => sameAt h1 h2 ws) h1.length its [] (h1 ++ [.lst []])) := q1
          refine lc_runM (b := b) (body := lcB (evC C.T Nw d) b ρ t tests e) ok1 r1 ei hJ (fun Hc btc hc w x N0 N1 okc xc rw' q2 hbc => ?_) hb1 ?_ hD
          · exact turn_sound ((s.ext x1 ok1).ext xc okc) hbc htt rw' q2
          · revert q1
            generalize lcLoopM _ _ _ its [] _ = r
            intro q1
            cases r with
            | bad => exact q1
            | exc _ _ => exact True.intro
            | ok ys h2 => exact q1
    · cases m3
  · cases m
end
end Ow

/-! Ow11: statements' runs. -/
namespace Ow
open PySem PySem.Spec PyProof.Rows
open L2 (V SqL SqT Rd HO upd upd_same upd_ne TE TT TA TS VK Cx PE PT PA PS PSs WX OpR UnR CallR R2 Room Gl Sp XK CXT FnOk Binds TG TGs PG PGs It TI PI Inv RelV Vals thn wipe Ends)

section
variable {Nw d : Nat} {C : MC} {X : Cx} {Wx : WX}
theorem sw_cell {x : Expr} {y : Str} {p : Pos} {l : Nat} {env : PySem.Env} (h : (match env.scope.names.lookup y with
    | some .local => false
    | _ => true) = true) : swapsWith x (some (.Name y p)) l env = pure false := by
  have hk : (env.kindOf y == some .local) = false := by
    unfold PySem.Env.kindOf
    split at h
    · cases h
    · rename_i q
      cases e : env.scope.names.lookup y with
      | none => rfl
      | some k =>
        cases k <;> first | rfl | exact absurd e q
  cases x <;> first | rfl | simp [swapsWith, hk]
/-- an assignment's reading -/
theorem asg_imp {K : KX} {call : Nat → Nat → List W → Hp → R W} {t : Tg} {e : Ex} {D : Ends} {σ : L2.St} {H : L2.Hp} (q : tSv K Wx (fun b ρ h => evS call Nw b (.asg t e) ρ h) D σ H) :
    (tEv K Wx fun b ρ h => evE call b ρ e h) σ H fun x H1 => gT K t x σ H1 D.nx := by
  obtain ⟨b, bt, ρ, h, s, hb, q⟩ := q
  simp only [evS] at q
  refine ⟨b, bt, ρ, h, s, hb, (oks_R s q).mono fun v H1 z => ?_⟩
  obtain ⟨w, h1, bt1, _, x1, ok1, p1, r1, s1, q1⟩ := z
  cases eb : bindT t w ρ with
  | none => rw [eb] at q1; exact q1.elim
  | some ρ' =>
    rw [eb] at q1
    exact ⟨bt1, h1, ρ, ρ', w, s1, r1, eb, fun σ' s' _ => q1 σ' H1 bt1 Exs.refl Pres.refl s'⟩
theorem asg_sound (c : Ctx Nw d C X) (tk : L2.Takes X Wx) {t : Tg} {e : Ex} {tg x : Expr} {pos : Pos} (m1 : mT C t tg = true) (m2 : mE C e x = true) (m3 : asgB C t tg x = true) (m4 : (!lcB? x || lcE e) = true) :
    PS X (.Assign [tg] x pos) (tSv (kx X) Wx fun b ρ h => evS (evC C.T Nw d) Nw b (.asg t e) ρ h) := by
  have pg := tg_sound c t tg m1
  have pe := (sE Nw d e C X Wx x c tk m2).1
  by_cases hl : lcB? x = true
  · rcases mT_form m1 with ⟨i, y, p, rfl, rfl⟩ | ⟨ts, es, k, p, rfl, rfl⟩
    · simp only [asgB, hl, if_true] at m3
      rw [hl, Bool.not_true, Bool.false_or] at m4
      cases e <;> first | (cases m4; done) | skip
      rename_i mu t k srcs tests e
      by_cases hcl : cellB C y = true
      · have hsw : swapsWith x (some (.Name y p)) pos.line X.env = pure false := sw_cell (by rw [c.sc]; exact hcl)
        exact PS.imp (L2.ps_asg pe pg hsw rfl rfl) fun D σ H q => asg_imp q
      obtain ⟨elt, tg, iter, ifs, scope, pos', wi, g, tt, te, own, rfl, pi, ok, hg, ht, he, hs, imp⟩ := lc_parts Nw d c tk m2
      simp only [Bool.or_eq_true, Bool.and_eq_true, hcl, or_false, Bool.false_eq_true] at m3
      obtain ⟨⟨mf, ml⟩, mw⟩ := m3
      have hy : X.env.scope.names.lookup y = some .local := by
        rw [c.sc]
        unfold locB at ml
        split at ml
        · exact c.loc _ (by assumption)
        · cases ml
      have hk : X.env.scope.kind = .function := by
        rw [c.sc]
        unfold funB at mf
        split at mf
        · assumption
        · cases mf
      simp only [swB, Bool.and_eq_true, Bool.not_eq_true'] at mw
      have hi : C.N[i]? = some y := by
        simp only [mT, Bool.and_eq_true, decide_eq_true_eq] at m1
        exact m1.1
      refine PS.imp (L2.ps_setLc c.calm (by rw [c.hN]; exact c.nd) (by rw [c.hN]; exact hi) hy (L2.sw_true hk hy mw.1.2 mw.2) pi ok hg ht he hs) fun D σ H q => ?_
      refine imp σ H _ ?_
      obtain ⟨b, bt, ρ, h, s, hb, q⟩ := asg_imp q
      refine ⟨b, bt, ρ, h, s, hb, q.mono fun v H1 z => ?_⟩
      obtain ⟨bt, hh, ρ, ρ', w, s, r, e, q⟩ := z
      simp only [bindT] at e
      split at e
      · cases e
        exact q _ (s.set r) Out.set
      · cases e
    · simp [asgB, hl] at m3
  · have hl : lcB? x = false := by simpa using hl
    have h1 : (assignEach [tg] X.env).map (·.2) = [assign tg X.env] := by
      rcases mT_form m1 with ⟨i, y, p, rfl, rfl⟩ | ⟨ts, es, k, p, rfl, rfl⟩ <;> rfl
    have h2 : swappedStores [tg] x X.env = pure none := by
      rcases mT_form m1 with ⟨i, y, p, rfl, rfl⟩ | ⟨ts, es, k, p, rfl, rfl⟩
      · rfl
      · simp only [asgB, hl, Bool.not_false, Bool.true_and, Bool.not_eq_true'] at m3
        cases x <;> first | (cases m3; done) | rfl
    exact PS.imp (L2.ps_asg pe pg (nolc hl _ _ _) h2 h1) fun D σ H q => asg_imp q
theorem sub_ix {o i : Expr} {pos : Pos} {env : PySem.Env} (h : subIxB i = true) : ∀ v, assign (.Subscript o i pos) env v = (do
      let ov ← holding [v] (eval o env)
      let iv ← holding [v, ov] (eval i env)
      standAt pos
      holding [v, ov, iv] (setItem ov iv v)
      release [v, ov, iv] []) := by
  intro v
  cases i <;> first | (cases h; done) | rfl
theorem seti_sound (c : Ctx Nw d C X) (tk : L2.Takes X Wx) {o i e : Ex} {o' i' x : Expr} {p pos : Pos} (m1 : mE C e x = true) (m2 : mE C o o' = true) (m3 : mE C i i' = true) (m4 : subIxB i' = true) (m5 : lcB? x = false) :
    PS X (.Assign [.Subscript o' i' p] x pos) (tSv (kx X) Wx fun b ρ h => evS (evC C.T Nw d) Nw b (.seti o i e) ρ h) := by
  have pe := (sE Nw d e C X Wx x c tk m1).1
  have po := (sE Nw d o C X Wx o' c tk m2).1
  have pi := (sE Nw d i C X Wx i' c tk m3).1
  refine PS.imp (L2.ps_asg pe (L2.pg_sub po pi L2.set_list (sub_ix m4)) (hs := nolc m5 (some (.Subscript o' i' p)) pos.line X.env) (hw := rfl) (h1 := rfl)) fun D σ H q => ?_
  obtain ⟨b, bt, ρ, h, s, hb, q⟩ := q
  simp only [evS] at q
  refine ⟨b, bt, ρ, h, s, hb, (oks_R s q).mono fun v H1 z => ?_⟩
  obtain ⟨w, h1, bt1, ee1, x1, ok1, p1, r1, s1, q1⟩ := z
  have hb1 := Nat.le_trans hb x1.len
  refine ⟨b, bt1, ρ, h1, s1, hb1, (oks_R s1 q1).mono fun ov H2 z => ?_⟩
  obtain ⟨ow, h2, bt2, ee2, x2, ok2, p2, r2, s2, q2⟩ := z
  have hb2 := Nat.le_trans hb1 x2.len
  refine ⟨b, bt2, ρ, h2, s2, hb2, (oks_R s2 q2).mono fun iv H3 z => ?_⟩
  obtain ⟨iw, h3, bt3, ee3, x3, ok3, p3, r3, s3, q3⟩ := z
  cases ow <;> first | exact q3.elim | skip
  rename_i n
  cases iw <;> first | exact q3.elim | skip
  rename_i k
  simp only at q3
  · split at q3
    · rename_i us e3
      split at q3
      · rename_i j ej
        split at q3
        · rename_i mp
          obtain ⟨rfl, vs, e4, l4⟩ := ref_obj ok3 (r2.ext ok2 x3.toExt) e3
          cases r3
          have rw3 : Rep (kx X) H3 bt3 h3 w v := (r1.ext ok1 x2.toExt).ext ok2 x3.toExt
          obtain ⟨okn, xn⟩ := ok3.putX e3 (by simp) (l4.set j rw3)
          refine ⟨_, vs, k, j, rfl, rfl, e4, by rw [← l4.length]; exact ej, ?_⟩
          refine q3 σ _ bt3 xn (Pres.putL e3 mp fun c z1 z2 => ?_) (s3.ext xn okn)
          exact belowL_mem.mpr fun a ha => (List.mem_or_eq_of_mem_set ha).elim (belowL_mem.mp z1 a) fun z => by rw [z]; exact z2
        · exact q3.elim
      · exact q3.elim
    · exact q3.elim
theorem aug_sound (c : Ctx Nw d C X) (tk : L2.Takes X Wx) {i : Nat} {p : Prim} {e : Ex} {nm : Str} {op : Operator} {y : Expr} {p1 pos : Pos} (m1 : C.N[i]? = some nm) (m2 : ownB C nm = true) (m3 : mE C e y = true) (m4 : (p = .add ∧ op = .Add) ∨ (p = .sub ∧ op = .Sub)) :
    PS X (.AugAssign (.Name nm p1) op y pos) (tSv (kx X) Wx fun b ρ h => evS (evC C.T Nw d) Nw b (.aug i p e) ρ h) := by
  have pe := (sE Nw d e C X Wx y c tk m3).1
  obtain ⟨l1, l2⟩ := own_name c m2
  have go : ∀ (f : Int → Int → Int), L2.PIp X op (L2.ipI f) → (∀ (x y z : W), augP p x y = some z → ∃ a c, x = .int a ∧ y = .int c ∧ z = .int (f a c)) → PS X (.AugAssign (.Name nm p1) op y pos) (tSv (kx X) Wx fun b ρ h => evS (evC C.T Nw d) Nw b (.aug i p e) ρ h) := fun f ho hf => by
    refine PS.imp (L2.ps_aug (by rw [c.hN]; exact c.nd) (by rw [c.hN]; exact m1) l1 pe ho l2) fun D σ H q => ?_
    obtain ⟨b, bt, ρ, h, s, hb, q⟩ := q
    simp only [evS] at q
    split at q
    · rename_i x ex
      obtain ⟨v, ev, rv⟩ := s.sl i x ex
      refine ⟨v, ev, b, bt, ρ, h, s, hb, (oks_R s q).mono fun u H1 z => ?_⟩
      obtain ⟨w, h1, bt1, _, x1, ok1, p1, r1, s1, q1⟩ := z
      cases ea : augP p x w with
      | none => rw [ea] at q1; exact q1.elim
      | some z =>
        rw [ea] at q1
        obtain ⟨a, c', rfl, rfl, rfl⟩ := hf x w z ea
        cases rv; cases r1
        exact ⟨a, c', rfl, rfl, q1 _ H1 bt1 Exs.refl Pres.refl (s1.set rfl)⟩
    · exact q.elim
  rcases m4 with ⟨rfl, rfl⟩ | ⟨rfl, rfl⟩
  · exact go _ L2.ip_add fun x y z n => by
      cases x <;> cases y <;> cases n
      exact ⟨_, _, rfl, rfl, rfl⟩
  · exact go _ L2.ip_sub fun x y z n => by
      cases x <;> cases y <;> cases n
      exact ⟨_, _, rfl, rfl, rfl⟩
mutual
theorem sS (Nw d : Nat) : ∀ (e : St) (C : MC) (X : Cx) (Wx : WX) (x : Stmt), Ctx Nw d C X → PassesOwn (model X.prog X.w) X.A X.env X.xe → L2.Takes X Wx → mS C e x = true →
    PS X x (tSv (kx X) Wx fun b ρ h => evS (evC C.T Nw d) Nw b e ρ h)
  | .asg t e, C, X, Wx, x, c, pas, tk, m => by
    unfold mS at m
    split at m <;> rename_i hx <;> first | (cases hx; done) | skip
    · cases hx
      simp only [Bool.and_eq_true] at m
      exact asg_sound c tk m.1.1.1 m.1.1.2 m.1.2 m.2
    · cases m
  | .seti o i e, C, X, Wx, x, c, pas, tk, m => by
    unfold mS at m
    split at m <;> rename_i hx <;> first | (cases hx; done) | skip
    · cases hx
      simp only [Bool.and_eq_true, Bool.not_eq_true'] at m
      exact seti_sound c tk m.1.1.1.1 m.1.1.1.2 m.1.1.2 m.1.2 m.2
    · cases m
  | .aug i p e, C, X, Wx, x, c, pas, tk, m => by
    unfold mS at m
    split at m <;> rename_i hx <;> first | (cases hx; done) | skip
    · cases hx
      simp only [Bool.and_eq_true, decide_eq_true_eq] at m
      refine aug_sound c tk m.1.1.1 m.1.1.2 m.1.2 ?_
      have m2 := m.2
      split at m2
      · exact .inl ⟨rfl, rfl⟩
      · exact .inr ⟨rfl, rfl⟩
      · cases m2
    · cases m
  | .exp e, C, X, Wx, x, c, pas, tk, m => by
    unfold mS at m
    split at m <;> rename_i hx <;> first | (cases hx; done) | skip
    · cases hx
      simp only [Bool.and_eq_true, Bool.not_eq_true'] at m
      refine PS.imp (L2.ps_expr (sE Nw d e C X Wx _ c tk m.1).1 (nolc m.2 _ _ _)) fun D σ H q => ?_
      obtain ⟨b, bt, ρ, h, s, hb, q⟩ := q
      simp only [evS] at q
      refine ⟨b, bt, ρ, h, s, hb, (oks_R s q).mono fun v H1 z => ?_⟩
      obtain ⟨w, h1, bt1, _, x1, ok1, p1, r1, s1, q1⟩ := z
      exact q1 σ H1 bt1 Exs.refl Pres.refl s1
    · cases m
  | .ret e, C, X, Wx, x, c, pas, tk, m => by
    unfold mS at m
    split at m <;> rename_i hx <;> first | (cases hx; done) | skip
    · cases hx
      refine PS.imp (L2.ps_ret (sE Nw d e C X Wx _ c tk m).1) fun D σ H q => ?_
      obtain ⟨b, bt, ρ, h, s, hb, q⟩ := q
      simp only [evS] at q
      refine ⟨b, bt, ρ, h, s, hb, (oks_R s q).mono fun v H1 z => ?_⟩
      obtain ⟨w, h1, bt1, _, x1, ok1, p1, r1, s1, q1⟩ := z
      exact q1 v H1 bt1 Exs.refl ok1 Pres.refl r1
    · cases hx
      refine PS.imp L2.ps_retN fun D σ H q => ?_
      obtain ⟨b, bt, ρ, h, s, hb, q⟩ := q
      simp only [evS, evE, ofR_ok] at q
      exact q .non H bt Exs.refl s.hp Pres.refl rfl
    · cases m
  | .iff cq a b, C, X, Wx, x, c, pas, tk, m => by
    unfold mS at m
    split at m <;> rename_i hx <;> first | (cases hx; done) | skip
    · cases hx
      simp only [Bool.and_eq_true] at m
      obtain ⟨⟨⟨m1, m2⟩, m3⟩, m4⟩ := m
      refine PS.imp (L2.ps_if ((sE Nw d cq C X Wx _ c tk m1).2 m2).1 (sB Nw d a C X Wx _ c pas tk m3) (sB Nw d b C X Wx _ c pas tk m4)) fun D σ H q => ?_
      obtain ⟨b0, bt, ρ, h, s, hb, q⟩ := q
      simp only [evS] at q
      refine ⟨b0, bt, ρ, h, s, hb, ?_⟩
      have q' := oks_T s q (fun w h1 e => by simp only [e])
      show OkT (kx X) Wx σ H bt b0 h _ (evE (evC C.T Nw d) b0 ρ cq h)
      revert q'
      generalize evE (evC C.T Nw d) b0 ρ cq h = r
      intro q'
      cases r with
      | bad => exact q'
      | exc _ _ => exact q'
      | ok w0 h0 =>
        obtain ⟨k, ek, q'⟩ := q'
        refine ⟨k, ek, fun H1 bt1 x1 ok1 p1 => ?_⟩
        obtain ⟨w, h1, bt2, et, x2, ok2, p2, s2, q2⟩ := q' H1 bt1 x1 ok1 p1
        rw [et] at q2
        cases k with
        | true => exact L2.iteT ⟨b0, bt2, ρ, h1, s2, Nat.le_trans hb x2.len, q2⟩
        | false => exact L2.iteF ⟨b0, bt2, ρ, h1, s2, Nat.le_trans hb x2.len, q2⟩
    · cases m
  | .forr tr t k srcs kill body, C, X, Wx, x, c, pas, tk, m => by
    unfold mS at m
    split at m <;> rename_i hx <;> first | (cases hx; done) | skip
    · rename_i tg iter body' pos
      cases hx
      simp only [Bool.and_eq_true] at m
      obtain ⟨⟨⟨m1, m2⟩, m3⟩, m4⟩ := m
      split at m3
      · rename_i es hes
        have pi := iter_sound (call := evC C.T Nw d) (Wx := Wx) c k tg iter es srcs hes (sEs Nw d srcs C X Wx es c tk m3)
        have hsn : ∀ x, foldedSetIterable iter X.env x = pure x := by
          intro x
          cases iter <;> first | (cases m1; done) | rfl
        refine PS.imp (L2.ps_for pas c.calm pi (tg_sound c t tg m2) (sB Nw d body C X Wx body' c pas tk m4) hsn) fun D σ H q => ?_
        obtain ⟨b, bt, ρ, h, s, hb, q⟩ := q
        simp only [evS] at q
        refine ⟨b, bt, ρ, h, s, hb, (oks_Rs s q).mono fun vs H1 z => ?_⟩
        obtain ⟨ws, h1, bt1, _, x1, ok1, p1, r1, s1, q1⟩ := z
        split at q1
        · exact q1.elim
        · rename_i its ei
          refine ⟨bt1, h1, ws, its, ok1, r1, ei, fun J hJ => ?_⟩
          have hb1 : b ≤ h1.length := Nat.le_trans hb x1.len
          refine for_run s1 r1 ei hJ (fun D' σc Hc btc ρc hc w x sc rx hbc q2 => ?_) hb1 q1
          cases eb : bindT t w ρc with
          | none => rw [eb] at q2; exact q2.elim
          | some ρ3 =>
            rw [eb] at q2
            refine ⟨btc, hc, ρc, ρ3, w, sc, rx, eb, fun σ' s' _ => ?_⟩
            cases tr with
            | false => exact ⟨b, btc, ρ3, hc, s', hbc, q2⟩
            | true => exact ⟨hc.length, btc, ρ3, hc, s', Nat.le_refl _, region_ok sc.hp hbc q2⟩
      · cases m3
    · cases m
  | .whl q kill body, C, X, Wx, x, c, pas, tk, m => by
    unfold mS at m
    split at m <;> rename_i hx <;> first | (cases hx; done) | skip
    · rename_i c' body' pos
      cases hx
      simp only [Bool.and_eq_true] at m
      obtain ⟨⟨m1, m2⟩, m3⟩ := m
      refine PS.imp (L2.ps_while pas ((sE Nw d q C X Wx _ c tk m1).2 m2).1 (sB Nw d body C X Wx _ c pas tk m3)) fun D σ H q => ?_
      obtain ⟨b, bt, ρ, h, s, hb, q⟩ := q
      simp only [evS] at q
      refine while_run s hb (fun σc Hc btc ρc hc Q sc hbc q2 => ?_) (fun D' σc Hc btc ρc hc sc hbc q2 => ?_) q
      · exact ⟨b, btc, ρc, hc, sc, hbc, q2⟩
      · exact ⟨b, btc, ρc, hc, sc, hbc, q2⟩
    · cases m
  | .brk, C, X, Wx, x, c, pas, tk, m => by
    unfold mS at m
    split at m <;> rename_i hx <;> first | (cases hx; done) | skip
    · refine PS.imp L2.ps_break fun D σ H q => ?_
      obtain ⟨b, bt, ρ, h, s, hb, q⟩ := q
      simp only [evS] at q
      exact q σ H bt Exs.refl Pres.refl s
    · cases m
  | .cnt, C, X, Wx, x, c, pas, tk, m => by
    unfold mS at m
    split at m <;> rename_i hx <;> first | (cases hx; done) | skip
    · refine PS.imp L2.ps_continue fun D σ H q => ?_
      obtain ⟨b, bt, ρ, h, s, hb, q⟩ := q
      simp only [evS] at q
      exact q σ H bt Exs.refl Pres.refl s
    · cases m
  | .pass, C, X, Wx, x, c, pas, tk, m => by
    unfold mS at m
    split at m <;> rename_i hx <;> first | (cases hx; done) | skip
    · refine PS.imp L2.ps_pass fun D σ H q => ?_
      obtain ⟨b, bt, ρ, h, s, hb, q⟩ := q
      simp only [evS] at q
      exact q σ H bt Exs.refl Pres.refl s
    · cases m
  | .opq, C, X, Wx, x, c, pas, tk, m => ⟨fun pins s σ H D I q => by
      obtain ⟨b, bt, ρ, h, s, hb, q⟩ := q
      simp only [evS] at q
      exact q.elim⟩
theorem sB (Nw d : Nat) : ∀ (es : List St) (C : MC) (X : Cx) (Wx : WX) (xs : List Stmt), Ctx Nw d C X → PassesOwn (model X.prog X.w) X.A X.env X.xe → L2.Takes X Wx → mB C es xs = true →
    PSs X xs (tSv (kx X) Wx fun b ρ h => evB (evC C.T Nw d) Nw b es ρ h)
  | [], C, X, Wx, xs, c, pas, tk, m => by
    cases xs with
    | nil =>
      refine PSs.imp L2.pss_nil fun D σ H q => ?_
      obtain ⟨b, bt, ρ, h, s, hb, q⟩ := q
      simp only [evB] at q
      exact q σ H bt Exs.refl Pres.refl s
    | cons _ _ => simp [mB] at m
  | e :: es, C, X, Wx, xs, c, pas, tk, m => by
    cases xs with
    | nil => simp [mB] at m
    | cons y ys =>
      simp only [mB, Bool.and_eq_true] at m
      refine PSs.imp (L2.pss_cons (sS Nw d e C X Wx y c pas tk m.1) (sB Nw d es C X Wx ys c pas tk m.2)) fun D σ H q => ?_
      obtain ⟨b, bt, ρ, h, s, hb, q⟩ := q
      simp only [evB] at q
      refine ⟨b, bt, ρ, h, s, hb, ?_⟩
      show OkS (kx X) Wx H bt b h _ (evS (evC C.T Nw d) Nw b e ρ h)
      revert q
      generalize evS (evC C.T Nw d) Nw b e ρ h = r
      intro q
      cases r with
      | bad => exact q
      | exc _ _ _ => exact q
      | ret _ _ => exact q
      | brk _ _ => exact q
      | cnt _ _ => exact q
      | nxt ρ' h' =>
        exact fun σ' H' bt' x p s' => ⟨b, bt', ρ', h', s', Nat.le_trans hb x.len, OkS.later x p q⟩
end
end
end Ow

/-! Ow12: defs. -/
namespace Ow
open PySem PySem.Spec PyProof.Rows
open L2 (V SqL SqT Rd HO upd upd_same upd_ne TE TT TA TS VK Cx PE PT PA PS PSs WX OpR UnR CallR R2 Room Gl Sp XK CXT FnOk Binds TG TGs PG PGs It TI PI Inv RelV Vals thn wipe Ends FnScope FunD cxOf)

section
variable {K : KX} {H : L2.Hp} {bt : Gh} {h : Hp}
/-! ### an object that is handed out -/
theorem take_app {b : Nat} {o : Obj} (hb : b ≤ h.length) {i : Nat} {u : Obj} (e : (h.take b ++ [o])[i]? = some u) : (i < b ∧ h[i]? = some u) ∨ (i = b ∧ u = o) := by
  rcases get_app e with ⟨h1, h2⟩ | ⟨h1, h2⟩
  · have := get_take h2
    exact .inl this
  · rw [List.length_take, Nat.min_eq_left hb] at h1
    exact .inr ⟨h1, h2⟩
variable {b n : Nat} {us : List W}
theorem Fz.move (hb : b ≤ n) (e : h[n]? = some (.lst us)) {a : Addr} (f : Fz bt h a) : Fz (bt.add b (bt.at_ n)) (h.take b ++ [.lst us]) a := by
  have hn : n < h.length := (List.getElem?_eq_some_iff.mp e).1
  refine ⟨fun i o ei no => ?_, f.2⟩
  rcases take_app (by omega) ei with ⟨h1, h2⟩ | ⟨rfl, rfl⟩
  · rw [Gh.add_ne (by omega)]
    exact f.1 i o h2 no
  · rw [Gh.add_self]
    exact f.1 n _ e (by simp)
mutual
theorem Rep.move (hb : b ≤ n) (e : h[n]? = some (.lst us)) : ∀ (w : W) (v : V), Rep K H bt h w v → below b w = true → Rep K H (bt.add b (bt.at_ n)) (h.take b ++ [.lst us]) w v
  | .non, _, r, _ => r
  | .bl _, _, r, _ => r
  | .int _, _, r, _ => r
  | .str _, _, r, _ => r
  | .tup ws, v, r, z => by
    obtain ⟨a, vs, e1, q, l⟩ := r
    simp only [below] at z
    exact ⟨a, vs, e1, q, RepL.move hb e ws vs l z⟩
  | .lst ws, v, r, z => by
    obtain ⟨a, vs, e1, ⟨q, f⟩, l⟩ := r
    simp only [below] at z
    exact ⟨a, vs, e1, ⟨q, f.move hb e⟩, RepL.move hb e ws vs l z⟩
  | .slst ws, v, r, z => by
    obtain ⟨a, vs, e1, q, l⟩ := r
    simp only [below] at z
    refine ⟨a, vs, e1, ?_, RepL.move hb e ws vs l z⟩
    rcases q with ⟨q, f⟩ | q
    · exact .inl ⟨q, f.move hb e⟩
    · exact .inr q
  | .ref m, v, r, z => by
    simp only [below, decide_eq_true_eq] at z
    exact ⟨by rw [List.length_append, List.length_take]; simp; have := r.1; omega, by rw [Gh.add_ne (by omega)]; exact r.2⟩
  | .ty _, _, r, _ => r
  | .set _, _, r, _ => r
  | .dic _ _, _, r, _ => r.elim
  | .cls _, _, r, _ => r.elim
  | .exc _ _, _, r, _ => r.elim
theorem RepL.move (hb : b ≤ n) (e : h[n]? = some (.lst us)) : ∀ (ws : List W) (vs : List V), RepL K H bt h ws vs → belowL b ws = true → RepL K H (bt.add b (bt.at_ n)) (h.take b ++ [.lst us]) ws vs
  | [], _, r, _ => r
  | w :: ws, vs, r, z => by
    obtain ⟨v, t, e1, r1, r2⟩ := r
    simp only [belowL, Bool.and_eq_true] at z
    exact ⟨v, t, e1, Rep.move hb e w v r1 z.1, RepL.move hb e ws t r2 z.2⟩
end
theorem HeapOk.move (ok : HeapOk K H bt h) (hb : b ≤ n) (e : h[n]? = some (.lst us)) (c : Cl b h) (bu : belowL b us = true) : HeapOk K H (bt.add b (bt.at_ n)) (h.take b ++ [.lst us]) where
  objs := fun i o ei => by
    rcases take_app c.1 ei with ⟨h1, h2⟩ | ⟨rfl, rfl⟩
    · rw [Gh.add_ne (by omega)]
      have r := ok.objs i o h2
      have z := c.2 i o h1 h2
      cases o with
      | dead => trivial
      | lst ws => obtain ⟨vs, q, l⟩ := r; exact ⟨vs, q, RepL.move hb e ws vs l z⟩
      | dic ks vs => exact r.elim
      | ins k fs => exact r.elim
    · rw [Gh.add_self]
      obtain ⟨vs, q, l⟩ := ok.objs n _ e
      exact ⟨vs, q, RepL.move hb e us vs l bu⟩
  inj := fun i j oi oj ei ej ni nj eq => by
    rcases take_app c.1 ei with ⟨h1, h2⟩ | ⟨rfl, rfl⟩ <;> rcases take_app c.1 ej with ⟨h3, h4⟩ | ⟨rfl, rfl⟩
    · rw [Gh.add_ne (by omega), Gh.add_ne (by omega)] at eq
      exact ok.inj i j oi oj h2 h4 ni nj eq
    · rw [Gh.add_ne (by omega), Gh.add_self] at eq
      have := ok.inj i n oi _ h2 e ni (by simp) eq
      omega
    · rw [Gh.add_self, Gh.add_ne (by omega)] at eq
      have := ok.inj n j _ oj e h4 (by simp) nj eq
      omega
    · rfl
  gl := ok.gl
  gd := fun i o ei no => by
    rcases take_app c.1 ei with ⟨h1, h2⟩ | ⟨rfl, rfl⟩
    · rw [Gh.add_ne (by omega)]
      exact ok.gd i o h2 no
    · rw [Gh.add_self]
      exact ok.gd n _ e (by simp)
theorem Exs.move {H0 : L2.Hp} {bt0 : Gh} {h0 : Hp} (x : Exs H0 bt0 h0 H bt h) (hn : h0.length ≤ n) (e : h[n]? = some (.lst us)) : Exs H0 bt0 h0 H (bt.add h0.length (bt.at_ n)) (h.take h0.length ++ [.lst us]) where
  frame := x.frame
  dom := x.dom
  agree := fun i hi => (Gh.add_ne (by omega)).trans (x.agree i hi)
  ghost := x.ghost
  len := by rw [List.length_append, List.length_take]; have := x.len; simp; omega
  live := fun i o hi ei no => by
    rcases take_app x.len ei with ⟨h1, h2⟩ | ⟨h1, h2⟩
    · exact x.live i o hi h2 no
    · omega
  fresh := fun i o hi ei no => by
    rcases take_app x.len ei with ⟨h1, h2⟩ | ⟨h1, h2⟩
    · omega
    · rw [h1, Gh.add_self]
      exact x.fresh n _ hn e (by simp)
  gk := x.gk
theorem Pres.move {b : Nat} {h0 : Hp} (hb : b ≤ h0.length) (hl : h0.length ≤ h.length) (p : Pres b h0 h) {o : Obj} : Pres b h0 (h.take h0.length ++ [o]) := fun c hc z => by
  obtain ⟨z1, z2⟩ := p c hc z
  refine ⟨by rw [List.length_append, List.length_take]; omega, fun i u hi ei => ?_⟩
  rcases take_app hl ei with ⟨h1, h2⟩ | ⟨h1, _⟩
  · exact z2 i u hi h2
  · omega
end

/-- a call's end -/
theorem end_ok {K : KX} {H H' : L2.Hp} {bt bt' : Gh} {h h' : Hp} {b : Nat} {keep : Bool} {w : W} {v : V} {Wx : WX} {σ : L2.St} {Q : VK} (ok0 : HeapOk K H bt h) (hb : b ≤ h.length) (q : OkE K Wx σ H bt b h Q (endCall keep (if keep then b else h.length) w h'))
    (x : Exs H bt h H' bt' h') (ok : HeapOk K H' bt' h') (p : Pres (if keep then b else h.length) h h') (r : Rep K H' bt' h' w v) : Q v H' := by
  cases keep with
  | true => exact q v H' bt' x ok p r
  | false =>
    replace p : Pres h.length h h' := p
    have cl := p h.length (Nat.le_refl _) ok0.cl
    replace q : OkE K Wx σ H bt b h Q (endCall false h.length w h') := q
    unfold endCall at q
    simp only [Bool.false_eq_true, if_false] at q
    split at q
    · exact q v H' bt' ⟨x.toExt.cut, x.gk⟩ (ok.cut cl) (Pres.cut hb x.len (p.mono hb)) (Rep.cut cl.1 w v r (by assumption))
    · rename_i nb
      split at q
      · rename_i n
        split at q
        · rename_i us e
          split at q
          · rename_i bu
            have hn : h.length ≤ n := by
              simp only [below, decide_eq_true_eq] at nb
              omega
            refine q v H' _ (x.move hn e) (ok.move hn e cl bu) (Pres.move hb x.len (p.mono hb)) ⟨by rw [List.length_append, List.length_take]; simp; have := x.len; omega, ?_⟩
            rw [Gh.add_self]
            exact r.2
          · exact q.elim
        · exact q.elim
      · exact q.elim

/-- a def as it stands behind the top -/
structure DefOk (K : PySem.W.Frag) (mg : Str → Option Value) (T : List Def) (df : Def) : Prop where
  ex : ∃ (f : Addr) (fd : FuncData) (ps : List Str) (qual : Str) (params : Arguments) (body : List Stmt) (scope : Scope) (dvs : List V) (kws : List (Str × V)), FunD K df.name qual params body scope dvs kws f fd ∧ FnScope df.names ps scope ∧ ps.length = df.np ∧
    mg df.name = some (.ref f) ∧ Binds K fd ps [] ∧ mB ⟨T, df.names, scope, scope⟩ df.body body = true
section
variable {P : Program} {w : World} {K : PySem.W.Frag} {mg : Str → Option Value} {base : Heap} {T : List Def} {Nw : Nat}
theorem start_stt {K : KX} {H : L2.Hp} {bt : Gh} {h : Hp} {N : List Str} {ws : List W} {vs : List V} (ok : HeapOk K H bt h) (l : RepL K H bt h ws vs) : Stt K (L2.start N vs) H bt (ws.map some ++ List.replicate (N.length - ws.length) none) h := by
  refine ⟨ok, fun i w e => ?_, by unfold L2.start; simp [l.length]⟩
  by_cases hi : i < ws.length
  · rw [List.getElem?_append_left (by simpa using hi), List.getElem?_map] at e
    cases q : ws[i]? with
    | none => rw [q] at e; cases e
    | some u =>
      rw [q] at e
      cases e
      obtain ⟨v, ev, r⟩ := l.get q
      refine ⟨v, ?_, r⟩
      unfold L2.start
      rw [List.getElem?_append_left (by rw [List.length_map, ← l.length]; exact hi), List.getElem?_map, ev]
      rfl
  · rw [List.getElem?_append_right (by simp; omega), List.getElem?_replicate] at e
    split at e <;> cases e
/-- one def, from the promises of all at the depth below -/
theorem def_ok {d : Nat} (ih : ∀ (k : Nat) (df : Def), T[k]? = some df → ∃ f fd ps, FnOk P w K mg base (L2.CX P w) d f fd ps (spC ⟨K, P, w⟩ T Nw d k df.np) ∧ mg df.name = some (.ref f) ∧ PySem.W.keepIn K (.ref f) = true ∧ Binds K fd ps []) (hb : ∀ x ∈ bltNames, mg x = none)
    {k : Nat} {df : Def} {f : Addr} {fd : FuncData} {ps : List Str} {nm qual : Str} {params : Arguments} {body : List Stmt} {scope : Scope} {dvs : List V} {kws : List (Str × V)} (e : T[k]? = some df) (F : FunD K nm qual params body scope dvs kws f fd) (S : FnScope df.names ps scope) (hl : ps.length = df.np)
    (mb : mB ⟨T, df.names, scope, scope⟩ df.body body = true) : FnOk P w K mg base (L2.CX P w) (d + 1) f fd ps (spC ⟨K, P, w⟩ T Nw (d + 1) k df.np) := by
  refine F.ok S (fun vs H Q E z => by rw [hl]; exact z.1) (fun cdv A outer s H vs Q E hr z => ?_)
  have tk := L2.takes_of (X := cxOf (L2.CX P w) P w K mg base df.names qual scope f cdv A outer s H E) rfl rfl rfl rfl
  have pas := L2.passes_of (X := cxOf (L2.CX P w) P w K mg base df.names qual scope f cdv A outer s H E) rfl
  have ctx : Ctx Nw d ⟨T, df.names, scope, scope⟩ (cxOf (L2.CX P w) P w K mg base df.names qual scope f cdv A outer s H E) :=
    ⟨rfl, S.nd, rfl, rfl, fun x e => e, fun x e => ⟨e, rfl⟩, hr, hb, ih⟩
  refine ⟨_, sB Nw d df.body _ _ _ body ctx pas tk mb, ?_⟩
  obtain ⟨hv, b, bt, h, ws, ok, hbl, l, q⟩ := z
  have hw : ws.length = df.np := by rw [l.length]; exact hv
  unfold evC at q
  rw [e] at q
  simp only [hw, if_true] at q
  have hb' : (if df.keep = true then b else h.length) ≤ h.length := by split <;> omega
  have st := start_stt (N := df.names) ok l
  rw [hw] at st
  refine ⟨if df.keep = true then b else h.length, bt, _, h, st, hb', ?_⟩
  show OkS ⟨K, P, w⟩ _ H bt (if df.keep = true then b else h.length) h _ (evB (evC T Nw d) Nw (if df.keep = true then b else h.length) df.body (ws.map some ++ List.replicate (df.names.length - df.np) none) h)
  revert q
  generalize evB (evC T Nw d) Nw (if df.keep = true then b else h.length) df.body (ws.map some ++ List.replicate (df.names.length - df.np) none) h = r
  intro q
  cases r with
  | bad => exact q
  | brk _ _ => exact q.elim
  | cnt _ _ => exact q.elim
  | exc e r2 h2 => exact fun c d σ' H' bt' _ _ _ rx => rx.elim
  | ret w1 h1 => exact fun v H' bt' x ok' p r => end_ok ok hbl q x ok' p r
  | nxt r1 h1 => exact fun σ' H' bt' x p s' => end_ok (v := .non) ok hbl q x s'.hp p rfl
theorem defs_ok (hT : ∀ (k : Nat) df, T[k]? = some df → DefOk K mg T df) (hb : ∀ x ∈ bltNames, mg x = none) : ∀ (d k : Nat) (df : Def), T[k]? = some df →
    ∃ f fd ps, FnOk P w K mg base (L2.CX P w) d f fd ps (spC ⟨K, P, w⟩ T Nw d k df.np) ∧ mg df.name = some (.ref f) ∧ PySem.W.keepIn K (.ref f) = true ∧ Binds K fd ps []
  | 0, k, df, e => by
    obtain ⟨f, fd, ps, qual, params, body, scope, dvs, kws, F, S, hl, hm, hbn, mb⟩ := (hT k df e).ex
    have nope : ∀ vs H Q E, ¬ spC ⟨K, P, w⟩ T Nw 0 k df.np vs H Q E := fun vs H Q E z => by
      obtain ⟨_, b, bt, h, ws, _, _, _, q⟩ := z
      exact q
    exact ⟨f, fd, ps, ⟨fun vs H Q E z => (nope _ _ _ _ z).elim, fun A outer s H args us vs Q E _ _ _ _ z => (nope _ _ _ _ z).elim⟩, hm, F.kp, hbn⟩
  | d + 1, k, df, e => by
    obtain ⟨f, fd, ps, qual, params, body, scope, dvs, kws, F, S, hl, hm, hbn, mb⟩ := (hT k df e).ex
    exact ⟨f, fd, ps, def_ok (fun k' df' e' => defs_ok hT hb d k' df' e') hb e F S hl mb, hm, F.kp, hbn⟩

/-! ### the law -/
/-- an exception over some world -/
def CXW (P : Program) : CXT := fun outer H s E u s' => ∃ w, L2.CX P w outer H s E u s'
theorem fn_cxw {d : Nat} {f : Addr} {fd : FuncData} {ps : List Str} {sp : Sp} (F : FnOk P w K mg base (L2.CX P w) d f fd ps sp) : FnOk P w K mg base (CXW P) d f fd ps sp :=
  ⟨F.len, fun A outer s H args us vs Q E hr e0 hb r hs => codeAny_mono (F.run A outer s H args us vs Q E hr e0 hb r hs) fun r s' hq => by
    cases r with
    | error e => exact ⟨w, hq⟩
    | ok fl => cases fl <;> exact hq⟩
theorem cxw_none (P : Program) (H : L2.Hp) (s : Shared) (e : Value) (s' : Shared) : CXW P [] H s (fun _ _ _ => False) e s' → False := fun ⟨_, z⟩ => by
  obtain ⟨_, _, _, _, _, _, _, _, _, _, _, _, z⟩ := z
  exact z
theorem repL_ints {K : KX} {H : L2.Hp} {bt : Gh} {h : Hp} (ns : List Int) : RepL K H bt h (ns.map W.int) (ns.map V.int) := RepL.ints ns
theorem sp_of {d k : Nat} {H : L2.Hp} {a : Addr} {ns : List Int} (sq : SqL K H a (ns.map V.int)) (hv : ∃ h', evC T Nw d 0 k [.slst (ns.map W.int)] [] = .ok (.bl true) h') :
    spC ⟨K, P, w⟩ T Nw d k 1 [.ref a] H (fun v _ => v = .bl true) fun _ _ _ => False := by
  obtain ⟨h', hv⟩ := hv
  refine ⟨rfl, 0, ⟨fun _ => a, []⟩, [], [.slst (ns.map W.int)], ⟨fun i o e => by simp at e, fun i j oi oj e => by simp at e, fun d hd => (by cases hd), fun i o e => (by simp at e)⟩, Nat.le_refl _, ⟨.ref a, [], rfl, ⟨a, _, rfl, ?_, RepL.ints ns⟩, rfl⟩, ?_⟩
  · rcases sq with sq | sq
    · exact .inl ⟨sq, fun i o e => by simp at e, fun z => by cases z⟩
    · exact .inr sq
  · rw [hv]
    exact fun v H' bt' _ _ _ r => r
/-- the law's def, ready for the end -/
theorem law_fn (hT : ∀ (k : Nat) df, T[k]? = some df → DefOk K mg T df) (hb : ∀ x ∈ bltNames, mg x = none) {d k : Nat} {df : Def} {f : Addr} {fd : FuncData} {ps : List Str} {nm qual : Str} {params : Arguments} {body : List Stmt} {scope : Scope} {dvs : List V} {kws : List (Str × V)} (e : T[k]? = some df) (F : FunD K nm qual params body scope dvs kws f fd) (S : FnScope df.names ps scope) (hl : ps.length = df.np)
    (mb : mB ⟨T, df.names, scope, scope⟩ df.body body = true) : FnOk P w K mg base (CXW P) (d + 1) f fd ps (spC ⟨K, P, w⟩ T Nw (d + 1) k df.np) :=
  fn_cxw (def_ok (fun k' df' e' => defs_ok hT hb d k' df' e') hb e F S hl mb)
end
end Ow

/-! N0: the evaluator's steps as simp rules. -/
namespace Ow
open PySem

/-- ints as values -/
abbrev iv (ds : List Int) : List W := ds.map W.int
/-- by a test's truth -/
def tc {α : Type} (o : Option Bool) (a b c : α) : α := match o with
  | some true => a
  | some false => b
  | none => c
@[simp] theorem tc_t {α : Type} (a b c : α) : tc (some true) a b c = a := (rfl)
@[simp] theorem tc_f {α : Type} (a b c : α) : tc (some false) a b c = b := (rfl)
@[simp] theorem tc_n {α : Type} (a b c : α) : tc none a b c = c := (rfl)
theorem tc_dec {α : Type} (P : Prop) [Decidable P] (a b c : α) : tc (some (decide P)) a b c = if P then a else b := by
  by_cases h : P <;> simp [h]
@[simp] theorem tc_yes {α : Type} {P : Prop} [Decidable P] (h : P) (a b c : α) : tc (some (decide P)) a b c = a := by simp [h]
@[simp] theorem tc_no {α : Type} {P : Prop} [Decidable P] (h : ¬P) (a b c : α) : tc (some (decide P)) a b c = b := by simp [h]
def gv (o : Option (Option W)) (h : Hp) : R W := match o with
  | some (some w) => .ok w h
  | _ => .bad
@[simp] theorem gv_s (w : W) (h : Hp) : gv (some (some w)) h = .ok w h := (rfl)
def nx (o : Option Env) (h : Hp) : RS := match o with
  | some r => .nxt r h
  | none => .bad
@[simp] theorem nx_s (r : Env) (h : Hp) : nx (some r) h = .nxt r h := (rfl)
def endB (n : Nat) (x : RS) : R W := match x with
  | .ret w h' => endCall false n w h'
  | .nxt _ h' => endCall false n .non h'
  | .exc e _ h' => .exc e (h'.take n)
  | _ => .bad
@[simp] theorem endB_r (n : Nat) (w : W) (h : Hp) : endB n (.ret w h) = endCall false n w h := (rfl)
@[simp] theorem endB_n (n : Nat) (r : Env) (h : Hp) : endB n (.nxt r h) = endCall false n .non h := (rfl)
@[simp] theorem ofR_ite {P : Prop} [Decidable P] (a b : R W) (r : Env) (f : W → Hp → RS) : ofR (if P then a else b) r f = if P then ofR a r f else ofR b r f := by split <;> rfl
@[simp] theorem bind_ite {α β : Type} {P : Prop} [Decidable P] (a b : R α) (f : α → Hp → R β) : (if P then a else b).bind f = if P then a.bind f else b.bind f := by split <;> rfl
theorem evC_run {T : List Def} {N d b k : Nat} {ws : List W} {h : Hp} {df : Def} (e : T[k]? = some df) (hl : ws.length = df.np) (hk : df.keep = false) :
    evC T N (d + 1) b k ws h = endB h.length (evB (evC T N d) N h.length df.body (ws.map some ++ List.replicate (df.names.length - df.np) none) h) := by
  show (match T[k]? with | none => R.bad | some df => _) = _
  rw [e]
  simp only [hl, if_true, hk]
  rfl
section
variable {call : Nat → Nat → List W → Hp → R W} {b N : Nat} {r : Env} {h : Hp}
@[simp] theorem e_var (i : Nat) : evE call b r (.var i) h = gv r[i]? h := by rw [evE]; rfl
@[simp] theorem e_cst (w : W) : evE call b r (.cst w) h = .ok w h := by rw [evE]
theorem e_pr_ (m : Bool) (p : Prim) (args : List Ex) : evE call b r (.pr m p args) h = (evEs call b r args h).bind fun ws h1 => runPrim m p ws h1 := by rw [evE]
theorem e_and_ (a c : Ex) : evE call b r (.and_ a c) h = (evE call b r a h).bind fun x h1 => tc (truthW h1 x) (evE call b r c h1) (.ok x h1) .bad := by rw [evE]; rfl
theorem e_or_ (a c : Ex) : evE call b r (.or_ a c) h = (evE call b r a h).bind fun x h1 => tc (truthW h1 x) (.ok x h1) (evE call b r c h1) .bad := by rw [evE]; rfl
theorem e_not_ (a : Ex) : evE call b r (.not_ a) h = (evE call b r a h).bind fun x h1 => R.ofO ((truthW h1 x).map fun k => .bl (!k)) h1 := by
  rw [evE]
  congr 1
  funext x h1
  cases truthW h1 x <;> rfl
theorem e_ite_ (c x y : Ex) : evE call b r (.ite c x y) h = (evE call b r c h).bind fun cw h1 => tc (truthW h1 cw) (evE call b r x h1) (evE call b r y h1) .bad := by rw [evE]; rfl
theorem e_call_ (k : Nat) (args : List Ex) : evE call b r (.call k args) h = (evEs call b r args h).bind fun ws h1 => call b k ws h1 := by rw [evE]
theorem e_mth_ (m : Mth) (o : Ex) (args : List Ex) : evE call b r (.mth m o args) h = (evE call b r o h).bind fun ow h1 => if recvOk m ow h1 = true then (evEs call b r args h1).bind fun ws h2 => runMth b m ow ws h2 else .bad := by rw [evE]
@[simp] theorem e_nil : evEs call b r [] h = .ok [] h := by rw [evEs]
theorem e_cons_ (e : Ex) (es : List Ex) : evEs call b r (e :: es) h = (evE call b r e h).bind fun w h1 => (evEs call b r es h1).bind fun ws h2 => .ok (w :: ws) h2 := by rw [evEs]
theorem s_asg_ (t : Tg) (e : Ex) : evS call N b (.asg t e) r h = ofR (evE call b r e h) r fun w h1 => nx (bindT t w r) h1 := by rw [evS]; rfl
theorem s_exp_ (e : Ex) : evS call N b (.exp e) r h = ofR (evE call b r e h) r fun _ h1 => .nxt r h1 := by rw [evS]
theorem s_ret_ (e : Ex) : evS call N b (.ret e) r h = ofR (evE call b r e h) r fun w h1 => .ret w h1 := by rw [evS]
theorem s_iff_ (c : Ex) (x y : List St) : evS call N b (.iff c x y) r h = ofR (evE call b r c h) r fun cw h1 => tc (truthW h1 cw) (evB call N b x r h1) (evB call N b y r h1) .bad := by rw [evS]; rfl
@[simp] theorem b_nil : evB call N b [] r h = .nxt r h := by rw [evB]
theorem b_cons_ (s : St) (ss : List St) : evB call N b (s :: ss) r h = (evS call N b s r h).andThen fun r1 h1 => evB call N b ss r1 h1 := by rw [evB]
end
@[simp] theorem bind_nm {i : Nat} {w : W} {r : Env} : bindT (.nm i) w r = if i < r.length then some (r.set i (some w)) else none := by rw [bindT]
@[simp] theorem rp_false (p : Prim) (ws : List W) (h : Hp) : runPrim false p ws h = R.ofO (primF p (if p.raw then ws else ws.map (deref h))) h := by
  unfold runPrim
  cases primF p (if p.raw then ws else ws.map (deref h)) <;> rfl
@[simp] theorem d_int (h : Hp) (i : Int) : deref h (.int i) = .int i := (rfl)
@[simp] theorem d_bl (h : Hp) (i : Bool) : deref h (.bl i) = .bl i := (rfl)
@[simp] theorem d_str (h : Hp) (i : Str) : deref h (.str i) = .str i := (rfl)
@[simp] theorem d_non (h : Hp) : deref h .non = .non := (rfl)
@[simp] theorem d_tup (h : Hp) (i : List W) : deref h (.tup i) = .tup i := (rfl)
@[simp] theorem d_lst (h : Hp) (i : List W) : deref h (.lst i) = .lst i := (rfl)
@[simp] theorem d_slst (h : Hp) (i : List W) : deref h (.slst i) = .slst i := (rfl)
theorem d_ref {h : Hp} {n : Nat} {ws : List W} (e : h[n]? = some (.lst ws)) : deref h (.ref n) = .lst ws := by simp only [deref, e]
section
@[simp] theorem w_add : Prim.raw .add = false := (rfl)
@[simp] theorem w_sub : Prim.raw .sub = false := (rfl)
@[simp] theorem w_mul : Prim.raw .mul = false := (rfl)
@[simp] theorem w_mod : Prim.raw .mod = false := (rfl)
@[simp] theorem w_fdiv : Prim.raw .fdiv = false := (rfl)
@[simp] theorem w_pow : Prim.raw .pow = false := (rfl)
@[simp] theorem w_eq : Prim.raw .eq = false := (rfl)
@[simp] theorem w_ne : Prim.raw .ne = false := (rfl)
@[simp] theorem w_lt : Prim.raw .lt = false := (rfl)
@[simp] theorem w_le : Prim.raw .le = false := (rfl)
@[simp] theorem w_gt : Prim.raw .gt = false := (rfl)
@[simp] theorem w_ge : Prim.raw .ge = false := (rfl)
@[simp] theorem w_mem : Prim.raw .mem = false := (rfl)
@[simp] theorem w_nmem : Prim.raw .nmem = false := (rfl)
@[simp] theorem w_idx : Prim.raw .idx = false := (rfl)
@[simp] theorem w_sl (a b : Bool) : Prim.raw (.sl a b) = false := (rfl)
@[simp] theorem w_len : Prim.raw .len = false := (rfl)
@[simp] theorem w_int1 : Prim.raw .int1 = false := (rfl)
@[simp] theorem w_abs : Prim.raw .abs = false := (rfl)
@[simp] theorem w_min2 : Prim.raw .min2 = false := (rfl)
@[simp] theorem w_max2 : Prim.raw .max2 = false := (rfl)
@[simp] theorem w_str1 : Prim.raw .str1 = false := (rfl)
@[simp] theorem w_list1 : Prim.raw .list1 = false := (rfl)
@[simp] theorem w_tuple1 : Prim.raw .tuple1 = false := (rfl)
@[simp] theorem w_sorted1 : Prim.raw .sorted1 = false := (rfl)
@[simp] theorem w_isi (T : Tk) : Prim.raw (.isi T) = false := (rfl)
@[simp] theorem w_tupd : Prim.raw .tupd = true := (rfl)
@[simp] theorem w_lstd : Prim.raw .lstd = true := (rfl)
@[simp] theorem w_isN : Prim.raw .isN = true := (rfl)
@[simp] theorem w_notN : Prim.raw .notN = true := (rfl)
end
@[simp] theorem p_eqi (a b : Int) : primF .eq [.int a, .int b] = some (.bl (decide (a = b))) := by
  have : pEq (.int a) (.int b) = some (decide (a = b)) := by
    simp only [pEq, eqOk, isD, toD]
    rw [if_pos (by rfl)]
    congr 1
  show (pEq (.int a) (.int b)).map W.bl = _
  rw [this]; rfl
@[simp] theorem p_eqs (a b : Str) : primF .eq [.str a, .str b] = some (.bl (decide (a = b))) := (rfl)
@[simp] theorem p_len (ws : List W) : primF .len [.lst ws] = some (.int ws.length) := (rfl)
@[simp] theorem p_lenT (ws : List W) : primF .len [.tup ws] = some (.int ws.length) := (rfl)
@[simp] theorem p_lenS (ws : List W) : primF .len [.slst ws] = some (.int ws.length) := (rfl)
@[simp] theorem p_int (i : Int) : primF .int1 [.int i] = some (.int i) := (rfl)
@[simp] theorem p_abs (i : Int) : primF .abs [.int i] = some (.int (if i < 0 then -i else i)) := (rfl)
@[simp] theorem p_add (i j : Int) : primF .add [.int i, .int j] = some (.int (i + j)) := (rfl)
@[simp] theorem p_sub (i j : Int) : primF .sub [.int i, .int j] = some (.int (i - j)) := (rfl)
theorem p_mod {i j : Int} (h : j ≠ 0) : primF .mod [.int i, .int j] = some (.int (i.fmod j)) := by
  show pMod (.int i) (.int j) = _
  simp [pMod, h]
@[simp] theorem p_lt (i j : Int) : primF .lt [.int i, .int j] = some (.bl (decide (i < j))) := (rfl)
@[simp] theorem p_le (i j : Int) : primF .le [.int i, .int j] = some (.bl (decide (i ≤ j))) := (rfl)
@[simp] theorem p_gt (i j : Int) : primF .gt [.int i, .int j] = some (.bl (decide (j < i))) := (rfl)
@[simp] theorem p_ge (i j : Int) : primF .ge [.int i, .int j] = some (.bl (decide (j ≤ i))) := (rfl)
@[simp] theorem t_bl (h : Hp) (k : Bool) : truthW h (.bl k) = some k := (rfl)
@[simp] theorem take_set {h : Hp} {n : Nat} {o : Obj} : (h.set n o).take h.length = h.set n o := List.take_of_length_le (by simp)
@[simp] theorem end_int {n : Nat} {i : Int} {h : Hp} : endCall false n (.int i) h = .ok (.int i) (h.take n) := by simp [endCall, below]

/-! loops -/
section
variable {body : W → Hp → R (Option W)} {keep : Hp → Prop}
open Classical in
theorem lc_nil (acc : List W) (h : Hp) : lcLoop body keep [] acc h = .ok acc h := by rw [lcLoop]
open Classical in
theorem lc_cons_some {x : W} {xs acc : List W} {h h1 : Hp} {y : W} (e : body x h = .ok (some y) h1) (k : keep h1) (z : acc.length < sizeLine) : lcLoop body keep (x :: xs) acc h = lcLoop body keep xs (acc ++ [y]) h1 := by
  rw [lcLoop, e]
  simp only [k, if_true, z]
open Classical in
theorem lc_cons_none {x : W} {xs acc : List W} {h h1 : Hp} (e : body x h = .ok none h1) (k : keep h1) : lcLoop body keep (x :: xs) acc h = lcLoop body keep xs acc h1 := by
  rw [lcLoop, e]
  simp only [k, if_true]
/-- a comprehension that changes the heap under an invariant -/
theorem lc_inv (P : Hp → Prop) (Qw : W → Prop) : ∀ (its acc : List W) (h : Hp), (∀ x ∈ its, ∀ h, P h → ∃ o h', body x h = .ok o h' ∧ keep h' ∧ P h' ∧ ∀ w, o = some w → Qw w) → P h → acc.length + its.length ≤ sizeLine →
    ∃ ys h', lcLoop body keep its acc h = .ok (acc ++ ys) h' ∧ P h' ∧ (∀ y ∈ ys, Qw y) ∧ ys.length ≤ its.length
  | [], acc, h, _, p, _ => ⟨[], h, by rw [lc_nil, List.append_nil], p, fun y hy => (by cases hy), Nat.le_refl _⟩
  | x :: its, acc, h, st, p, z => by
    obtain ⟨o, h1, e, k, p1, q⟩ := st x (List.mem_cons_self ..) h p
    rw [List.length_cons] at z
    cases o with
    | none =>
      obtain ⟨ys, h2, e2, p2, q2, l2⟩ := lc_inv P Qw its acc h1 (fun y hy => st y (List.mem_cons_of_mem _ hy)) p1 (by omega)
      exact ⟨ys, h2, by rw [lc_cons_none e k, e2], p2, q2, by rw [List.length_cons]; omega⟩
    | some w =>
      obtain ⟨ys, h2, e2, p2, q2, l2⟩ := lc_inv P Qw its (acc ++ [w]) h1 (fun y hy => st y (List.mem_cons_of_mem _ hy)) p1 (by rw [List.length_append, List.length_singleton]; omega)
      refine ⟨w :: ys, h2, by rw [lc_cons_some e k (by omega), e2, List.append_assoc]; rfl, p2, fun y hy => ?_, by rw [List.length_cons, List.length_cons]; omega⟩
      rcases List.mem_cons.mp hy with rfl | hy
      · exact q _ rfl
      · exact q2 y hy
/-- .. no test -/
theorem lc_invA (P : Hp → Prop) (Qw : W → Prop) : ∀ (its acc : List W) (h : Hp), (∀ x ∈ its, ∀ h, P h → ∃ w h', body x h = .ok (some w) h' ∧ keep h' ∧ P h' ∧ Qw w) → P h → acc.length + its.length ≤ sizeLine →
    ∃ ys h', lcLoop body keep its acc h = .ok (acc ++ ys) h' ∧ P h' ∧ (∀ y ∈ ys, Qw y) ∧ ys.length = its.length
  | [], acc, h, _, p, _ => ⟨[], h, by rw [lc_nil, List.append_nil], p, fun y hy => (by cases hy), rfl⟩
  | x :: its, acc, h, st, p, z => by
    obtain ⟨w, h1, e, k, p1, q⟩ := st x (List.mem_cons_self ..) h p
    rw [List.length_cons] at z
    obtain ⟨ys, h2, e2, p2, q2, l2⟩ := lc_invA P Qw its (acc ++ [w]) h1 (fun y hy => st y (List.mem_cons_of_mem _ hy)) p1 (by rw [List.length_append, List.length_singleton]; omega)
    refine ⟨w :: ys, h2, by rw [lc_cons_some e k (by omega), e2, List.append_assoc]; rfl, p2, fun y hy => ?_, by rw [List.length_cons, List.length_cons, l2]⟩
    rcases List.mem_cons.mp hy with rfl | hy
    · exact q
    · exact q2 y hy
/-- a comprehension that is a map -/
theorem lc_map (f : W → W) {h : Hp} (kp : keep h) : ∀ (its acc : List W), (∀ x ∈ its, body x h = .ok (some (f x)) h) → acc.length + its.length ≤ sizeLine → lcLoop body keep its acc h = .ok (acc ++ its.map f) h
  | [], acc, _, _ => by rw [lc_nil, List.map_nil, List.append_nil]
  | x :: its, acc, st, z => by
    rw [List.length_cons] at z
    rw [lc_cons_some (st x (List.mem_cons_self ..)) kp (by omega), lc_map f kp its (acc ++ [f x]) (fun y hy => st y (List.mem_cons_of_mem _ hy)) (by rw [List.length_append, List.length_singleton]; omega), List.append_assoc]
    rfl
/-- a comprehension that sorts out -/
theorem lc_filter (f : W → Option W) {h : Hp} (kp : keep h) : ∀ (its acc : List W), (∀ x ∈ its, body x h = .ok (f x) h) → acc.length + its.length ≤ sizeLine → lcLoop body keep its acc h = .ok (acc ++ its.filterMap f) h
  | [], acc, _, _ => by rw [lc_nil, List.filterMap_nil, List.append_nil]
  | x :: its, acc, st, z => by
    rw [List.length_cons] at z
    have e := st x (List.mem_cons_self ..)
    cases q : f x with
    | none =>
      rw [q] at e
      rw [lc_cons_none e kp, lc_filter f kp its acc (fun y hy => st y (List.mem_cons_of_mem _ hy)) (by omega), List.filterMap_cons_none q]
    | some y =>
      rw [q] at e
      rw [lc_cons_some e kp (by omega), lc_filter f kp its (acc ++ [y]) (fun y hy => st y (List.mem_cons_of_mem _ hy)) (by rw [List.length_append, List.length_singleton]; omega), List.append_assoc, List.filterMap_cons_some q]
      rfl
open Classical in
/-- .. the list an object -/
theorem lcM_nil (n : Nat) (acc : List W) (h : Hp) : lcLoopM body keep n [] acc h = .ok (.ref n) h := by rw [lcLoopM]
open Classical in
theorem lcM_cons_some {n : Nat} {x : W} {xs acc : List W} {h h1 : Hp} {y : W} (e : body x h = .ok (some y) h1) (k : keep h1) (hn : h1[n]? = some (.lst acc)) (z : acc.length < sizeLine) : lcLoopM body keep n (x :: xs) acc h = lcLoopM body keep n xs (acc ++ [y]) (h1.set n (.lst (acc ++ [y]))) := by
  rw [lcLoopM, e]
  simp only [k, hn, and_self, if_true, z]
open Classical in
theorem lcM_cons_none {n : Nat} {x : W} {xs acc : List W} {h h1 : Hp} (e : body x h = .ok none h1) (k : keep h1) (hn : h1[n]? = some (.lst acc)) : lcLoopM body keep n (x :: xs) acc h = lcLoopM body keep n xs acc h1 := by
  rw [lcLoopM, e]
  simp only [k, hn, and_self, if_true]
/-- a map, the list an object at the heap's end -/
theorem lcM_map (f : W → W) {h0 : Hp} (kp : ∀ a, keep (h0 ++ [.lst a])) : ∀ (its acc : List W), (∀ x ∈ its, ∀ a, body x (h0 ++ [.lst a]) = .ok (some (f x)) (h0 ++ [.lst a])) → acc.length + its.length ≤ sizeLine →
    lcLoopM body keep h0.length its acc (h0 ++ [.lst acc]) = .ok (.ref h0.length) (h0 ++ [.lst (acc ++ its.map f)])
  | [], acc, _, _ => by rw [lcM_nil, List.map_nil, List.append_nil]
  | x :: its, acc, st, z => by
    rw [List.length_cons] at z
    rw [lcM_cons_some (st x (List.mem_cons_self ..) acc) (kp acc) (by simp) (by omega)]
    rw [show (h0 ++ [Obj.lst acc]).set h0.length (.lst (acc ++ [f x])) = h0 ++ [.lst (acc ++ [f x])] by simp]
    rw [lcM_map f kp its (acc ++ [f x]) (fun y hy => st y (List.mem_cons_of_mem _ hy)) (by rw [List.length_append, List.length_singleton]; omega), List.append_assoc]
    rfl
end
section
variable {body : W → Env → Hp → RS} {kill : List Nat} {keep : Hp → Prop}
open Classical in
theorem for_nil (r : Env) (h : Hp) : forLoop body kill keep [] r h = .nxt (wipeE r kill) h := by rw [forLoop]
open Classical in
theorem for_nxt {x : W} {xs : List W} {r r1 : Env} {h h1 : Hp} (e : body x (wipeE r kill) h = .nxt r1 h1) (k : keep h1) : forLoop body kill keep (x :: xs) r h = forLoop body kill keep xs r1 h1 := by
  rw [forLoop, e]
  simp only [k, if_true]
/-- a for under an invariant of the slots and the heap (no break, no return) -/
theorem for_inv (P : Nat → Env → Hp → Prop) {n : Nat} : ∀ (its : List W) (i : Nat) (r : Env) (h : Hp), (∀ j x, its[j]? = some x → ∀ r h, P (i + j) r h → ∃ r' h', body x (wipeE r kill) h = .nxt r' h' ∧ keep h' ∧ P (i + j + 1) r' h') → P i r h → i + its.length = n →
    ∃ r' h', forLoop body kill keep its r h = .nxt (wipeE r' kill) h' ∧ P n r' h'
  | [], i, r, h, _, p, z => ⟨r, h, for_nil r h, by rw [← z]; exact p⟩
  | x :: its, i, r, h, st, p, z => by
    obtain ⟨r1, h1, e, k, p1⟩ := st 0 x rfl r h p
    obtain ⟨r2, h2, e2, p2⟩ := for_inv P (n := n) its (i + 1) r1 h1 (fun j y hy r h p => by
      have := st (j + 1) y hy r h (by rw [← Nat.add_assoc, Nat.add_right_comm]; exact p)
      rw [← Nat.add_assoc, Nat.add_right_comm i j 1] at this
      exact this) p1 (by rw [List.length_cons] at z; omega)
    exact ⟨r2, h2, by rw [for_nxt e k, e2], p2⟩
end
@[simp] theorem wipe_nil (r : Env) : wipeE r [] = r := (rfl)
@[simp] theorem wipe_cons (r : Env) (i : Nat) (is : List Nat) : wipeE r (i :: is) = (wipeE r is).set i none := (rfl)
section
variable {call : Nat → Nat → List W → Hp → R W} {b N : Nat} {r : Env} {h : Hp}
theorem e_lcF_ (t : Tg) (k : ItK) (srcs tests : List Ex) (e : Ex) : evE call b r (.lc false t k srcs tests e) h = (evEs call b r srcs h).bind fun ws h1 => match itemsOf k (ws.map (deref h1)) with
    | none => .bad
    | some its => (lcLoop (lcB call b r t tests e) (fun h2 => sameAt h1 h2 ws) its [] h1).bind fun ys h2 => .ok (.lst ys) h2 := by
  rw [evE]
  rfl
theorem e_lcT_ (t : Tg) (k : ItK) (srcs tests : List Ex) (e : Ex) : evE call b r (.lc true t k srcs tests e) h = (evEs call b r srcs h).bind fun ws h1 => match itemsOf k (ws.map (deref h1)) with
    | none => .bad
    | some its => lcLoopM (lcB call b r t tests e) (fun h2 => sameAt h1 h2 ws) h1.length its [] (h1 ++ [.lst []]) := by
  rw [evE]
  rfl
noncomputable def forB (call : Nat → Nat → List W → Hp → R W) (N b : Nat) (t : Tg) (body : List St) : W → Env → Hp → RS := fun x r2 h2 => match bindT t x r2 with
  | none => .bad
  | some r3 => evB call N b body r3 h2
theorem s_for_ (t : Tg) (k : ItK) (srcs : List Ex) (kill : List Nat) (body : List St) : evS call N b (.forr false t k srcs kill body) r h = ofRs (evEs call b r srcs h) r fun ws h1 => match itemsOf k (ws.map (deref h1)) with
    | none => .bad
    | some its => forLoop (forB call N b t body) kill (fun h2 => sameAt h1 h2 ws) its r h1 := by
  rw [evS]
  rfl
end
theorem lcB_nil {call : Nat → Nat → List W → Hp → R W} {b : Nat} {ρ : Env} {t : Tg} {e : Ex} {w : W} {h : Hp} {r2 : Env} (hb : bindT t w (wipeE ρ t.names) = some r2) : lcB call b ρ t [] e w h = (evE call b r2 e h).bind fun y h3 => .ok (some y) h3 := by
  unfold lcB
  rw [hb]
theorem lcB_one {call : Nat → Nat → List W → Hp → R W} {b : Nat} {ρ : Env} {t : Tg} {c e : Ex} {w : W} {h : Hp} {r2 : Env} (hb : bindT t w (wipeE ρ t.names) = some r2) : lcB call b ρ t [c] e w h = (evE call b r2 c h).bind fun cw h3 => tc (truthW h3 cw) ((evE call b r2 e h3).bind fun y h4 => .ok (some y) h4) (.ok none h3) .bad := by
  unfold lcB
  rw [hb]
  rfl

theorem fmod_pos {a m : Int} (hm : 0 < m) : 0 ≤ a.fmod m ∧ a.fmod m < m := ⟨Int.fmod_nonneg_of_pos a hm, Int.fmod_lt_of_pos a hm⟩
/-- a def that is such a one -/
structure Is (T : List Def) (k np nn : Nat) (body : List St) : Prop where
  ex : ∃ df, T[k]? = some df ∧ df.np = np ∧ df.names.length = nn ∧ df.keep = false ∧ df.body = body
theorem Is.run {T : List Def} {k np nn : Nat} {body : List St} (i : Is T k np nn body) {N d b : Nat} {ws : List W} {h : Hp} (hl : ws.length = np) :
    evC T N (d + 1) b k ws h = endB h.length (evB (evC T N d) N h.length body (ws.map some ++ List.replicate (nn - np) none) h) := by
  obtain ⟨df, e, e1, e2, e3, e4⟩ := i.ex
  rw [evC_run e (by rw [e1]; exact hl) e3, e4, e1, e2]
theorem p_mul {a b : Int} (h : small64 a || small64 b) : primF .mul [.int a, .int b] = some (.int (a * b)) := by
  show pMul (.int a) (.int b) = _
  simp only [pMul, h, if_true]
theorem p_fdiv {a b : Int} (h : b ≠ 0 ∧ b.natAbs < 1073741824) : primF .fdiv [.int a, .int b] = some (.int (a.fdiv b)) := by
  show pFdiv (.int a) (.int b) = _
  simp only [pFdiv, h, and_self, if_true, ne_eq, not_false_eq_true]
theorem p_pow {a b : Int} (h : 0 ≤ b ∧ b ≤ 1000000 ∧ a.natAbs < 2 ^ 64) : primF .pow [.int a, .int b] = some (.int (a ^ b.toNat)) := by
  show pPow (.int a) (.int b) = _
  simp only [pPow, h, and_self, if_true]
theorem ixOf_ok {n : Nat} {i : Int} (h0 : 0 ≤ i) (h1 : i < n) : ixOf n i = some i.toNat := by
  unfold ixOf L2.ixN
  rw [if_pos h0, if_pos h1]
theorem atW_ok {ws : List W} {i : Int} (h0 : 0 ≤ i) (h1 : i < ws.length) : atW ws i = ws[i.toNat]? := by
  unfold atW L2.atI
  have := ixOf_ok h0 h1
  unfold ixOf at this
  rw [this]; rfl
theorem p_idxL {ws : List W} {i : Int} (h0 : 0 ≤ i) (h1 : i < ws.length) : primF .idx [.lst ws, .int i] = ws[i.toNat]? := atW_ok h0 h1
theorem p_idxT {ws : List W} {i : Int} (h0 : 0 ≤ i) (h1 : i < ws.length) : primF .idx [.tup ws, .int i] = ws[i.toNat]? := atW_ok h0 h1
theorem p_idxS {ws : List W} {i : Int} (h0 : 0 ≤ i) (h1 : i < ws.length) : primF .idx [.slst ws, .int i] = ws[i.toNat]? := atW_ok h0 h1
theorem iv_get {ds : List Int} {i : Nat} (h : i < ds.length) : (iv ds)[i]? = some (.int ds[i]) := by
  unfold iv
  rw [List.getElem?_map, List.getElem?_eq_getElem h]
  rfl
theorem rp_lstd {ws : List W} {h : Hp} (z : ws.length ≤ sizeLine) : runPrim true .lstd ws h = .ok (.ref h.length) (h ++ [.lst ws]) := by
  unfold runPrim
  simp [primF, okLen, z, Prim.fresh, newObj]
theorem rp_list1 {w : W} {ws : List W} {h : Hp} (e : items (deref h w) = some ws) : runPrim true .list1 [w] h = .ok (.ref h.length) (h ++ [.lst ws]) := by
  unfold runPrim
  have : primF .list1 [deref h w] = some (.lst ws) := by
    show (items (deref h w)).map W.lst = _
    rw [e]; rfl
  simp [this, Prim.fresh, newObj]
theorem mayPut_int {b n : Nat} {i : Int} : mayPut b n (.int i) = true := by simp [mayPut, below]
theorem below_iv {n : Nat} : ∀ ds : List Int, belowL n (iv ds) = true
  | [] => by simp [belowL]
  | d :: ds => by
    have := below_iv (n := n) ds
    simpa [belowL, below] using this
/-- methods over the heap -/
theorem app_ok {b n : Nat} {x : W} {h : Hp} {ws : List W} (e : h[n]? = some (.lst ws)) (m : mayPut b n x = true) (z : ws.length < sizeLine) : runMth b .append (.ref n) [x] h = .ok .non (h.set n (.lst (ws ++ [x]))) := by
  simp only [runMth, e, m, z, decide_true, Bool.and_self, if_true]
theorem recv_l {m : Mth} {n : Nat} {h : Hp} {ws : List W} (e : h[n]? = some (.lst ws)) (hm : m ≠ .join) : recvOk m (.ref n) h = true := by
  cases m <;> first | exact absurd rfl hm | simp only [recvOk, e]
noncomputable def setW (b : Nat) (r : Env) (w : W) (ow iw : W) (h3 : Hp) : RS := match ow, iw with
  | .ref n, .int k => match h3[n]? with
    | some (.lst ws) => match ixOf ws.length k with
      | some j => if mayPut b n w then .nxt r (h3.set n (.lst (ws.set j w))) else .bad
      | none => .bad
    | _ => .bad
  | _, _ => .bad
theorem s_seti_ {call : Nat → Nat → List W → Hp → R W} {b N : Nat} {r : Env} {h : Hp} (o i e : Ex) : evS call N b (.seti o i e) r h = ofR (evE call b r e h) r fun w h1 => ofR (evE call b r o h1) r fun ow h2 => ofR (evE call b r i h2) r fun iw h3 => setW b r w ow iw h3 := by
  rw [evS]
  rfl
theorem set_ok {b n : Nat} {r : Env} {w : W} {h : Hp} {ws : List W} {k : Int} (e : h[n]? = some (.lst ws)) (h0 : 0 ≤ k) (h1 : k < ws.length) (m : mayPut b n w = true) : setW b r w (.ref n) (.int k) h = .nxt r (h.set n (.lst (ws.set k.toNat w))) := by
  simp only [setW, e, ixOf_ok h0 h1, m, if_true]
theorem size_big : 100000 < sizeLine := by rw [sizeLine_eq]; decide

theorem pow18 : primF .pow [.int 10, .int 18] = some (.int 1000000000000000000) := by
  rw [p_pow ⟨by omega, by omega, by omega⟩]
  rfl
end Ow

/-! N1: the evaluator as a machine of steps: what follows a step is kept as it is written. -/
namespace Ow
open PySem

/-! ### what follows, by name -/
section
variable (call : Nat → Nat → List W → Hp → R W) (N b : Nat)
noncomputable def kPr (m : Bool) (p : Prim) : R (List W) → R W := fun x => x.bind fun ws h1 => runPrim m p ws h1
noncomputable def kCons2 (w : W) : R (List W) → R (List W) := fun x => x.bind fun ws h2 => .ok (w :: ws) h2
noncomputable def kCons (r : Env) (es : List Ex) : R W → R (List W) := fun x => x.bind fun w h1 => kCons2 w (evEs call b r es h1)
noncomputable def kAnd0 (r : Env) (c : Ex) (x : W) (h1 : Hp) (o : Option Bool) : R W := tc o (evE call b r c h1) (.ok x h1) .bad
noncomputable def kOr0 (r : Env) (c : Ex) (x : W) (h1 : Hp) (o : Option Bool) : R W := tc o (.ok x h1) (evE call b r c h1) .bad
noncomputable def kIte0 (r : Env) (x y : Ex) (h1 : Hp) (o : Option Bool) : R W := tc o (evE call b r x h1) (evE call b r y h1) .bad
noncomputable def kAnd (r : Env) (c : Ex) : R W → R W := fun q => q.bind fun x h1 => kAnd0 call b r c x h1 (truthW h1 x)
noncomputable def kOr (r : Env) (c : Ex) : R W → R W := fun q => q.bind fun x h1 => kOr0 call b r c x h1 (truthW h1 x)
noncomputable def kNot : R W → R W := fun q => q.bind fun x h1 => R.ofO ((truthW h1 x).map fun k => .bl (!k)) h1
noncomputable def kIte (r : Env) (x y : Ex) : R W → R W := fun q => q.bind fun c h1 => kIte0 call b r x y h1 (truthW h1 c)
noncomputable def kCall (k : Nat) : R (List W) → R W := fun x => x.bind fun ws h1 => call b k ws h1
noncomputable def kMth2 (m : Mth) (ow : W) : R (List W) → R W := fun x => x.bind fun ws h2 => runMth b m ow ws h2
noncomputable def kMth1 (r : Env) (m : Mth) (ow : W) (args : List Ex) (h1 : Hp) (o : Bool) : R W := if o = true then kMth2 b m ow (evEs call b r args h1) else .bad
noncomputable def kMth (r : Env) (m : Mth) (args : List Ex) : R W → R W := fun x => x.bind fun ow h1 => kMth1 call b r m ow args h1 (recvOk m ow h1)
noncomputable def lcGo (r : Env) (t : Tg) (tests : List Ex) (e : Ex) (ws : List W) (h1 : Hp) (its : List W) : R (List W) := lcLoop (lcB call b r t tests e) (fun h2 => sameAt h1 h2 ws) its [] h1
noncomputable def kLst : R (List W) → R W := fun x => x.bind fun ys h2 => .ok (.lst ys) h2
noncomputable def kLc0 (r : Env) (t : Tg) (tests : List Ex) (e : Ex) (ws : List W) (h1 : Hp) (o : Option (List W)) : R W := match o with
  | none => .bad
  | some its => kLst (lcGo call b r t tests e ws h1 its)
noncomputable def kLc (r : Env) (t : Tg) (k : ItK) (tests : List Ex) (e : Ex) : R (List W) → R W := fun x => x.bind fun ws h1 => kLc0 call b r t tests e ws h1 (itemsOf k (ws.map (deref h1)))
noncomputable def lcGoM (r : Env) (t : Tg) (tests : List Ex) (e : Ex) (ws : List W) (h1 : Hp) (its : List W) : R W := lcLoopM (lcB call b r t tests e) (fun h2 => sameAt h1 h2 ws) h1.length its [] (h1 ++ [.lst []])
noncomputable def kLcM0 (r : Env) (t : Tg) (tests : List Ex) (e : Ex) (ws : List W) (h1 : Hp) (o : Option (List W)) : R W := match o with
  | none => .bad
  | some its => lcGoM call b r t tests e ws h1 its
noncomputable def kLcM (r : Env) (t : Tg) (k : ItK) (tests : List Ex) (e : Ex) : R (List W) → R W := fun x => x.bind fun ws h1 => kLcM0 call b r t tests e ws h1 (itemsOf k (ws.map (deref h1)))
noncomputable def kFrz : R W → R W := fun x => x.bind fun w h1 => match w with
    | .ref n => match h1[n]? with
      | some (.lst ws) => .ok (.lst ws) (h1.set n .dead)
      | some (.dic ks vs) => .ok (.dic ks vs) (h1.set n .dead)
      | _ => .bad
    | _ => .bad
noncomputable def kAsg (t : Tg) (r : Env) : R W → RS := fun x => ofR x r fun w h1 => nx (bindT t w r) h1
noncomputable def kAug0 (i : Nat) (r : Env) (h : Hp) (o : Option W) : RS := match o with
  | some z => .nxt (r.set i (some z)) h
  | none => .bad
noncomputable def kAug (i : Nat) (p : Prim) (r : Env) (x : W) : R W → RS := fun q => ofR q r fun y h1 => kAug0 i r h1 (augP p x y)
noncomputable def kAug1 (i : Nat) (p : Prim) (e : Ex) (r : Env) (h : Hp) (o : Option (Option W)) : RS := match o with
  | some (some x) => kAug i p r x (evE call b r e h)
  | _ => .bad
noncomputable def kSet3 (r : Env) (w ow : W) : R W → RS := fun x => ofR x r fun iw h3 => setW b r w ow iw h3
noncomputable def kSet2 (i : Ex) (r : Env) (w : W) : R W → RS := fun x => ofR x r fun ow h2 => kSet3 b r w ow (evE call b r i h2)
noncomputable def kSet1 (o i : Ex) (r : Env) : R W → RS := fun x => ofR x r fun w h1 => kSet2 call b i r w (evE call b r o h1)
noncomputable def kExp (r : Env) : R W → RS := fun x => ofR x r fun _ h1 => .nxt r h1
noncomputable def kRet (r : Env) : R W → RS := fun x => ofR x r fun w h1 => .ret w h1
noncomputable def kIf0 (x y : List St) (r : Env) (h1 : Hp) (o : Option Bool) : RS := tc o (evB call N b x r h1) (evB call N b y r h1) .bad
noncomputable def kIf (x y : List St) (r : Env) : R W → RS := fun q => ofR q r fun c h1 => kIf0 call N b x y r h1 (truthW h1 c)
noncomputable def kThen (ss : List St) : RS → RS := fun x => x.andThen fun r1 h1 => evB call N b ss r1 h1
noncomputable def forGo (t : Tg) (kill : List Nat) (body : List St) (ws : List W) (h1 : Hp) (its : List W) (r : Env) (h : Hp) : RS := forLoop (forB call N b t body) kill (fun h2 => sameAt h1 h2 ws) its r h
noncomputable def kFor0 (t : Tg) (kill : List Nat) (body : List St) (r : Env) (ws : List W) (h1 : Hp) (o : Option (List W)) : RS := match o with
  | none => .bad
  | some its => forGo call N b t kill body ws h1 its r h1
noncomputable def kFor (t : Tg) (k : ItK) (kill : List Nat) (body : List St) (r : Env) : R (List W) → RS := fun x => ofRs x r fun ws h1 => kFor0 call N b t kill body r ws h1 (itemsOf k (ws.map (deref h1)))
noncomputable def whGo (c : Ex) (kill : List Nat) (body : List St) (r : Env) (h : Hp) : RS := whileLoop (fun r2 h2 => evE call b r2 c h2) (fun r2 h2 => evB call N b body r2 h2) kill N r h
end
section
variable {call : Nat → Nat → List W → Hp → R W} {N b : Nat} {r : Env} {h : Hp} {w : W} {ws : List W} {x : W}
@[simp] theorem kPr_ok {m p} : kPr m p (.ok ws h) = runPrim m p ws h := (rfl)
@[simp] theorem kCons2_ok : kCons2 w (.ok ws h) = .ok (w :: ws) h := (rfl)
@[simp] theorem kCons_ok {es} : kCons call b r es (.ok w h) = kCons2 w (evEs call b r es h) := (rfl)
@[simp] theorem kAnd_ok {c} : kAnd call b r c (.ok x h) = kAnd0 call b r c x h (truthW h x) := (rfl)
@[simp] theorem kAnd0_t {c} : kAnd0 call b r c x h (some true) = evE call b r c h := (rfl)
@[simp] theorem kAnd0_f {c} : kAnd0 call b r c x h (some false) = .ok x h := (rfl)
@[simp] theorem kOr_ok {c} : kOr call b r c (.ok x h) = kOr0 call b r c x h (truthW h x) := (rfl)
@[simp] theorem kOr0_t {c} : kOr0 call b r c x h (some true) = .ok x h := (rfl)
@[simp] theorem kOr0_f {c} : kOr0 call b r c x h (some false) = evE call b r c h := (rfl)
@[simp] theorem kNot_ok : kNot (.ok x h) = R.ofO ((truthW h x).map fun k => .bl (!k)) h := (rfl)
@[simp] theorem kIte_ok {c e} : kIte call b r c e (.ok x h) = kIte0 call b r c e h (truthW h x) := (rfl)
@[simp] theorem kIte0_t {c e} : kIte0 call b r c e h (some true) = evE call b r c h := (rfl)
@[simp] theorem kIte0_f {c e} : kIte0 call b r c e h (some false) = evE call b r e h := (rfl)
@[simp] theorem kCall_ok {k} : kCall call b k (.ok ws h) = call b k ws h := (rfl)
@[simp] theorem kMth2_ok {m} : kMth2 b m x (.ok ws h) = runMth b m x ws h := (rfl)
@[simp] theorem kMth1_t {m es} : kMth1 call b r m x es h true = kMth2 b m x (evEs call b r es h) := (rfl)
@[simp] theorem kMth_ok {m es} : kMth call b r m es (.ok x h) = kMth1 call b r m x es h (recvOk m x h) := (rfl)
@[simp] theorem kLst_ok : kLst (.ok ws h) = .ok (.lst ws) h := (rfl)
@[simp] theorem kLc0_s {t tests e us} : kLc0 call b r t tests e us h (some ws) = kLst (lcGo call b r t tests e us h ws) := (rfl)
@[simp] theorem kLc_ok {t k tests e} : kLc call b r t k tests e (.ok ws h) = kLc0 call b r t tests e ws h (itemsOf k (ws.map (deref h))) := (rfl)
@[simp] theorem kLcM0_s {t tests e us} : kLcM0 call b r t tests e us h (some ws) = lcGoM call b r t tests e us h ws := (rfl)
@[simp] theorem kLcM_ok {t k tests e} : kLcM call b r t k tests e (.ok ws h) = kLcM0 call b r t tests e ws h (itemsOf k (ws.map (deref h))) := (rfl)
@[simp] theorem kAsg_ok {t} : kAsg t r (.ok w h) = nx (bindT t w r) h := (rfl)
@[simp] theorem kAug0_s {i z} : kAug0 i r h (some z) = .nxt (r.set i (some z)) h := (rfl)
@[simp] theorem kAug_ok {i p} : kAug i p r x (.ok w h) = kAug0 i r h (augP p x w) := (rfl)
@[simp] theorem kAug1_s {i p e} : kAug1 call b i p e r h (some (some x)) = kAug i p r x (evE call b r e h) := (rfl)
@[simp] theorem kSet3_ok {y} : kSet3 b r w y (.ok x h) = setW b r w y x h := (rfl)
@[simp] theorem kSet2_ok {i} : kSet2 call b i r w (.ok x h) = kSet3 b r w x (evE call b r i h) := (rfl)
@[simp] theorem kSet1_ok {o i} : kSet1 call b o i r (.ok w h) = kSet2 call b i r w (evE call b r o h) := (rfl)
@[simp] theorem kExp_ok : kExp r (.ok w h) = .nxt r h := (rfl)
@[simp] theorem kRet_ok : kRet r (.ok w h) = .ret w h := (rfl)
@[simp] theorem kIf0_t {x y} : kIf0 call N b x y r h (some true) = evB call N b x r h := (rfl)
@[simp] theorem kIf0_f {x y} : kIf0 call N b x y r h (some false) = evB call N b y r h := (rfl)
@[simp] theorem kIf_ok {x y} : kIf call N b x y r (.ok w h) = kIf0 call N b x y r h (truthW h w) := (rfl)
@[simp] theorem kThen_nxt {ss} : kThen call N b ss (.nxt r h) = evB call N b ss r h := (rfl)
@[simp] theorem kThen_ret {ss} : kThen call N b ss (.ret w h) = .ret w h := (rfl)
@[simp] theorem kThen_brk {ss} : kThen call N b ss (.brk r h) = .brk r h := (rfl)
@[simp] theorem kThen_cnt {ss} : kThen call N b ss (.cnt r h) = .cnt r h := (rfl)
@[simp] theorem kFor0_s {t kill body us} : kFor0 call N b t kill body r us h (some ws) = forGo call N b t kill body us h ws r h := (rfl)
@[simp] theorem kFor_ok {t k kill body} : kFor call N b t k kill body r (.ok ws h) = kFor0 call N b t kill body r ws h (itemsOf k (ws.map (deref h))) := (rfl)

@[simp] theorem e_pr (m : Bool) (p : Prim) (args : List Ex) : evE call b r (.pr m p args) h = kPr m p (evEs call b r args h) := e_pr_ m p args
@[simp] theorem e_and (a c : Ex) : evE call b r (.and_ a c) h = kAnd call b r c (evE call b r a h) := e_and_ a c
@[simp] theorem e_or (a c : Ex) : evE call b r (.or_ a c) h = kOr call b r c (evE call b r a h) := e_or_ a c
@[simp] theorem e_not (a : Ex) : evE call b r (.not_ a) h = kNot (evE call b r a h) := e_not_ a
@[simp] theorem e_ite (c x y : Ex) : evE call b r (.ite c x y) h = kIte call b r x y (evE call b r c h) := e_ite_ c x y
@[simp] theorem e_call (k : Nat) (args : List Ex) : evE call b r (.call k args) h = kCall call b k (evEs call b r args h) := e_call_ k args
@[simp] theorem e_mth (m : Mth) (o : Ex) (args : List Ex) : evE call b r (.mth m o args) h = kMth call b r m args (evE call b r o h) := e_mth_ m o args
@[simp] theorem e_cons (e : Ex) (es : List Ex) : evEs call b r (e :: es) h = kCons call b r es (evE call b r e h) := e_cons_ e es
@[simp] theorem e_lcF (t : Tg) (k : ItK) (srcs tests : List Ex) (e : Ex) : evE call b r (.lc false t k srcs tests e) h = kLc call b r t k tests e (evEs call b r srcs h) := by
  rw [e_lcF_]
  unfold kLc
  congr 1
@[simp] theorem e_lcT (t : Tg) (k : ItK) (srcs tests : List Ex) (e : Ex) : evE call b r (.lc true t k srcs tests e) h = kLcM call b r t k tests e (evEs call b r srcs h) := by
  rw [e_lcT_]
  unfold kLcM
  congr 1
@[simp] theorem e_frz (e : Ex) : evE call b r (.frz e) h = kFrz (evE call b r e h) := by rw [evE]; rfl
@[simp] theorem s_asg (t : Tg) (e : Ex) : evS call N b (.asg t e) r h = kAsg t r (evE call b r e h) := s_asg_ t e
@[simp] theorem s_aug (i : Nat) (p : Prim) (e : Ex) : evS call N b (.aug i p e) r h = kAug1 call b i p e r h r[i]? := by
  rw [evS]
  unfold kAug1
  rcases r[i]? with _ | _ | x <;> rfl
@[simp] theorem s_seti (o i e : Ex) : evS call N b (.seti o i e) r h = kSet1 call b o i r (evE call b r e h) := s_seti_ o i e
@[simp] theorem s_exp (e : Ex) : evS call N b (.exp e) r h = kExp r (evE call b r e h) := s_exp_ e
@[simp] theorem s_ret (e : Ex) : evS call N b (.ret e) r h = kRet r (evE call b r e h) := s_ret_ e
@[simp] theorem s_iff (c : Ex) (x y : List St) : evS call N b (.iff c x y) r h = kIf call N b x y r (evE call b r c h) := s_iff_ c x y
@[simp] theorem s_for (t : Tg) (k : ItK) (srcs : List Ex) (kill : List Nat) (body : List St) : evS call N b (.forr false t k srcs kill body) r h = kFor call N b t k kill body r (evEs call b r srcs h) := by
  rw [s_for_]
  unfold kFor
  congr 1
@[simp] theorem s_whl (c : Ex) (kill : List Nat) (body : List St) : evS call N b (.whl c kill body) r h = whGo call N b c kill body r h := by rw [evS]; rfl
@[simp] theorem s_brk : evS call N b .brk r h = .brk r h := by rw [evS]
@[simp] theorem s_cnt : evS call N b .cnt r h = .cnt r h := by rw [evS]
@[simp] theorem s_pass : evS call N b .pass r h = .nxt r h := by rw [evS]
@[simp] theorem b_cons (s : St) (ss : List St) : evB call N b (s :: ss) r h = kThen call N b ss (evS call N b s r h) := b_cons_ s ss
end
end Ow

/-! N2: heaps, primitives, loops as rules. -/
namespace Ow
open PySem

/-! ### reads of the heap -/
def drf (o : Option Obj) (n : Nat) : W := match o with
  | some (.lst ws) => .lst ws
  | some (.dic ks vs) => .dic ks vs
  | _ => .ref n
@[simp] theorem drf_l (ws : List W) (n : Nat) : drf (some (.lst ws)) n = .lst ws := (rfl)
@[simp] theorem deref_ref (h : Hp) (n : Nat) : deref h (.ref n) = drf h[n]? n := by
  unfold deref drf
  rfl
def isL (o : Option Obj) : Bool := match o with
  | some (.lst _) => true
  | _ => false
@[simp] theorem isL_l (ws : List W) : isL (some (.lst ws)) = true := (rfl)
section
variable {h : Hp} {n b : Nat} {x : W} {ws : List W} {i : Int} {z : Str}
@[simp] theorem rc_append : recvOk .append (.ref n) h = isL h[n]? := by simp only [recvOk]; rfl
@[simp] theorem rc_pop : recvOk .pop (.ref n) h = isL h[n]? := by simp only [recvOk]; rfl
@[simp] theorem rc_popAt : recvOk .popAt (.ref n) h = isL h[n]? := by simp only [recvOk]; rfl
@[simp] theorem rc_insert : recvOk .insert (.ref n) h = isL h[n]? := by simp only [recvOk]; rfl
@[simp] theorem rc_reverse : recvOk .reverse (.ref n) h = isL h[n]? := by simp only [recvOk]; rfl
@[simp] theorem rc_join : recvOk .join (.str z) h = true := (rfl)
def mApp (b n : Nat) (x : W) (h : Hp) (o : Option Obj) : R W := match o with
  | some (.lst ws) => if mayPut b n x && decide (ws.length < sizeLine) then .ok .non (h.set n (.lst (ws ++ [x]))) else .bad
  | _ => .bad
@[simp] theorem m_app : runMth b .append (.ref n) [x] h = mApp b n x h h[n]? := by
  simp only [runMth, mApp] <;> rfl
@[simp] theorem mApp_l : mApp b n x h (some (.lst ws)) = if mayPut b n x && decide (ws.length < sizeLine) then .ok .non (h.set n (.lst (ws ++ [x]))) else .bad := (rfl)
def mPop (n : Nat) (h : Hp) (o : Option Obj) : R W := match o with
  | some (.lst ws) => match ws.getLast? with
      | some x => .ok x (h.set n (.lst ws.dropLast))
      | none => .bad
  | _ => .bad
@[simp] theorem m_pop : runMth b .pop (.ref n) [] h = mPop n h h[n]? := by
  simp only [runMth, mPop] <;> rfl
def mIns (b n : Nat) (i : Int) (x : W) (h : Hp) (o : Option Obj) : R W := match o with
  | some (.lst ws) => if mayPut b n x && decide (ws.length < sizeLine) && decide (0 ≤ i ∧ i ≤ ws.length) then .ok .non (h.set n (.lst (ws.take i.toNat ++ x :: ws.drop i.toNat))) else .bad
  | _ => .bad
@[simp] theorem m_ins : runMth b .insert (.ref n) [.int i, x] h = mIns b n i x h h[n]? := by
  simp only [runMth, mIns] <;> rfl
@[simp] theorem mIns_l : mIns b n i x h (some (.lst ws)) = if mayPut b n x && decide (ws.length < sizeLine) && decide (0 ≤ i ∧ i ≤ ws.length) then .ok .non (h.set n (.lst (ws.take i.toNat ++ x :: ws.drop i.toNat))) else .bad := (rfl)
def mRev (n : Nat) (h : Hp) (o : Option Obj) : R W := match o with
  | some (.lst ws) => .ok .non (h.set n (.lst ws.reverse))
  | _ => .bad
@[simp] theorem m_rev : runMth b .reverse (.ref n) [] h = mRev n h h[n]? := by
  simp only [runMth, mRev] <;> rfl
@[simp] theorem mRev_l : mRev n h (some (.lst ws)) = .ok .non (h.set n (.lst ws.reverse)) := (rfl)
@[simp] theorem m_join : runMth b .join (.str z) [x] h = R.ofO ((items (deref h x)).bind (pJoin z)) h := by
  simp only [runMth]
  cases (items (deref h x)).bind (pJoin z) <;> rfl
/-- a new list that may be changed -/
def nObj (h : Hp) (o : Option W) : R W := match o with
  | some (.lst ws) => .ok (.ref h.length) (h ++ [.lst ws])
  | some (.dic ks vs) => .ok (.ref h.length) (h ++ [.dic ks vs])
  | _ => .bad
@[simp] theorem nObj_l : nObj h (some (.lst ws)) = .ok (.ref h.length) (h ++ [.lst ws]) := (rfl)
theorem rp_true {p : Prim} (f : p.fresh = true) : runPrim true p ws h = nObj h (primF p (if p.raw then ws else ws.map (deref h))) := by
  unfold runPrim nObj
  generalize primF p (if p.raw then ws else ws.map (deref h)) = o
  cases o with
  | none => rfl
  | some w => simp only [f, if_true]; cases w <;> rfl
@[simp] theorem rp_lstdT : runPrim true .lstd ws h = nObj h (primF .lstd ws) := rp_true rfl
@[simp] theorem rp_list1T : runPrim true .list1 ws h = nObj h (primF .list1 (ws.map (deref h))) := rp_true rfl
@[simp] theorem rp_sorted1T : runPrim true .sorted1 ws h = nObj h (primF .sorted1 (ws.map (deref h))) := rp_true rfl
@[simp] theorem rp_addT : runPrim true .add ws h = nObj h (primF .add (ws.map (deref h))) := rp_true rfl
@[simp] theorem rp_mulT : runPrim true .mul ws h = nObj h (primF .mul (ws.map (deref h))) := rp_true rfl
@[simp] theorem rp_rangeLT : runPrim true .rangeL ws h = nObj h (primF .rangeL (ws.map (deref h))) := rp_true rfl
@[simp] theorem rp_slT {a c : Bool} : runPrim true (.sl a c) ws h = nObj h (primF (.sl a c) (ws.map (deref h))) := rp_true rfl
end

def sW (b : Nat) (r : Env) (w : W) (n : Nat) (k : Int) (h : Hp) (o : Option Obj) : RS := match o with
  | some (.lst ws) => match ixOf ws.length k with
    | some j => if mayPut b n w then .nxt r (h.set n (.lst (ws.set j w))) else .bad
    | none => .bad
  | _ => .bad
@[simp] theorem setW_m {b n : Nat} {r : Env} {w : W} {k : Int} {h : Hp} : setW b r w (.ref n) (.int k) h = sW b r w n k h h[n]? := by
  unfold setW sW
  rfl
@[simp] theorem sW_l {b n j : Nat} {r : Env} {w : W} {h : Hp} {ws : List W} : sW b r w n (j : Int) h (some (.lst ws)) = if j < ws.length then (if mayPut b n w then .nxt r (h.set n (.lst (ws.set j w))) else .bad) else .bad := by
  unfold sW
  by_cases hj : j < ws.length
  · have := ixOf_ok (n := ws.length) (i := (j : Int)) (by omega) (by omega)
    rw [Int.toNat_natCast] at this
    simp only [this, hj, if_true]
  · have : ixOf ws.length (j : Int) = none := by
      unfold ixOf L2.ixN
      rw [if_pos (by omega), if_neg (by omega)]
    simp only [this, hj, if_false]
/-! ### primitives -/
theorem small64_ok {i : Int} (h : -18446744073709551616 < i ∧ i < 18446744073709551616) : small64 i = true := decide_eq_true ⟨by omega, by omega⟩
@[simp] theorem small64_lit {n : Nat} (h : n < 18446744073709551616) : small64 (no_index (OfNat.ofNat n) : Int) = true := small64_ok ⟨by
  have : (0 : Int) ≤ (n : Int) := by omega
  exact Int.lt_of_lt_of_le (by omega) this, by
  have : (n : Int) < 18446744073709551616 := by omega
  exact this⟩
section
variable {a : W} {ws vs : List W} {i j : Int} {n : Nat}
theorem size_100 : 100000 < sizeLine := size_big
theorem p_tupd (z : ws.length ≤ sizeLine) : primF .tupd ws = some (.tup ws) := by simp [primF, okLen, z]
theorem p_lstd (z : ws.length ≤ sizeLine) : primF .lstd ws = some (.lst ws) := by simp [primF, okLen, z]
theorem okLen_s {n : Nat} (h : n ≤ 100000) : okLen n = true := decide_eq_true (Nat.le_of_lt (Nat.lt_of_le_of_lt h size_big))
@[simp] theorem p_tup0 : primF .tupd [] = some (.tup []) := p_tupd (Nat.zero_le _)
@[simp] theorem p_tup1 {a} : primF .tupd [a] = some (.tup [a]) := p_tupd (by simp; have := size_big; omega)
@[simp] theorem p_tup2 {a b} : primF .tupd [a, b] = some (.tup [a, b]) := p_tupd (by simp; have := size_big; omega)
@[simp] theorem p_tup3 {a b c} : primF .tupd [a, b, c] = some (.tup [a, b, c]) := p_tupd (by simp; have := size_big; omega)
@[simp] theorem p_tup4 {a b c d} : primF .tupd [a, b, c, d] = some (.tup [a, b, c, d]) := p_tupd (by simp; have := size_big; omega)
@[simp] theorem p_tup5 {a b c d e} : primF .tupd [a, b, c, d, e] = some (.tup [a, b, c, d, e]) := p_tupd (by simp; have := size_big; omega)
@[simp] theorem p_lst0 : primF .lstd [] = some (.lst []) := p_lstd (Nat.zero_le _)
@[simp] theorem p_lst1 {a} : primF .lstd [a] = some (.lst [a]) := p_lstd (by simp; have := size_big; omega)
@[simp] theorem p_lst2 {a b} : primF .lstd [a, b] = some (.lst [a, b]) := p_lstd (by simp; have := size_big; omega)
@[simp] theorem p_lst3 {a b c} : primF .lstd [a, b, c] = some (.lst [a, b, c]) := p_lstd (by simp; have := size_big; omega)
@[simp] theorem p_lst4 {a b c d} : primF .lstd [a, b, c, d] = some (.lst [a, b, c, d]) := p_lstd (by simp; have := size_big; omega)
@[simp] theorem p_lst5 {a b c d e} : primF .lstd [a, b, c, d, e] = some (.lst [a, b, c, d, e]) := p_lstd (by simp; have := size_big; omega)
@[simp] theorem p_lst6 {a b c d e f} : primF .lstd [a, b, c, d, e, f] = some (.lst [a, b, c, d, e, f]) := p_lstd (by simp; have := size_big; omega)
@[simp] theorem p_isN : primF .isN [a] = some (.bl (isNon a)) := (rfl)
@[simp] theorem p_notN : primF .notN [a] = some (.bl (!isNon a)) := (rfl)
@[simp] theorem isNon_non : isNon .non = true := (rfl)
@[simp] theorem isNon_tup : isNon (.tup ws) = false := (rfl)
@[simp] theorem isNon_lst : isNon (.lst ws) = false := (rfl)
@[simp] theorem isNon_int : isNon (.int i) = false := (rfl)
@[simp] theorem isNon_bl {k} : isNon (.bl k) = false := (rfl)
@[simp] theorem isNon_str {k} : isNon (.str k) = false := (rfl)
@[simp] theorem p_addS {x y : Str} : primF .add [.str x, .str y] = if okLen (x.length + y.length) then some (.str (x ++ y)) else none := (rfl)
@[simp] theorem p_addT : primF .add [.tup ws, .tup vs] = if okLen (ws.length + vs.length) then some (.tup (ws ++ vs)) else none := (rfl)
@[simp] theorem p_addL : primF .add [.lst ws, .lst vs] = if okLen (ws.length + vs.length) then some (.lst (ws ++ vs)) else none := (rfl)
@[simp] theorem p_modI : primF .mod [.int i, .int j] = if j = 0 then none else some (.int (i.fmod j)) := (rfl)
@[simp] theorem p_mulI : primF .mul [.int i, .int j] = if small64 i || small64 j then some (.int (i * j)) else none := (rfl)
@[simp] theorem p_neg : primF .neg [.int i] = some (.int (-i)) := (rfl)
@[simp] theorem p_idx_t : primF .idx [.tup ws, .int i] = atW ws i := (rfl)
@[simp] theorem p_idx_l : primF .idx [.lst ws, .int i] = atW ws i := (rfl)
@[simp] theorem p_idx_sl : primF .idx [.slst ws, .int i] = atW ws i := (rfl)
@[simp] theorem atW_nat : atW ws (n : Int) = ws[n]? := by
  by_cases h : n < ws.length
  · rw [atW_ok (by omega) (by omega)]
    rfl
  · unfold atW L2.atI L2.ixN
    have h2 : ¬ ((n : Int) < (ws.length : Nat)) := by omega
    rw [if_pos (by omega), if_neg h2, List.getElem?_eq_none (by omega)]
    rfl
@[simp] theorem atW_0 : atW ws 0 = ws[0]? := atW_nat (n := 0)
@[simp] theorem atW_1 : atW ws 1 = ws[1]? := atW_nat (n := 1)
@[simp] theorem atW_lit : atW ws (no_index (OfNat.ofNat n) : Int) = ws[n]? := atW_nat (n := n)
@[simp] theorem p_lstI {x : W} : primF .list1 [x] = (items x).map .lst := (rfl)
@[simp] theorem p_tupI {x : W} : primF .tuple1 [x] = (items x).map .tup := (rfl)
@[simp] theorem items_l : items (.lst ws) = some ws := (rfl)
@[simp] theorem items_t : items (.tup ws) = some ws := (rfl)
@[simp] theorem items_s : items (.slst ws) = some ws := (rfl)
@[simp] theorem p_intB {k : Bool} : primF .int1 [.bl k] = some (.int (if k then 1 else 0)) := (rfl)
@[simp] theorem p_min2 : primF .min2 [.int i, .int j] = some (.int (if j < i then j else i)) := (rfl)
@[simp] theorem p_max2 : primF .max2 [.int i, .int j] = some (.int (if j > i then j else i)) := (rfl)
@[simp] theorem p_str : primF .str1 [.int i] = if i.natAbs.log2 < 1920 then some (.str (toString i)) else none := (rfl)
@[simp] theorem p_isi {T : Tk} {x : W} : primF (.isi T) [x] = (isiF T x).map .bl := (rfl)
@[simp] theorem p_rangeL : primF .rangeL [.int i] = if i ≤ 16777216 ∧ -(2 ^ 62) ≤ i then some (.lst ((List.range i.toNat).map fun i => .int (i : Nat))) else none := (rfl)
@[simp] theorem p_isB {a b : Bool} : primF .isB [.bl a, .bl b] = some (.bl (decide (a = b))) := (rfl)
@[simp] theorem p_rangeT : primF .rangeT [.int i] = if i ≤ 16777216 ∧ -(2 ^ 62) ≤ i then some (.tup ((List.range i.toNat).map fun i => .int (i : Nat))) else none := (rfl)
@[simp] theorem isi_tup_non  : isiF .tup .non = some false := (rfl)
@[simp] theorem isi_tup_bl {k : Bool} : isiF .tup (.bl k) = some false := (rfl)
@[simp] theorem isi_tup_int {i : Int} : isiF .tup (.int i) = some false := (rfl)
@[simp] theorem isi_tup_str {z : Str} : isiF .tup (.str z) = some false := (rfl)
@[simp] theorem isi_tup_tup {ws : List W} : isiF .tup (.tup ws) = some true := (rfl)
@[simp] theorem isi_tup_lst {ws : List W} : isiF .tup (.lst ws) = some false := (rfl)
@[simp] theorem isi_tup_slst {ws : List W} : isiF .tup (.slst ws) = some false := (rfl)
@[simp] theorem isi_lst_non  : isiF .lst .non = some false := (rfl)
@[simp] theorem isi_lst_bl {k : Bool} : isiF .lst (.bl k) = some false := (rfl)
@[simp] theorem isi_lst_int {i : Int} : isiF .lst (.int i) = some false := (rfl)
@[simp] theorem isi_lst_str {z : Str} : isiF .lst (.str z) = some false := (rfl)
@[simp] theorem isi_lst_tup {ws : List W} : isiF .lst (.tup ws) = some false := (rfl)
@[simp] theorem isi_lst_lst {ws : List W} : isiF .lst (.lst ws) = some true := (rfl)
@[simp] theorem isi_lst_slst {ws : List W} : isiF .lst (.slst ws) = some true := (rfl)
@[simp] theorem isi_str_non  : isiF .str .non = some false := (rfl)
@[simp] theorem isi_str_bl {k : Bool} : isiF .str (.bl k) = some false := (rfl)
@[simp] theorem isi_str_int {i : Int} : isiF .str (.int i) = some false := (rfl)
@[simp] theorem isi_str_str {z : Str} : isiF .str (.str z) = some true := (rfl)
@[simp] theorem isi_str_tup {ws : List W} : isiF .str (.tup ws) = some false := (rfl)
@[simp] theorem isi_str_lst {ws : List W} : isiF .str (.lst ws) = some false := (rfl)
@[simp] theorem isi_str_slst {ws : List W} : isiF .str (.slst ws) = some false := (rfl)
@[simp] theorem isi_bool_non  : isiF .bool .non = some false := (rfl)
@[simp] theorem isi_bool_bl {k : Bool} : isiF .bool (.bl k) = some true := (rfl)
@[simp] theorem isi_bool_int {i : Int} : isiF .bool (.int i) = some false := (rfl)
@[simp] theorem isi_bool_str {z : Str} : isiF .bool (.str z) = some false := (rfl)
@[simp] theorem isi_bool_tup {ws : List W} : isiF .bool (.tup ws) = some false := (rfl)
@[simp] theorem isi_bool_lst {ws : List W} : isiF .bool (.lst ws) = some false := (rfl)
@[simp] theorem isi_bool_slst {ws : List W} : isiF .bool (.slst ws) = some false := (rfl)
@[simp] theorem isi_int_non  : isiF .int .non = some false := (rfl)
@[simp] theorem isi_int_bl {k : Bool} : isiF .int (.bl k) = some true := (rfl)
@[simp] theorem isi_int_int {i : Int} : isiF .int (.int i) = some true := (rfl)
@[simp] theorem isi_int_str {z : Str} : isiF .int (.str z) = some false := (rfl)
@[simp] theorem isi_int_tup {ws : List W} : isiF .int (.tup ws) = some false := (rfl)
@[simp] theorem isi_int_lst {ws : List W} : isiF .int (.lst ws) = some false := (rfl)
@[simp] theorem isi_int_slst {ws : List W} : isiF .int (.slst ws) = some false := (rfl)
@[simp] theorem p_neS {x y : Str} : primF .ne [.str x, .str y] = some (.bl (!decide (x = y))) := (rfl)
@[simp] theorem p_nei (a b : Int) : primF .ne [.int a, .int b] = some (.bl (!decide (a = b))) := by
  have : pEq (.int a) (.int b) = some (decide (a = b)) := by
    simp only [pEq, eqOk, isD, toD]
    rw [if_pos (by rfl)]
    congr 1
  show (pEq (.int a) (.int b)).map (fun c => W.bl (!c)) = _
  rw [this]; rfl
theorem cut_drop : cutW ws (some (n : Int)) none = ws.drop n := by
  unfold cutW
  rw [HT.sIx_nat, HT.sIx_none]
  by_cases h : n ≤ ws.length
  · rw [Nat.min_eq_left h, List.take_of_length_le (by rw [List.length_drop]; omega)]
  · rw [Nat.min_eq_right (by omega), List.drop_eq_nil_of_le (Nat.le_refl _), List.drop_eq_nil_of_le (by omega), List.take_nil]
theorem cut_take : cutW ws none (some (n : Int)) = ws.take n := by
  unfold cutW
  rw [HT.sIx_nat, HT.sIx_none]
  rw [List.drop_zero, Nat.sub_zero]
  by_cases h : n ≤ ws.length
  · rw [Nat.min_eq_left h]
  · rw [Nat.min_eq_right (by omega), List.take_of_length_le (Nat.le_refl _), List.take_of_length_le (by omega)]
@[simp] theorem p_slLo : primF (.sl true false) [.lst ws, .int i] = some (.lst (cutW ws (some i) none)) := (rfl)
@[simp] theorem p_slHi : primF (.sl false true) [.lst ws, .int i] = some (.lst (cutW ws none (some i))) := (rfl)
@[simp] theorem p_slLoT : primF (.sl true false) [.tup ws, .int i] = some (.tup (cutW ws (some i) none)) := (rfl)
@[simp] theorem p_slHiT : primF (.sl false true) [.tup ws, .int i] = some (.tup (cutW ws none (some i))) := (rfl)
@[simp] theorem cut_dropN : cutW ws (some (n : Int)) none = ws.drop n := cut_drop
@[simp] theorem cut_takeN : cutW ws none (some (n : Int)) = ws.take n := cut_take
@[simp] theorem cut_drop1 : cutW ws (some 1) none = ws.drop 1 := cut_drop (n := 1)
@[simp] theorem cut_take1 : cutW ws none (some 1) = ws.take 1 := cut_take (n := 1)
@[simp] theorem cut_dropL : cutW ws (some (no_index (OfNat.ofNat n) : Int)) none = ws.drop n := cut_drop (n := n)
@[simp] theorem cut_takeL : cutW ws none (some (no_index (OfNat.ofNat n) : Int)) = ws.take n := cut_take (n := n)
end
@[simp] theorem tr_bl (h : Hp) (k : Bool) : truthW h (.bl k) = some k := (rfl)
@[simp] theorem it_seq1 {x : W} : itemsOf .seq [x] = items x := (rfl)
theorem inR_s {i : Int} (h0 : -100000000 ≤ i) (h1 : i ≤ 100000000) : inR i = true := decide_eq_true ⟨by omega, by omega⟩
theorem it_rng1 {n : Nat} (h : n ≤ 100000000) : itemsOf .rng1 [.int n] = some ((List.range n).map fun i => .int (i : Nat)) := by
  simp only [itemsOf, inR_s (show -100000000 ≤ (n : Int) by omega) (show (n : Int) ≤ 100000000 by omega), if_true, Int.toNat_natCast]
@[simp] theorem it_rng1L {n : Nat} (h : n ≤ 100000000) : itemsOf .rng1 [.int (no_index (OfNat.ofNat n) : Int)] = some ((List.range n).map fun i => .int (i : Nat)) := it_rng1 h
/-! ### what a call gives back -/
theorem belowL_map {α : Type} {n : Nat} {f : α → W} (xs : List α) (h : ∀ x ∈ xs, below n (f x) = true) : belowL n (xs.map f) = true := by
  induction xs with
  | nil => rfl
  | cons x xs ih =>
    rw [List.map_cons]
    simp only [belowL, Bool.and_eq_true]
    exact ⟨h x (List.mem_cons_self ..), ih fun y hy => h y (List.mem_cons_of_mem _ hy)⟩
@[simp] theorem below_int {n : Nat} {i : Int} : below n (.int i) = true := (rfl)
@[simp] theorem below_bl {n : Nat} {i : Bool} : below n (.bl i) = true := (rfl)
@[simp] theorem below_str {n : Nat} {i : Str} : below n (.str i) = true := (rfl)
@[simp] theorem below_non {n : Nat} : below n .non = true := (rfl)
@[simp] theorem below_tup {n : Nat} {ws : List W} : below n (.tup ws) = belowL n ws := (rfl)
@[simp] theorem below_lst {n : Nat} {ws : List W} : below n (.lst ws) = belowL n ws := (rfl)
@[simp] theorem belowL_nil {n : Nat} : belowL n [] = true := (rfl)
@[simp] theorem belowL_cons {n : Nat} {w : W} {ws : List W} : belowL n (w :: ws) = (below n w && belowL n ws) := (rfl)
@[simp] theorem belowL_iv {n : Nat} {ns : List Int} : belowL n (ns.map W.int) = true := belowL_map _ fun _ _ => rfl
theorem end_val {n : Nat} {w : W} {h : Hp} (hw : below n w = true) : endCall false n w h = .ok w (h.take n) := by simp [endCall, hw]
theorem end_ref {n m : Nat} {h : Hp} {us : List W} (hm : n ≤ m) (e : h[m]? = some (.lst us)) (hu : belowL n us = true) : endCall false n (.ref m) h = .ok (.ref n) (h.take n ++ [.lst us]) := by
  have nb : ¬ (m < n) := by omega
  simp only [endCall, below, nb, decide_false, Bool.false_eq_true, if_false, e, hu, if_true]

/-! ### heaps in which the draws' list stands at a -/
structure Hd (H : List Int → Hp) (a n : Nat) : Prop where
  get : ∀ ds, (H ds)[a]? = some (.lst (iv ds))
  set : ∀ ds ds', (H ds).set a (.lst (iv ds')) = H ds'
  len : ∀ ds, (H ds).length = n
theorem Hd.lt {H : List Int → Hp} {a n : Nat} (hH : Hd H a n) : a < n := by
  have := (List.getElem?_eq_some_iff.mp (hH.get [])).1
  rw [hH.len] at this
  exact this
theorem Hd.base : Hd (fun ds => [.lst (iv ds)]) 0 1 := ⟨fun _ => rfl, fun _ _ => rfl, fun _ => rfl⟩
theorem Hd.app {H : List Int → Hp} {a n : Nat} (hH : Hd H a n) (X : Hp) : Hd (fun ds => H ds ++ X) a (n + X.length) where
  get := fun ds => by rw [List.getElem?_append_left (by rw [hH.len]; exact hH.lt)]; exact hH.get ds
  set := fun ds ds' => by rw [List.set_append_left _ _ (by rw [hH.len]; exact hH.lt), hH.set]
  len := fun ds => by rw [List.length_append, hH.len]
section
variable {H : List Int → Hp} {a n : Nat} (hH : Hd H a n) (ds : List Int) (X : Hp)
include hH
theorem Hd.getX : (H ds ++ X)[a]? = some (.lst (iv ds)) := (hH.app X).get ds
theorem Hd.at0 : (H ds ++ X)[n]? = X[0]? := by rw [List.getElem?_append_right (by rw [hH.len]; omega), hH.len, Nat.sub_self]
theorem Hd.at (i : Nat) : (H ds ++ X)[n + i]? = X[i]? := by
  rw [List.getElem?_append_right (by rw [hH.len]; omega), hH.len]
  congr 1
  omega
theorem Hd.st0 (o : Obj) : (H ds ++ X).set n o = H ds ++ X.set 0 o := by
  rw [List.set_append_right _ _ (by rw [hH.len]; omega), hH.len, Nat.sub_self]
theorem Hd.st (i : Nat) (o : Obj) : (H ds ++ X).set (n + i) o = H ds ++ X.set i o := by
  rw [List.set_append_right _ _ (by rw [hH.len]; omega), hH.len]
  congr 2
  omega
theorem Hd.take0 : (H ds ++ X).take n = H ds := by
  rw [List.take_append_of_le_length (by rw [hH.len]; omega), List.take_of_length_le (by rw [hH.len]; omega)]
theorem Hd.take1 : (H ds).take n = H ds := List.take_of_length_le (by rw [hH.len]; omega)
end
end Ow

/-! N3: loops; the draws. -/
namespace Ow
open PySem

section
variable (call : Nat → Nat → List W → Hp → R W) (N b : Nat)
noncomputable def kIt : R W → R (Option W) := fun x => x.bind fun y h3 => .ok (some y) h3
noncomputable def kTs0 (r : Env) (e : Ex) (h : Hp) (o : Option Bool) : R (Option W) := tc o (kIt (evE call b r e h)) (.ok none h) .bad
noncomputable def kTs (r : Env) (e : Ex) : R W → R (Option W) := fun x => x.bind fun c h => kTs0 call b r e h (truthW h c)
noncomputable def kLb (tests : List Ex) (e : Ex) (h : Hp) (o : Option Env) : R (Option W) := match o with
  | none => .bad
  | some r => match tests with
    | [] => kIt (evE call b r e h)
    | c :: _ => kTs call b r e (evE call b r c h)
noncomputable def kFb (body : List St) (h : Hp) (o : Option Env) : RS := match o with
  | none => .bad
  | some r => evB call N b body r h
end
section
variable {call : Nat → Nat → List W → Hp → R W} {N b : Nat} {r : Env} {h : Hp} {w : W} {ws : List W} {x : W} {t : Tg} {tests : List Ex} {e c : Ex} {body : List St}
@[simp] theorem kIt_ok : kIt (.ok x h) = .ok (some x) h := (rfl)
@[simp] theorem kTs_ok : kTs call b r e (.ok x h) = kTs0 call b r e h (truthW h x) := (rfl)
@[simp] theorem kTs0_t : kTs0 call b r e h (some true) = kIt (evE call b r e h) := (rfl)
@[simp] theorem kTs0_f : kTs0 call b r e h (some false) = .ok none h := (rfl)
@[simp] theorem kLb_0 : kLb call b [] e h (some r) = kIt (evE call b r e h) := (rfl)
@[simp] theorem kLb_1 : kLb call b [c] e h (some r) = kTs call b r e (evE call b r c h) := (rfl)
@[simp] theorem kFb_s : kFb call N b body h (some r) = evB call N b body r h := (rfl)
theorem lcB_m : lcB call b r t tests e w h = kLb call b tests e h (bindT t w (wipeE r t.names)) := by
  unfold lcB kLb
  cases bindT t w (wipeE r t.names) with
  | none => rfl
  | some r2 =>
    simp only
    cases tests with
    | nil => rfl
    | cons c cs =>
      simp only
      unfold kTs kTs0 kIt
      congr 1
theorem forB_m : forB call N b t body w r h = kFb call N b body h (bindT t w r) := by
  unfold forB kFb
  cases bindT t w r <;> rfl
@[simp] theorem tg_nm {i : Nat} : Tg.names (.nm i) = [i] := by rw [Tg.names]
@[simp] theorem same_nil {h h' : Hp} : sameAt h h' [] = True := (rfl)
@[simp] theorem same_int {h h' : Hp} {i : Int} : sameAt h h' (.int i :: ws) = sameAt h h' ws := (rfl)
@[simp] theorem same_tup {h h' : Hp} {us : List W} : sameAt h h' (.tup us :: ws) = sameAt h h' ws := (rfl)
@[simp] theorem same_lst {h h' : Hp} {us : List W} : sameAt h h' (.lst us :: ws) = sameAt h h' ws := (rfl)
@[simp] theorem same_slst {h h' : Hp} {us : List W} : sameAt h h' (.slst us :: ws) = sameAt h h' ws := (rfl)
@[simp] theorem same_ref {h h' : Hp} {n : Nat} : sameAt h h' (.ref n :: ws) = (h[n]? = h'[n]? ∧ sameAt h h' ws) := (rfl)
theorem same_refl {h : Hp} : ∀ ws, sameAt h h ws
  | [] => trivial
  | .ref n :: r => ⟨rfl, same_refl r⟩
  | .non :: r | .bl _ :: r | .int _ :: r | .str _ :: r | .tup _ :: r | .lst _ :: r | .slst _ :: r | .set _ :: r | .dic _ _ :: r | .ty _ :: r | .cls _ :: r | .exc _ _ :: r => same_refl (h := h) r
theorem then_step {ss : List St} {y : RS} {n : Nat} (P : R W → Prop) (hx : y = .nxt r h) (hp : P (endB n (evB call N b ss r h))) : P (endB n (kThen call N b ss y)) := by
  subst hx
  exact hp
end

/-! ### comprehensions -/
section
variable {call : Nat → Nat → List W → Hp → R W} {b : Nat} {r : Env} {t : Tg} {tests : List Ex} {e : Ex} {ws its : List W} {α β : Type} {q : R (List W)}
/-- a map, nothing changes -/
theorem lc_pure {h : Hp} (hq : lcGo call b r t tests e ws h its = q) (en : α → W) (g : α → W) (xs : List α) (hits : its = xs.map en) (st : ∀ x ∈ xs, lcB call b r t tests e (en x) h = .ok (some (g x)) h) (z : xs.length ≤ 100000) : q = .ok (xs.map g) h := by
  subst hq hits
  have key : ∀ (xs : List α) (acc : List W), (∀ x ∈ xs, lcB call b r t tests e (en x) h = .ok (some (g x)) h) → acc.length + xs.length ≤ sizeLine → lcLoop (lcB call b r t tests e) (fun h2 => sameAt h h2 ws) (xs.map en) acc h = .ok (acc ++ xs.map g) h := by
    intro xs
    induction xs with
    | nil => intro acc _ _; rw [List.map_nil, lc_nil, List.map_nil, List.append_nil]
    | cons x xs ih =>
      intro acc st z
      rw [List.length_cons] at z
      rw [List.map_cons, lc_cons_some (st x (List.mem_cons_self ..)) (same_refl ws) (by omega), ih (acc ++ [g x]) (fun y hy => st y (List.mem_cons_of_mem _ hy)) (by rw [List.length_append, List.length_singleton]; omega), List.append_assoc]
      rfl
  have := key xs [] st (by have := size_big; simp; omega)
  rw [List.nil_append] at this
  exact this
/-- with a test -/
theorem lc_pureF {h : Hp} (hq : lcGo call b r t tests e ws h its = q) (en : α → W) (p : α → Bool) (g : α → W) (xs : List α) (hits : its = xs.map en) (st : ∀ x ∈ xs, p x = true → lcB call b r t tests e (en x) h = .ok (some (g x)) h) (sf : ∀ x ∈ xs, p x = false → lcB call b r t tests e (en x) h = .ok none h) (z : xs.length ≤ 100000) :
    q = .ok ((xs.filter p).map g) h := by
  subst hq hits
  have key : ∀ (xs : List α) (acc : List W), (∀ x ∈ xs, p x = true → lcB call b r t tests e (en x) h = .ok (some (g x)) h) → (∀ x ∈ xs, p x = false → lcB call b r t tests e (en x) h = .ok none h) → acc.length + xs.length ≤ sizeLine → lcLoop (lcB call b r t tests e) (fun h2 => sameAt h h2 ws) (xs.map en) acc h = .ok (acc ++ (xs.filter p).map g) h := by
    intro xs
    induction xs with
    | nil => intro acc _ _ _; rw [List.map_nil, lc_nil, List.filter_nil, List.map_nil, List.append_nil]
    | cons x xs ih =>
      intro acc st sf z
      rw [List.length_cons] at z
      cases hp : p x with
      | true =>
        rw [List.map_cons, lc_cons_some (st x (List.mem_cons_self ..) hp) (same_refl ws) (by omega), ih (acc ++ [g x]) (fun y hy => st y (List.mem_cons_of_mem _ hy)) (fun y hy => sf y (List.mem_cons_of_mem _ hy)) (by rw [List.length_append, List.length_singleton]; omega), List.append_assoc, List.filter_cons_of_pos hp]
        rfl
      | false =>
        rw [List.map_cons, lc_cons_none (sf x (List.mem_cons_self ..) hp) (same_refl ws), ih acc (fun y hy => st y (List.mem_cons_of_mem _ hy)) (fun y hy => sf y (List.mem_cons_of_mem _ hy)) (by omega), List.filter_cons_of_neg (by rw [hp]; simp)]
  have := key xs [] st sf (by have := size_big; simp; omega)
  rw [List.nil_append] at this
  exact this
/-- with draws: each item's value -/
theorem lc_draw {h : Hp} (hq : lcGo call b r t tests e ws h its = q) (H : List Int → Hp) (ds : List Int) (hh : h = H ds) (kp : ∀ ds', sameAt (H ds) (H ds') ws) (en : α → W) (g : β → W) (P : α → β → Prop) (xs : List α) (hits : its = xs.map en) (st : ∀ x ∈ xs, ∀ ds, ∃ y ds', lcB call b r t tests e (en x) (H ds) = .ok (some (g y)) (H ds') ∧ P x y) (z : xs.length ≤ 100000) :
    ∃ (ys : List β) (ds' : List Int), q = .ok (ys.map g) (H ds') ∧ ys.length = xs.length ∧ ∀ y ∈ ys, ∃ x ∈ xs, P x y := by
  subst hq hits hh
  have key : ∀ (xs : List α) (acc : List W) (d : List Int), (∀ x ∈ xs, ∀ ds, ∃ y ds', lcB call b r t tests e (en x) (H ds) = .ok (some (g y)) (H ds') ∧ P x y) → acc.length + xs.length ≤ sizeLine → ∃ (ys : List β) (ds' : List Int), lcLoop (lcB call b r t tests e) (fun h2 => sameAt (H ds) h2 ws) (xs.map en) acc (H d) = .ok (acc ++ ys.map g) (H ds') ∧ ys.length = xs.length ∧ ∀ y ∈ ys, ∃ x ∈ xs, P x y := by
    intro xs
    induction xs with
    | nil => intro acc d _ _; exact ⟨[], d, by rw [List.map_nil, lc_nil, List.map_nil, List.append_nil], rfl, fun y hy => by cases hy⟩
    | cons x xs ih =>
      intro acc d st z
      rw [List.length_cons] at z
      obtain ⟨y, d1, e1, p1⟩ := st x (List.mem_cons_self ..) d
      obtain ⟨ys, d2, e2, l2, p2⟩ := ih (acc ++ [g y]) d1 (fun y hy => st y (List.mem_cons_of_mem _ hy)) (by rw [List.length_append, List.length_singleton]; omega)
      refine ⟨y :: ys, d2, ?_, by rw [List.length_cons, List.length_cons, l2], fun y' hy => ?_⟩
      · rw [List.map_cons, lc_cons_some e1 (kp d1) (by omega), e2, List.append_assoc]
        rfl
      · rcases List.mem_cons.mp hy with rfl | hy
        · exact ⟨x, List.mem_cons_self .., p1⟩
        · obtain ⟨x', hx', p'⟩ := p2 y' hy
          exact ⟨x', List.mem_cons_of_mem _ hx', p'⟩
  obtain ⟨ys, ds', e, l, p⟩ := key xs [] ds st (by have := size_big; simp; omega)
  rw [List.nil_append] at e
  exact ⟨ys, ds', e, l, p⟩
/-- with draws: some of the items -/
theorem lc_drawF {h : Hp} (hq : lcGo call b r t tests e ws h its = q) (H : List Int → Hp) (ds : List Int) (hh : h = H ds) (kp : ∀ ds', sameAt (H ds) (H ds') ws) (en : α → W) (g : α → W) (xs : List α) (hits : its = xs.map en) (st : ∀ x ∈ xs, ∀ ds, ∃ ds', lcB call b r t tests e (en x) (H ds) = .ok (some (g x)) (H ds') ∨ lcB call b r t tests e (en x) (H ds) = .ok none (H ds')) (z : xs.length ≤ 100000) :
    ∃ (ys : List α) (ds' : List Int), q = .ok (ys.map g) (H ds') ∧ ys.Sublist xs := by
  subst hq hits hh
  have key : ∀ (xs : List α) (acc : List W) (d : List Int), (∀ x ∈ xs, ∀ ds, ∃ ds', lcB call b r t tests e (en x) (H ds) = .ok (some (g x)) (H ds') ∨ lcB call b r t tests e (en x) (H ds) = .ok none (H ds')) → acc.length + xs.length ≤ sizeLine → ∃ (ys : List α) (ds' : List Int), lcLoop (lcB call b r t tests e) (fun h2 => sameAt (H ds) h2 ws) (xs.map en) acc (H d) = .ok (acc ++ ys.map g) (H ds') ∧ ys.Sublist xs := by
    intro xs
    induction xs with
    | nil => intro acc d _ _; exact ⟨[], d, by rw [List.map_nil, lc_nil, List.map_nil, List.append_nil], List.Sublist.refl _⟩
    | cons x xs ih =>
      intro acc d st z
      rw [List.length_cons] at z
      obtain ⟨d1, e1 | e1⟩ := st x (List.mem_cons_self ..) d
      · obtain ⟨ys, d2, e2, s2⟩ := ih (acc ++ [g x]) d1 (fun y hy => st y (List.mem_cons_of_mem _ hy)) (by rw [List.length_append, List.length_singleton]; omega)
        refine ⟨x :: ys, d2, ?_, s2.cons_cons x⟩
        rw [List.map_cons, lc_cons_some e1 (kp d1) (by omega), e2, List.append_assoc]
        rfl
      · obtain ⟨ys, d2, e2, s2⟩ := ih acc d1 (fun y hy => st y (List.mem_cons_of_mem _ hy)) (by omega)
        exact ⟨ys, d2, by rw [List.map_cons, lc_cons_none e1 (kp d1), e2], s2.cons x⟩
  obtain ⟨ys, ds', e, s⟩ := key xs [] ds st (by have := size_big; simp; omega)
  rw [List.nil_append] at e
  exact ⟨ys, ds', e, s⟩
/-- a comprehension whose heap is told by a state -/
theorem lc_st {σ : Type} {h : Hp} (hq : lcGo call b r t tests e ws h its = q) (en : α → W) (G : σ → Hp) (I : Nat → σ → List W → Prop) (xs : List α) (hits : its = xs.map en) (s : σ) (hh : h = G s) (h0 : I 0 s []) (kp : ∀ s i acc, I i s acc → sameAt h (G s) ws)
    (st : ∀ i x s acc, xs[i]? = some x → I i s acc → ∃ s' o, lcB call b r t tests e (en x) (G s) = .ok o (G s') ∧ I (i + 1) s' (acc ++ o.toList)) (z : xs.length ≤ 100000) :
    ∃ s' ys, q = .ok ys (G s') ∧ I xs.length s' ys ∧ ys.length ≤ xs.length := by
  subst hq hits hh
  have key : ∀ (xs : List α) (k : Nat) (s1 : σ) (acc : List W), (∀ i x s acc, xs[i]? = some x → I (k + i) s acc → ∃ s' o, lcB call b r t tests e (en x) (G s) = .ok o (G s') ∧ I (k + i + 1) s' (acc ++ o.toList)) → I k s1 acc → acc.length + xs.length ≤ sizeLine → 
      ∃ s' ys, lcLoop (lcB call b r t tests e) (fun h2 => sameAt (G s) h2 ws) (xs.map en) acc (G s1) = .ok ys (G s') ∧ I (k + xs.length) s' ys ∧ ys.length ≤ acc.length + xs.length := by
    intro xs
    induction xs with
    | nil => intro k s1 acc _ hI _; exact ⟨s1, acc, by rw [List.map_nil, lc_nil], hI, by simp⟩
    | cons x xs ih =>
      intro k s1 acc st hI z
      rw [List.length_cons] at z
      obtain ⟨s2, o, e1, hI1⟩ := st 0 x s1 acc rfl hI
      have hl : (acc ++ o.toList).length ≤ acc.length + 1 := by
        rw [List.length_append]
        cases o <;> simp
      obtain ⟨s3, ys, e2, hI2, l2⟩ := ih (k + 1) s2 (acc ++ o.toList) (fun i y s acc hy hI => by
        have e1 : k + 1 + i = k + (i + 1) := by omega
        have e2 : k + 1 + i + 1 = k + (i + 1) + 1 := by omega
        rw [e1] at hI
        rw [e2]
        exact st (i + 1) y s acc hy hI) hI1 (by omega)
      refine ⟨s3, ys, ?_, by rw [List.length_cons]; have e : k + (xs.length + 1) = k + 1 + xs.length := by omega
                             rw [e]; exact hI2, by rw [List.length_cons]; omega⟩
      cases o with
      | none =>
        rw [List.map_cons, lc_cons_none e1 (kp _ _ _ hI1)]
        simpa using e2
      | some y =>
        rw [List.map_cons, lc_cons_some e1 (kp _ _ _ hI1) (by omega)]
        simpa using e2
  obtain ⟨s', ys, e, hI, l⟩ := key xs 0 s [] (fun i x s acc hx hI => by
    rw [Nat.zero_add] at hI ⊢
    exact st i x s acc hx hI) h0 (by have := size_big; simp; omega)
  rw [Nat.zero_add] at hI
  exact ⟨s', ys, e, hI, by simpa using l⟩
/-- a new list that may be changed: some of the items, with draws -/
theorem lcM_drawF {n : Nat} {h : Hp} {q : R W} (hq : lcGoM call b r t tests e ws h its = q) (H : List Int → Hp) (ds : List Int) (hh : h = H ds) (hl : ∀ ds, (H ds).length = n) (kp : ∀ ds' acc, sameAt (H ds) (H ds' ++ [.lst acc]) ws) (en : α → W) (g : α → W) (xs : List α) (hits : its = xs.map en)
    (st : ∀ x ∈ xs, ∀ ds acc, ∃ ds', lcB call b r t tests e (en x) (H ds ++ [.lst acc]) = .ok (some (g x)) (H ds' ++ [.lst acc]) ∨ lcB call b r t tests e (en x) (H ds ++ [.lst acc]) = .ok none (H ds' ++ [.lst acc])) (z : xs.length ≤ 100000) :
    ∃ (ys : List α) (ds' : List Int), q = .ok (.ref n) (H ds' ++ [.lst (ys.map g)]) ∧ ys.Sublist xs := by
  subst hq hits hh
  have key : ∀ (xs : List α) (acc : List W) (d : List Int), (∀ x ∈ xs, ∀ ds acc, ∃ ds', lcB call b r t tests e (en x) (H ds ++ [.lst acc]) = .ok (some (g x)) (H ds' ++ [.lst acc]) ∨ lcB call b r t tests e (en x) (H ds ++ [.lst acc]) = .ok none (H ds' ++ [.lst acc])) → acc.length + xs.length ≤ sizeLine →
      ∃ (ys : List α) (ds' : List Int), lcLoopM (lcB call b r t tests e) (fun h2 => sameAt (H ds) h2 ws) (H ds).length (xs.map en) acc (H d ++ [.lst acc]) = .ok (.ref n) (H ds' ++ [.lst (acc ++ ys.map g)]) ∧ ys.Sublist xs := by
    intro xs
    induction xs with
    | nil => intro acc d _ _; exact ⟨[], d, by rw [List.map_nil, lcM_nil, List.map_nil, List.append_nil, hl], List.Sublist.refl _⟩
    | cons x xs ih =>
      intro acc d st z
      rw [List.length_cons] at z
      have hat : ∀ d1 (a : List W), (H d1 ++ [Obj.lst a])[(H ds).length]? = some (.lst a) := fun d1 a => by
        rw [hl, ← hl d1, List.getElem?_append_right (Nat.le_refl _), Nat.sub_self]
        rfl
      have hst : ∀ d1 (a a' : List W), (H d1 ++ [Obj.lst a]).set (H ds).length (.lst a') = H d1 ++ [.lst a'] := fun d1 a a' => by
        rw [hl, ← hl d1, List.set_append_right _ _ (Nat.le_refl _), Nat.sub_self]
        rfl
      obtain ⟨d1, e1 | e1⟩ := st x (List.mem_cons_self ..) d acc
      · obtain ⟨ys, d2, e2, s2⟩ := ih (acc ++ [g x]) d1 (fun y hy => st y (List.mem_cons_of_mem _ hy)) (by rw [List.length_append, List.length_singleton]; omega)
        refine ⟨x :: ys, d2, ?_, s2.cons_cons x⟩
        rw [List.map_cons, lcM_cons_some e1 (kp d1 acc) (hat _ _) (by omega), hst, e2, List.append_assoc]
        rfl
      · obtain ⟨ys, d2, e2, s2⟩ := ih acc d1 (fun y hy => st y (List.mem_cons_of_mem _ hy)) (by omega)
        exact ⟨ys, d2, by rw [List.map_cons, lcM_cons_none e1 (kp d1 acc) (hat _ _), e2], s2.cons x⟩
  obtain ⟨ys, ds', e, s⟩ := key xs [] ds st (by have := size_big; simp; omega)
  rw [List.nil_append] at e
  exact ⟨ys, ds', e, s⟩
end
/-! ### for -/
def wipeN (kill : List Nat) : RS → RS
  | .nxt r h => .nxt (wipeE r kill) h
  | .cnt r h => .nxt (wipeE r kill) h
  | x => x
@[simp] theorem wipeN_nxt {kill : List Nat} {r : Env} {h : Hp} : wipeN kill (.nxt r h) = .nxt (wipeE r kill) h := (rfl)
@[simp] theorem wipeN_cnt {kill : List Nat} {r : Env} {h : Hp} : wipeN kill (.cnt r h) = .nxt (wipeE r kill) h := (rfl)
open Classical in
theorem for_cnt {body : W → Env → Hp → RS} {kill : List Nat} {keep : Hp → Prop} {x : W} {xs : List W} {r r1 : Env} {h h1 : Hp} (e : body x (wipeE r kill) h = .cnt r1 h1) (k : keep h1) : forLoop body kill keep (x :: xs) r h = forLoop body kill keep xs r1 h1 := by
  rw [forLoop, e]
  simp only [k, if_true]
theorem for_next {body : W → Env → Hp → RS} {kill : List Nat} {keep : Hp → Prop} {x : W} {xs : List W} {r r1 : Env} {h h1 : Hp} (e : wipeN kill (body x (wipeE r kill) h) = .nxt r1 h1) (k : keep h1) : ∃ r2, wipeE r2 kill = r1 ∧ forLoop body kill keep (x :: xs) r h = forLoop body kill keep xs r2 h1 := by
  cases q : body x (wipeE r kill) h with
  | nxt r2 h2 =>
    rw [q] at e
    cases e
    exact ⟨r2, rfl, for_nxt q k⟩
  | cnt r2 h2 =>
    rw [q] at e
    cases e
    exact ⟨r2, rfl, for_cnt q k⟩
  | brk _ _ => rw [q] at e; cases e
  | ret _ _ => rw [q] at e; cases e
  | exc _ _ _ => rw [q] at e; cases e
  | bad => rw [q] at e; cases e
section
variable {call : Nat → Nat → List W → Hp → R W} {N b : Nat} {t : Tg} {kill : List Nat} {body : List St} {ws its : List W} {α σ : Type} {q : RS}
/-- a for whose slots and heap are told by a state -/
theorem for_st {h1 h : Hp} {r : Env} (hq : forGo call N b t kill body ws h1 its r h = q) (en : α → W) (E : σ → Env) (G : σ → Hp) (I : Nat → σ → Prop) (xs : List α) (hits : its = xs.map en) (s : σ) (hh : h = G s) (hr : wipeE r kill = E s) (h0 : I 0 s) (kp : ∀ s i, I i s → sameAt h1 (G s) ws)
    (st : ∀ i x s, xs[i]? = some x → I i s → ∃ s', wipeN kill (forB call N b t body (en x) (E s) (G s)) = .nxt (E s') (G s') ∧ I (i + 1) s') :
    ∃ s', q = .nxt (E s') (G s') ∧ I xs.length s' := by
  subst hq hits hh
  have key : ∀ (xs : List α) (k : Nat) (r : Env) (s : σ), (∀ i x s, xs[i]? = some x → I (k + i) s → ∃ s', wipeN kill (forB call N b t body (en x) (E s) (G s)) = .nxt (E s') (G s') ∧ I (k + i + 1) s') → I k s → wipeE r kill = E s →
      ∃ s', forLoop (forB call N b t body) kill (fun h2 => sameAt h1 h2 ws) (xs.map en) r (G s) = .nxt (E s') (G s') ∧ I (k + xs.length) s' := by
    intro xs
    induction xs with
    | nil => intro k r s _ hI hr; exact ⟨s, by rw [List.map_nil, for_nil, hr], hI⟩
    | cons x xs ih =>
      intro k r s st hI hr
      obtain ⟨s1, e1, hI1⟩ := st 0 x s rfl hI
      obtain ⟨r1, hr1, e3⟩ := for_next (body := forB call N b t body) (keep := fun h2 => sameAt h1 h2 ws) (xs := xs.map en) (r := r) (by rw [hr]; exact e1) (kp s1 _ hI1)
      obtain ⟨s2, e2, hI2⟩ := ih (k + 1) r1 s1 (fun i y s hy hI => by
        have e1 : k + 1 + i = k + (i + 1) := by omega
        have e2 : k + 1 + i + 1 = k + (i + 1) + 1 := by omega
        rw [e1] at hI
        rw [e2]
        exact st (i + 1) y s hy hI) hI1 hr1
      refine ⟨s2, ?_, ?_⟩
      · rw [List.map_cons, e3, e2]
      · rw [List.length_cons, ← Nat.add_assoc, Nat.add_right_comm]
        exact hI2
  obtain ⟨s', e, hI⟩ := key xs 0 r s (fun i x s hx hI => by
    rw [Nat.zero_add] at hI ⊢
    exact st i x s hx hI) h0 hr
  rw [Nat.zero_add] at hI
  exact ⟨s', e, hI⟩
end
/-! ### draws -/
def L_take : List St := [.iff (.pr false .eq [.pr false .len [.var 0], .cst (.int 0)]) [.ret (.cst (.int 0))] [], .ret (.pr false .mod [.pr false .int1 [.mth .pop (.var 0) []], .var 1])]
theorem take_run {T : List Def} {N d b k a n : Nat} {H : List Int → Hp} (i : Is T k 2 2 L_take) (hd : 1 ≤ d) (hH : Hd H a n) (ds : List Int) {m : Int} (hm : 0 < m) :
    ∃ (v : Nat) (ds' : List Int), evC T N d b k [.ref a, .int m] (H ds) = .ok (.int v) (H ds') ∧ (v : Int) < m := by
  obtain ⟨d, rfl⟩ : ∃ d', d = d' + 1 := ⟨d - 1, by omega⟩
  rw [i.run rfl]
  rcases List.eq_nil_or_concat ds with rfl | ⟨ds0, c, rfl⟩
  · refine ⟨0, [], ?_, hm⟩
    simp [L_take, hH.get, end_val, hH.len, hH.take1]
  · refine ⟨(c.fmod m).toNat, ds0, ?_, ?_⟩
    · have h0 : ¬ ((ds0.length : Int) + 1 = 0) := by omega
      have h1 : ¬ m = 0 := by omega
      have h2 : ((c.fmod m).toNat : Int) = c.fmod m := Int.toNat_of_nonneg (fmod_pos hm).1
      have hg := hH.get (ds0 ++ [c])
      have hs := hH.set (ds0 ++ [c]) ds0
      simp only [iv, List.map_append, List.map_cons, List.map_nil] at hg hs
      simp [L_take, hg, hs, h0, h1, h2, end_val, hH.len, hH.take1, mPop]
    · have := fmod_pos (a := c) hm
      omega
end Ow

/-! Y0: typed programs over the evaluator: the monad, what a run's end is, the slots. -/
namespace Ow
open PySem

/-! ### the monad: a state δ, exceptions; none where nothing is told -/
inductive Rs (α : Type) where
  | ok (a : α)
  | ex (e : W)
def M (δ α : Type) := δ → Option (Rs α × δ)
namespace M
variable {δ α β : Type}
def ret (a : α) : M δ α := fun d => some (.ok a, d)
def bnd (m : M δ α) (f : α → M δ β) : M δ β := fun d => match m d with
  | some (.ok a, d') => f a d'
  | some (.ex e, d') => some (.ex e, d')
  | none => none
instance : Monad (M δ) where
  pure := ret
  bind := bnd
instance : LawfulMonad (M δ) := LawfulMonad.mk'
  (id_map := fun x => by
    funext d
    show bnd x (fun a => ret (id a)) d = x d
    unfold bnd
    cases x d with
    | none => rfl
    | some p => obtain ⟨r, d'⟩ := p; cases r <;> rfl)
  (pure_bind := fun _ _ => rfl)
  (bind_assoc := fun x f g => by
    funext d
    show bnd (bnd x f) g d = bnd x (fun a => bnd (f a) g) d
    unfold bnd
    cases x d with
    | none => rfl
    | some p => obtain ⟨r, d'⟩ := p; cases r <;> rfl)
def fail : M δ α := fun _ => none
def raise (e : W) : M δ α := fun d => some (.ex e, d)
def lift (o : Option α) : M δ α := match o with
  | some a => pure a
  | none => fail
/-- exceptions are not told of -/
def nox (m : M δ α) : M δ α := fun d => match m d with
  | some (.ok a, d') => some (.ok a, d')
  | _ => none
@[simp] theorem lift_some (a : α) : (lift (some a) : M δ α) = pure a := rfl
@[simp] theorem lift_none : (lift none : M δ α) = fail := rfl
@[simp] theorem fail_bind (f : α → M δ β) : ((fail : M δ α) >>= f) = fail := rfl
@[simp] theorem raise_bind (e : W) (f : α → M δ β) : ((raise e : M δ α) >>= f) = raise e := rfl
@[simp] theorem nox_pure (a : α) : nox (pure a : M δ α) = pure a := rfl
theorem pure_app (a : α) (d : δ) : (pure a : M δ α) d = some (.ok a, d) := rfl
theorem bind_app (m : M δ α) (f : α → M δ β) (d : δ) : (m >>= f) d = match m d with
  | some (.ok a, d') => f a d'
  | some (.ex e, d') => some (.ex e, d')
  | none => none := rfl
/-- a check -/
def chk (c : Bool) : M δ Unit := if c then pure () else fail
@[simp] theorem chk_true : (chk true : M δ Unit) = pure () := rfl
@[simp] theorem chk_false : (chk false : M δ Unit) = fail := rfl
end M

/-! ### states in the evaluator's heap -/
structure DI (δ : Type) where
  ok : Hp → δ → Prop
  F : Nat → Prop
  loc : ∀ {h h' : Hp} {d : δ}, ok h d → (∀ j, F j → h'[j]? = h[j]?) → ok h' d
  inb : ∀ {h : Hp} {d : δ} {j : Nat}, ok h d → F j → j < h.length
/-- no state -/
def DI.unit : DI Unit := ⟨fun _ _ => True, fun _ => False, fun _ _ => trivial, fun _ z => z.elim⟩
/-- draws, at a -/
def DI.drw (a : Nat) : DI (List Int) := ⟨fun h ds => h[a]? = some (.lst (iv ds)), fun j => j = a, fun o e => (e _ rfl).trans o, fun o e => by subst e; exact (List.getElem?_eq_some_iff.mp o).1⟩

inductive Slot where
  | no
  | kn (w : W)
  | rd (w : W)
  | ob (o : Obj)
  | pin (n : Nat) (o : Obj)
/-- an own object -/
def Slot.own : Slot → Bool
  | .ob _ => true
  | .pin _ _ => true
  | _ => false
def sat : List Slot → Nat → Slot
  | [], _ => .no
  | s :: _, 0 => s
  | _ :: r, i + 1 => sat r i
def sup : List Slot → Nat → Slot → List Slot
  | [], _, _ => []
  | _ :: r, 0, t => t :: r
  | s :: r, i + 1, t => s :: sup r i t
def sups : List Slot → List Nat → List Slot
  | G, [] => G
  | G, i :: is => sup (sups G is) i .no
theorem sup_len : ∀ (G : List Slot) (i : Nat) (s : Slot), (sup G i s).length = G.length
  | [], _, _ => rfl
  | _ :: _, 0, _ => rfl
  | _ :: r, i + 1, s => congrArg (· + 1) (sup_len r i s)
theorem sups_len (G : List Slot) : ∀ is : List Nat, (sups G is).length = G.length
  | [] => rfl
  | i :: is => (sup_len _ _ _).trans (sups_len G is)
theorem sat_sup : ∀ (G : List Slot) (i j : Nat) (s : Slot), sat (sup G i s) j = if i = j ∧ i < G.length then s else sat G j
  | [], i, j, s => by simp [sup, sat]
  | t :: r, 0, 0, s => by simp [sup, sat]
  | t :: r, 0, j + 1, s => by simp [sup, sat]
  | t :: r, i + 1, 0, s => by simp [sup, sat]
  | t :: r, i + 1, j + 1, s => by simp [sup, sat, sat_sup r i j s]
theorem sat_lt : ∀ (G : List Slot) (i : Nat), sat G i ≠ .no → i < G.length
  | [], i, h => absurd rfl h
  | _ :: _, 0, _ => by simp
  | _ :: r, i + 1, h => by simpa using sat_lt r i h

theorem own_lt {G : List Slot} {i : Nat} (h : (sat G i).own = true) : i < G.length := sat_lt G i fun z => by rw [z] at h; cases h

variable {δ : Type}
def SlotOk (I : DI δ) (b : Nat) (o : Option (Option W)) (h : Hp) : Slot → Prop
  | .no => True
  | .kn w => o = some (some w)
  | .rd w => ∃ u, o = some (some u) ∧ deref h u = w ∧ ∀ m, u = .ref m → m < b ∧ ¬ I.F m
  | .ob ob => ∃ m, o = some (some (.ref m)) ∧ h[m]? = some ob ∧ b ≤ m ∧ ¬ I.F m
  | .pin m ob => o = some (some (.ref m)) ∧ h[m]? = some ob ∧ b ≤ m ∧ ¬ I.F m
structure Lay (I : DI δ) (b : Nat) (G : List Slot) (r : Env) (h : Hp) : Prop where
  len : r.length = G.length
  hb : b ≤ h.length
  sl : ∀ i, SlotOk I b r[i]? h (sat G i)
  inj : ∀ i j m, (sat G i).own = true → (sat G j).own = true → r[i]? = some (some (.ref m)) → r[j]? = some (some (.ref m)) → i = j
/-- from one heap to a later one, where no object is changed but the state's -/
structure ES (I : DI δ) (h h' : Hp) : Prop where
  len : h.length ≤ h'.length
  old : ∀ j, j < h.length → ¬ I.F j → h'[j]? = h[j]?
theorem ES.refl {I : DI δ} {h : Hp} : ES I h h := ⟨Nat.le_refl _, fun _ _ _ => rfl⟩
theorem ES.trans {I : DI δ} {h h1 h2 : Hp} (x : ES I h h1) (y : ES I h1 h2) : ES I h h2 :=
  ⟨Nat.le_trans x.len y.len, fun j hj n => (y.old j (Nat.lt_of_lt_of_le hj x.len) n).trans (x.old j hj n)⟩
/-- the same, where what stands from b on may be changed -/
structure BS (I : DI δ) (b : Nat) (h h' : Hp) : Prop where
  len : h.length ≤ h'.length
  old : ∀ j, j < b → ¬ I.F j → h'[j]? = h[j]?
theorem BS.refl {I : DI δ} {b : Nat} {h : Hp} : BS I b h h := ⟨Nat.le_refl _, fun _ _ _ => rfl⟩
theorem BS.trans {I : DI δ} {b : Nat} {h h1 h2 : Hp} (x : BS I b h h1) (y : BS I b h1 h2) : BS I b h h2 :=
  ⟨Nat.le_trans x.len y.len, fun j hj n => (y.old j hj n).trans (x.old j hj n)⟩
theorem ES.bs {I : DI δ} {b : Nat} {h h' : Hp} (x : ES I h h') (hb : b ≤ h.length) : BS I b h h' := ⟨x.len, fun j hj n => x.old j (by omega) n⟩

theorem deref_keep {h h' : Hp} {u : W} (e : ∀ m, u = .ref m → h'[m]? = h[m]?) : deref h' u = deref h u := by
  cases u <;> first | rfl | skip
  rename_i m
  simp only [deref, e m rfl]
section
variable {I : DI δ} {b : Nat} {G : List Slot} {r : Env} {h h' : Hp}
theorem Lay.ext (l : Lay I b G r h) (x : ES I h h') : Lay I b G r h' where
  len := l.len
  hb := Nat.le_trans l.hb x.len
  inj := l.inj
  sl := fun i => by
    have q := l.sl i
    cases e : sat G i with
    | no => trivial
    | kn w => rw [e] at q; exact q
    | rd w =>
      rw [e] at q
      obtain ⟨u, e1, e2, e3⟩ := q
      refine ⟨u, e1, ?_, e3⟩
      rw [deref_keep fun m em => x.old m (Nat.lt_of_lt_of_le (e3 m em).1 l.hb) (e3 m em).2]
      exact e2
    | ob o =>
      rw [e] at q
      obtain ⟨m, e1, e2, e3, e4⟩ := q
      exact ⟨m, e1, (x.old m (List.getElem?_eq_some_iff.mp e2).1 e4).trans e2, e3, e4⟩
    | pin m o =>
      rw [e] at q
      obtain ⟨e1, e2, e3, e4⟩ := q
      exact ⟨e1, (x.old m (List.getElem?_eq_some_iff.mp e2).1 e4).trans e2, e3, e4⟩
/-- a slot is given a value -/
theorem Lay.set (l : Lay I b G r h) {i : Nat} {w : W} : Lay I b (sup G i (.kn w)) (r.set i (some w)) h where
  len := by rw [List.length_set, sup_len]; exact l.len
  hb := l.hb
  sl := fun j => by
    rw [sat_sup]
    by_cases hi : i = j ∧ i < G.length
    · rw [if_pos hi]
      obtain ⟨rfl, hl⟩ := hi
      exact List.getElem?_set_self (by rw [l.len]; exact hl)
    · rw [if_neg hi]
      by_cases hij : i = j
      · have hl : ¬ i < G.length := fun z => hi ⟨hij, z⟩
        have : sat G j = .no := Classical.byContradiction fun z => hl (by rw [hij]; exact sat_lt G j z)
        rw [this]; trivial
      · rw [List.getElem?_set_ne hij]
        exact l.sl j
  inj := fun j k m ej ek rj rk => by
    rw [sat_sup] at ej ek
    split at ej <;> first | (cases ej; done) | skip
    split at ek <;> first | (cases ek; done) | skip
    rename_i n1 n2
    have hj : i ≠ j := fun z => n1 ⟨z, by rw [z]; exact own_lt ej⟩
    have hk : i ≠ k := fun z => n2 ⟨z, by rw [z]; exact own_lt ek⟩
    rw [List.getElem?_set_ne hj] at rj
    rw [List.getElem?_set_ne hk] at rk
    exact l.inj j k m ej ek rj rk
/-- a slot is given a new object -/
theorem Lay.setO (l : Lay I b G r h) {i n : Nat} {o : Obj} (hn : h[n]? = some o) (hb : b ≤ n) (nF : ¬ I.F n) (hd : ∀ j, j ≠ i → (sat G j).own = true → r[j]? ≠ some (some (.ref n))) : Lay I b (sup G i (.ob o)) (r.set i (some (.ref n))) h where
  len := by rw [List.length_set, sup_len]; exact l.len
  hb := l.hb
  sl := fun j => by
    rw [sat_sup]
    by_cases hi : i = j ∧ i < G.length
    · rw [if_pos hi]
      obtain ⟨rfl, hl⟩ := hi
      exact ⟨n, List.getElem?_set_self (by rw [l.len]; exact hl), hn, hb, nF⟩
    · rw [if_neg hi]
      by_cases hij : i = j
      · have hl : ¬ i < G.length := fun z => hi ⟨hij, z⟩
        have : sat G j = .no := Classical.byContradiction fun z => hl (by rw [hij]; exact sat_lt G j z)
        rw [this]; trivial
      · rw [List.getElem?_set_ne hij]
        exact l.sl j
  inj := fun j k m ej ek rj rk => by
    have key : ∀ j, (sat (sup G i (.ob o)) j).own = true → (r.set i (some (.ref n)))[j]? = some (some (.ref m)) → (j = i ∧ m = n) ∨ (j ≠ i ∧ (sat G j).own = true ∧ r[j]? = some (some (.ref m))) := fun j ej rj => by
      rw [sat_sup] at ej
      by_cases hi : i = j ∧ i < G.length
      · obtain ⟨rfl, hl⟩ := hi
        rw [List.getElem?_set_self (by rw [l.len]; exact hl)] at rj
        cases rj
        exact .inl ⟨rfl, rfl⟩
      · rw [if_neg hi] at ej
        have hj : i ≠ j := fun z => hi ⟨z, by rw [z]; exact own_lt ej⟩
        rw [List.getElem?_set_ne hj] at rj
        exact .inr ⟨Ne.symm hj, ej, rj⟩
    rcases key j ej rj with ⟨rfl, rfl⟩ | ⟨h1, h2, h3⟩ <;> rcases key k ek rk with ⟨rfl, e⟩ | ⟨h4, h5, h6⟩
    · rfl
    · exact absurd h6 (hd k h4 h5)
    · rw [e] at h3
      exact absurd h3 (hd j h1 h2)
    · exact l.inj j k m h2 h5 h3 h6
/-- less is known -/
inductive SlLe : Slot → Slot → Prop
  | no (s) : SlLe .no s
  | same (s) : SlLe s s
  | unpin (n o) : SlLe (.ob o) (.pin n o)
def GLe : List Slot → List Slot → Prop
  | [], [] => True
  | s' :: r', s :: r => SlLe s' s ∧ GLe r' r
  | _, _ => False
theorem GLe.len : ∀ {G' G : List Slot}, GLe G' G → G'.length = G.length
  | [], [], _ => rfl
  | _ :: _, _ :: _, h => congrArg (· + 1) (GLe.len h.2)
  | [], _ :: _, h => h.elim
  | _ :: _, [], h => h.elim
theorem GLe.at : ∀ {G' G : List Slot}, GLe G' G → ∀ i, SlLe (sat G' i) (sat G i)
  | [], [], _, _ => .same _
  | _ :: _, _ :: _, h, 0 => h.1
  | _ :: _, _ :: _, h, i + 1 => GLe.at h.2 i
  | [], _ :: _, h, _ => h.elim
  | _ :: _, [], h, _ => h.elim
theorem GLe.refl : ∀ {G : List Slot}, GLe G G
  | [] => trivial
  | _ :: _ => ⟨.same _, GLe.refl⟩
theorem Lay.weaken {G' : List Slot} (l : Lay I b G r h) (g : GLe G' G) : Lay I b G' r h where
  len := l.len.trans g.len.symm
  hb := l.hb
  sl := fun i => by
    have q := l.sl i
    have z := g.at i
    generalize sat G i = s at z q
    generalize sat G' i = s' at z
    cases z with
    | no => trivial
    | same => exact q
    | unpin n o => exact ⟨n, q.1, q.2.1, q.2.2.1, q.2.2.2⟩
  inj := fun i j m ei ej ri rj => by
    have key : ∀ i, (sat G' i).own = true → (sat G i).own = true := fun i ei => by
      have z := g.at i
      generalize sat G i = si at z ⊢
      generalize sat G' i = s' at z ei
      cases z with
      | no => cases ei
      | same => exact ei
      | unpin n o => rfl
    exact l.inj i j m (key i ei) (key j ej) ri rj
theorem Lay.wipe1 (l : Lay I b G r h) (i : Nat) : Lay I b (sup G i .no) (r.set i none) h where
  len := by rw [List.length_set, sup_len]; exact l.len
  hb := l.hb
  sl := fun j => by
    rw [sat_sup]
    by_cases hi : i = j ∧ i < G.length
    · rw [if_pos hi]; trivial
    · rw [if_neg hi]
      by_cases hij : i = j
      · have hl : ¬ i < G.length := fun z => hi ⟨hij, z⟩
        have : sat G j = .no := Classical.byContradiction fun z => hl (by rw [hij]; exact sat_lt G j z)
        rw [this]; trivial
      · rw [List.getElem?_set_ne hij]
        exact l.sl j
  inj := fun j k m ej ek rj rk => by
    rw [sat_sup] at ej ek
    split at ej <;> first | (cases ej; done) | skip
    split at ek <;> first | (cases ek; done) | skip
    rename_i n1 n2
    have hj : i ≠ j := fun z => n1 ⟨z, by rw [z]; exact own_lt ej⟩
    have hk : i ≠ k := fun z => n2 ⟨z, by rw [z]; exact own_lt ek⟩
    rw [List.getElem?_set_ne hj] at rj
    rw [List.getElem?_set_ne hk] at rk
    exact l.inj j k m ej ek rj rk
theorem Lay.wipe (l : Lay I b G r h) : ∀ is : List Nat, Lay I b (sups G is) (wipeE r is) h
  | [] => l
  | i :: is => (Lay.wipe l is).wipe1 i
end
end Ow

/-! Y1: what an expression, arguments, a call are worth. -/
namespace Ow
open PySem

/-- an argument: this value, or one that reads as this one -/
inductive PA where
  | ex (w : W)
  | lo (w : W)
  | lb (b : Nat) (w : W)
variable {δ α β κ : Type}
def ArgOk (I : DI δ) (h : Hp) : PA → W → Prop
  | .ex w, u => u = w
  | .lo w, u => deref h u = w ∧ ∀ m, u = .ref m → m < h.length ∧ ¬ I.F m
  | .lb b w, u => deref h u = w ∧ ∀ m, u = .ref m → (m < b ∧ m < h.length) ∧ ¬ I.F m
def Args (I : DI δ) (h : Hp) : List PA → List W → Prop
  | [], us => us = []
  | p :: ps, us => ∃ u r, us = u :: r ∧ ArgOk I h p u ∧ Args I h ps r
theorem ArgOk.ext {I : DI δ} {h h' : Hp} {p : PA} {u : W} (a : ArgOk I h p u) (x : ES I h h') : ArgOk I h' p u := by
  cases p with
  | ex w => exact a
  | lo w =>
    obtain ⟨e, n⟩ := a
    refine ⟨?_, fun m em => ⟨Nat.lt_of_lt_of_le (n m em).1 x.len, (n m em).2⟩⟩
    rw [deref_keep fun m em => x.old m (n m em).1 (n m em).2]
    exact e
  | lb b w =>
    obtain ⟨e, n⟩ := a
    refine ⟨?_, fun m em => ⟨⟨(n m em).1.1, Nat.lt_of_lt_of_le (n m em).1.2 x.len⟩, (n m em).2⟩⟩
    rw [deref_keep fun m em => x.old m (n m em).1.2 (n m em).2]
    exact e
theorem Args.ext {I : DI δ} {h h' : Hp} (x : ES I h h') : ∀ {ps : List PA} {us : List W}, Args I h ps us → Args I h' ps us
  | [], _, a => a
  | p :: ps, us, a => by
    obtain ⟨u, r, e, a1, a2⟩ := a
    exact ⟨u, r, e, a1.ext x, Args.ext x a2⟩
theorem Args.len {I : DI δ} {h : Hp} : ∀ {ps : List PA} {us : List W}, Args I h ps us → us.length = ps.length
  | [], _, a => by rw [show _ = [] from a]; rfl
  | p :: ps, us, a => by
    obtain ⟨u, r, rfl, a1, a2⟩ := a
    rw [List.length_cons, List.length_cons, Args.len a2]
/-- where a run ends -/
def EndE (I : DI δ) (h : Hp) (pk : α → PA) (res : R W) : Option (Rs α × δ) → Prop
  | none => True
  | some (.ok v, d) => ∃ u h', res = .ok u h' ∧ ArgOk I h' (pk v) u ∧ ES I h h' ∧ I.ok h' d
  | some (.ex x, d) => ∃ h', res = .exc x h' ∧ ES I h h' ∧ I.ok h' d
theorem EndE.later {I : DI δ} {h h1 : Hp} {pk : α → PA} {res : R W} {o : Option (Rs α × δ)} (x : ES I h h1) (q : EndE I h1 pk res o) : EndE I h pk res o := by
  match o, q with
  | none, _ => trivial
  | some (.ok v, d), ⟨u, h', e, a, x', k⟩ => exact ⟨u, h', e, a, x.trans x', k⟩
  | some (.ex v, d), ⟨h', e, x', k⟩ => exact ⟨h', e, x.trans x', k⟩

section
variable (I : DI δ) (b : Nat) (call : Nat → Nat → List W → Hp → R W) (G : List Slot)
/-- a value, without any effect -/
structure VJ (e : Ex) (pa : PA) : Prop where
  run : ∀ r h, Lay I b G r h → ∃ u, evE call b r e h = .ok u h ∧ ArgOk I h pa u
/-- a run -/
structure AJ (e : Ex) (pk : α → PA) (m : M δ α) : Prop where
  run : ∀ r h d, Lay I b G r h → I.ok h d → EndE I h pk (evE call b r e h) (m d)
/-- arguments -/
structure VsJ (es : List Ex) (pas : List PA) : Prop where
  run : ∀ r h, Lay I b G r h → ∃ us, evEs call b r es h = .ok us h ∧ Args I h pas us
/-- arguments, and then the rest of a run -/
structure EsJ (es : List Ex) (post : List PA → M δ κ → Prop) (m : M δ κ) : Prop where
  run : ∀ r h d, Lay I b G r h → I.ok h d → match m d with
  | none => True
  | some o => (∃ us h' d' m' pas, evEs call b r es h = .ok us h' ∧ Args I h' pas us ∧ ES I h h' ∧ I.ok h' d' ∧ post pas m' ∧ m' d' = some o) ∨
    (∃ x h', o.1 = .ex x ∧ evEs call b r es h = .exc x h' ∧ ES I h h' ∧ I.ok h' o.2)
/-- a call's worth -/
structure CS (k : Nat) (pas : List PA) (pk : α → PA) (m : M δ α) : Prop where
  run : ∀ b h d us, I.ok h d → Args I h pas us → EndE I h pk (call b k us h) (m d)
instance {e : Ex} {pa : PA} : CoeFun (VJ I b call G e pa) fun _ => ∀ r h, Lay I b G r h → ∃ u, evE call b r e h = .ok u h ∧ ArgOk I h pa u := ⟨VJ.run⟩
instance {e : Ex} {pk : α → PA} {m : M δ α} : CoeFun (AJ I b call G e pk m) fun _ => ∀ r h d, Lay I b G r h → I.ok h d → EndE I h pk (evE call b r e h) (m d) := ⟨AJ.run⟩
instance {es : List Ex} {pas : List PA} : CoeFun (VsJ I b call G es pas) fun _ => ∀ r h, Lay I b G r h → ∃ us, evEs call b r es h = .ok us h ∧ Args I h pas us := ⟨VsJ.run⟩
instance {es : List Ex} {post : List PA → M δ κ → Prop} {m : M δ κ} : CoeFun (EsJ I b call G es post m) fun _ => ∀ r h d, Lay I b G r h → I.ok h d → match m d with
  | none => True
  | some o => (∃ us h' d' m' pas, evEs call b r es h = .ok us h' ∧ Args I h' pas us ∧ ES I h h' ∧ I.ok h' d' ∧ post pas m' ∧ m' d' = some o) ∨
    (∃ x h', o.1 = .ex x ∧ evEs call b r es h = .exc x h' ∧ ES I h h' ∧ I.ok h' o.2) := ⟨EsJ.run⟩
instance {k : Nat} {pas : List PA} {pk : α → PA} {m : M δ α} : CoeFun (CS I call k pas pk m) fun _ => ∀ b h d us, I.ok h d → Args I h pas us → EndE I h pk (call b k us h) (m d) := ⟨CS.run⟩
end
section
variable {I : DI δ} {b : Nat} {call : Nat → Nat → List W → Hp → R W} {G : List Slot} {e a c : Ex} {es srcs : List Ex} {pk : α → PA} {m : M δ α} {w : W} {i : Nat}
theorem AJ.ofV {v : α} (q : VJ I b call G e (pk v)) : AJ I b call G e pk (pure v) := .mk fun r h d l o => by
  obtain ⟨u, e1, a1⟩ := q r h l
  exact ⟨u, h, e1, a1, .refl, o⟩
/-- no ref itself -/
def nref : W → Bool
  | .ref _ => false
  | _ => true
theorem deref_nref {h : Hp} {w : W} (n : nref w = true) : deref h w = w := by cases w <;> first | rfl | cases n
theorem ArgOk.lo_of {I : DI δ} {h : Hp} {w : W} (n : nref w = true) : ArgOk I h (.lo w) w := ⟨deref_nref n, fun m e => by subst e; cases n⟩
theorem VJ.lo (q : VJ I b call G e (.ex w)) (n : nref w = true := by rfl) : VJ I b call G e (.lo w) := .mk fun r h l => by
  obtain ⟨u, e1, a1⟩ := q r h l
  cases (show u = w from a1)
  exact ⟨_, e1, ArgOk.lo_of n⟩
theorem AJ.lo {en : α → W} (q : AJ I b call G e (fun v => .ex (en v)) m) (n : ∀ v, nref (en v) = true := by intro _; rfl) : AJ I b call G e (fun v => .lo (en v)) m := .mk fun r h d l o => by
  have z := q r h d l o
  match hm : m d, z with
  | none, _ => trivial
  | some (.ok v, d'), z =>
    obtain ⟨u, h', e1, a1, x, k⟩ := z
    cases (show u = en v from a1)
    exact ⟨_, h', e1, ArgOk.lo_of (n v), x, k⟩
  | some (.ex v, d'), z =>
    exact z
theorem VJ.var (h : sat G i = .kn w) : VJ I b call G (.var i) (.ex w) := .mk fun r hh l => by
  have q := l.sl i
  rw [h] at q
  exact ⟨w, by rw [e_var, show r[i]? = some (some w) from q]; rfl, rfl⟩
theorem VJ.rd (h : sat G i = .rd w) : VJ I b call G (.var i) (.lo w) := .mk fun r hh l => by
  have q := l.sl i
  rw [h] at q
  obtain ⟨u, e1, e2, e3⟩ := q
  exact ⟨u, by rw [e_var, e1]; rfl, e2, fun m em => ⟨Nat.lt_of_lt_of_le (e3 m em).1 l.hb, (e3 m em).2⟩⟩
theorem VJ.rdb (h : sat G i = .rd w) : VJ I b call G (.var i) (.lb b w) := .mk fun r hh l => by
  have q := l.sl i
  rw [h] at q
  obtain ⟨u, e1, e2, e3⟩ := q
  exact ⟨u, by rw [e_var, e1]; rfl, e2, fun m em => ⟨⟨(e3 m em).1, Nat.lt_of_lt_of_le (e3 m em).1 l.hb⟩, (e3 m em).2⟩⟩
theorem VJ.pin {n : Nat} {ws : List W} (h : sat G i = .pin n (.lst ws)) : VJ I b call G (.var i) (.lo (.lst ws)) := .mk fun r hh l => by
  have q := l.sl i
  rw [h] at q
  obtain ⟨e1, e2, e3, e4⟩ := q
  exact ⟨.ref n, by rw [e_var, e1]; rfl, by simp [e2], fun m em => by cases em; exact ⟨(List.getElem?_eq_some_iff.mp e2).1, e4⟩⟩
theorem VJ.ob {ws : List W} (h : sat G i = .ob (.lst ws)) : VJ I b call G (.var i) (.lo (.lst ws)) := .mk fun r hh l => by
  have q := l.sl i
  rw [h] at q
  obtain ⟨n, e1, e2, e3, e4⟩ := q
  exact ⟨.ref n, by rw [e_var, e1]; rfl, by simp [e2], fun m em => by cases em; exact ⟨(List.getElem?_eq_some_iff.mp e2).1, e4⟩⟩
theorem VJ.cst : VJ I b call G (.cst w) (.ex w) := .mk fun r hh l => ⟨w, by rw [e_cst], rfl⟩
theorem VsJ.nil : VsJ I b call G [] [] := .mk fun r hh l => ⟨[], by rw [e_nil], rfl⟩
theorem VsJ.cons {pa : PA} {pas : List PA} (q : VJ I b call G e pa) (qs : VsJ I b call G es pas) : VsJ I b call G (e :: es) (pa :: pas) := .mk fun r hh l => by
  obtain ⟨u, e1, a1⟩ := q r hh l
  obtain ⟨us, e2, a2⟩ := qs r hh l
  exact ⟨u :: us, by rw [e_cons_, e1, R.bind_ok, e2]; rfl, u, us, rfl, a1, a2⟩
theorem EsJ.nil {post : List PA → M δ κ → Prop} {m : M δ κ} (p : post [] m) : EsJ I b call G [] post m := .mk fun r h d l o => by
  cases hm : m d with
  | none => trivial
  | some q => exact .inl ⟨[], h, d, m, [], by rw [e_nil], rfl, .refl, o, p, hm⟩
theorem EsJ.consV {pa : PA} {post : List PA → M δ κ → Prop} {m : M δ κ} (q : VJ I b call G e pa) (qs : EsJ I b call G es (fun pas m => post (pa :: pas) m) m) : EsJ I b call G (e :: es) post m := .mk fun r h d l o => by
  obtain ⟨u, e1, a1⟩ := q r h l
  have z := qs r h d l o
  cases hm : m d with
  | none => trivial
  | some p =>
    rw [hm] at z
    rcases z with ⟨us, h', d', m', pas, z1, z2, z3, z4, z5, z6⟩ | ⟨x, h', z1, z2, z3, z4⟩
    · exact .inl ⟨u :: us, h', d', m', pa :: pas, by rw [e_cons_, e1, R.bind_ok, z1]; rfl, ⟨u, us, rfl, a1.ext z3, z2⟩, z3, z4, z5, z6⟩
    · exact .inr ⟨x, h', z1, by rw [e_cons_, e1, R.bind_ok, z2]; rfl, z3, z4⟩
theorem EsJ.consA {post : List PA → M δ κ → Prop} {k : α → M δ κ} (q : AJ I b call G e pk m) (qs : ∀ a, EsJ I b call G es (fun pas m => post (pk a :: pas) m) (k a)) : EsJ I b call G (e :: es) post (m >>= k) := .mk fun r h d l o => by
  have z := q r h d l o
  rw [M.bind_app]
  match hm : m d, z with
  | none, _ => trivial
  | some (.ex x, d'), z =>
    obtain ⟨h', e1, x1, k1⟩ := z
    exact .inr ⟨x, h', rfl, by rw [e_cons_, e1]; rfl, x1, k1⟩
  | some (.ok v, d'), z =>
    obtain ⟨u, h1, e1, a1, x1, k1⟩ := z
    have z := qs v r h1 d' (l.ext x1) k1
    dsimp only
    cases hk : k v d' with
    | none => trivial
    | some p =>
      rw [hk] at z
      rcases z with ⟨us, h', d'', m', pas, z1, z2, z3, z4, z5, z6⟩ | ⟨x, h', z1, z2, z3, z4⟩
      · exact .inl ⟨u :: us, h', d'', m', pk v :: pas, by rw [e_cons_, e1, R.bind_ok, z1]; rfl, ⟨u, us, rfl, a1.ext z3, z2⟩, x1.trans z3, z4, z5, z6⟩
      · exact .inr ⟨x, h', z1, by rw [e_cons_, e1, R.bind_ok, z2]; rfl, x1.trans z3, z4⟩

/-! ### primitives -/
def los (ws : List W) : List PA := ws.map .lo
def exs (ws : List W) : List PA := ws.map .ex
theorem args_lo {h : Hp} : ∀ {ws us : List W}, Args I h (los ws) us → us.map (deref h) = ws
  | [], _, a => by rw [show _ = [] from a]; rfl
  | w :: ws, us, a => by
    obtain ⟨u, r, rfl, a1, a2⟩ := a
    rw [List.map_cons, a1.1, args_lo a2]
theorem args_ex {h : Hp} : ∀ {ws us : List W}, Args I h (exs ws) us → us = ws
  | [], _, a => a
  | w :: ws, us, a => by
    obtain ⟨u, r, rfl, a1, a2⟩ := a
    rw [show u = w from a1, args_ex a2]
theorem rp_run {p : Prim} {ws us : List W} {h : Hp} {w : W} (hr : p.raw = false) (a : Args I h (los ws) us) (e : primF p ws = some w) : runPrim false p us h = .ok w h := by
  rw [rp_false, if_neg (by rw [hr]; decide), args_lo a, e]
  rfl
theorem rp_runR {p : Prim} {ws us : List W} {h : Hp} {w : W} (hr : p.raw = true) (a : Args I h (exs ws) us) (e : primF p ws = some w) : runPrim false p us h = .ok w h := by
  rw [rp_false, if_pos hr, args_ex a, e]
  rfl
theorem VJ.pr {p : Prim} {ws : List W} {pas : List PA} (q : VsJ I b call G es pas) (hp : pas = los ws) (e : primF p ws = some w) (hr : p.raw = false := by rfl) : VJ I b call G (.pr false p es) (.ex w) := .mk fun r hh l => by
  obtain ⟨us, e1, a1⟩ := q r hh l
  subst hp
  exact ⟨w, by rw [e_pr_, e1, R.bind_ok, rp_run hr a1 e], rfl⟩
theorem VJ.prR {p : Prim} {ws : List W} {pas : List PA} (q : VsJ I b call G es pas) (hp : pas = exs ws) (e : primF p ws = some w) (hr : p.raw = true := by rfl) : VJ I b call G (.pr false p es) (.ex w) := .mk fun r hh l => by
  obtain ⟨us, e1, a1⟩ := q r hh l
  subst hp
  exact ⟨w, by rw [e_pr_, e1, R.bind_ok, rp_runR hr a1 e], rfl⟩
/-- what is asked of the rest behind a primitive's arguments -/
def PrP (p : Prim) (pk : α → PA) (raw : Bool) : List PA → M δ α → Prop := fun pas m => ∃ (ws : List W) (o : Option α), pas = (if raw then exs ws else los ws) ∧ m = M.lift o ∧ ∀ v, o = some v → ∃ w, pk v = .ex w ∧ primF p ws = some w
theorem AJ.pr {p : Prim} (q : EsJ I b call G es (PrP p pk p.raw) m) : AJ I b call G (.pr false p es) pk m := .mk fun r h d l o => by
  have z := q r h d l o
  match hm : m d, z with
  | none, _ => trivial
  | some (.ok v, d'), z =>
    rcases z with ⟨us, h', d'', m', pas, z1, z2, z3, z4, ⟨ws, o', z5, z6, z7⟩, z8⟩ | ⟨x, h', z1, z2, z3, z4⟩
    · subst z6
      cases o' with
      | none => cases z8
      | some v' =>
        have e8 : (some (Rs.ok v', d'') : Option (Rs α × δ)) = some (.ok v, d') := z8
        cases e8
        obtain ⟨w, e9, e10⟩ := z7 v rfl
        refine ⟨w, h', ?_, by rw [e9]; rfl, z3, z4⟩
        rw [e_pr_, z1, R.bind_ok]
        cases hr : p.raw with
        | true => rw [hr] at z5; subst z5; exact rp_runR hr z2 e10
        | false => rw [hr] at z5; subst z5; exact rp_run hr z2 e10
    · cases z1
  | some (.ex v, d'), z =>
    rcases z with ⟨us, h', d'', m', pas, z1, z2, z3, z4, ⟨ws, o', z5, z6, z7⟩, z8⟩ | ⟨x, h', z1, z2, z3, z4⟩
    · subst z6
      cases o' with
      | none => cases z8
      | some v' => cases z8
    · cases (show v = x by injection z1)
      exact ⟨h', by rw [e_pr_, z2]; rfl, z3, z4⟩
theorem PrP.of {p : Prim} {raw : Bool} {ws : List W} {pas : List PA} {en : α → W} {o : Option α} (hp : pas = (if raw then exs ws else los ws)) (e : ∀ v, o = some v → primF p ws = some (en v)) : PrP (δ := δ) p (fun v => .ex (en v)) raw pas (M.lift o) :=
  ⟨ws, o, hp, rfl, fun v ev => ⟨_, rfl, e v ev⟩⟩
theorem PrP.tot {p : Prim} {raw : Bool} {ws : List W} {pas : List PA} {en : α → W} {v : α} (hp : pas = (if raw then exs ws else los ws)) (e : primF p ws = some (en v)) : PrP (δ := δ) p (fun v => .ex (en v)) raw pas (pure v) :=
  ⟨ws, some v, hp, rfl, fun v' ev => by cases ev; exact ⟨_, rfl, e⟩⟩
/-! ### calls -/
def CaP (call : Nat → Nat → List W → Hp → R W) (I : DI δ) (k : Nat) (pk : α → PA) : List PA → M δ α → Prop := fun pas m => CS I call k pas pk m
theorem AJ.cal {k : Nat} (q : EsJ I b call G es (CaP call I k pk) m) : AJ I b call G (.call k es) pk m := .mk fun r h d l o => by
  have z := q r h d l o
  cases hm : m d with
  | none => trivial
  | some p =>
    rw [hm] at z
    rcases z with ⟨us, h', d', m', pas, z1, z2, z3, z4, z5, z6⟩ | ⟨x, h', z1, z2, z3, z4⟩
    · have y := (show CS I call k pas pk m' from z5) b h' d' us z4 z2
      rw [z6] at y
      rw [e_call_, z1, R.bind_ok]
      exact y.later z3
    · obtain ⟨o1, o2⟩ := p
      simp only at z1
      subst z1
      exact ⟨h', by rw [e_call_, z2]; rfl, z3, z4⟩
/-! ### and, or, not, if -/
theorem VJ.not {c : Bool} (q : VJ I b call G e (.ex (.bl c))) : VJ I b call G (.not_ e) (.ex (.bl (!c))) := .mk fun r h l => by
  obtain ⟨u, e1, a1⟩ := q r h l
  cases (show u = .bl c from a1)
  exact ⟨_, by rw [e_not_, e1, R.bind_ok]; rfl, rfl⟩
theorem VJ.and {x y : Bool} (q : VJ I b call G a (.ex (.bl x))) (q2 : x = true → VJ I b call G c (.ex (.bl y))) : VJ I b call G (.and_ a c) (.ex (.bl (x && y))) := .mk fun r h l => by
  obtain ⟨u, e1, a1⟩ := q r h l
  cases (show u = .bl x from a1)
  cases x with
  | false => exact ⟨.bl false, by rw [e_and_, e1, R.bind_ok]; rfl, rfl⟩
  | true =>
    obtain ⟨u, e2, a2⟩ := q2 rfl r h l
    exact ⟨u, by rw [e_and_, e1, R.bind_ok]; exact e2, a2⟩
theorem VJ.or {x y : Bool} (q : VJ I b call G a (.ex (.bl x))) (q2 : x = false → VJ I b call G c (.ex (.bl y))) : VJ I b call G (.or_ a c) (.ex (.bl (x || y))) := .mk fun r h l => by
  obtain ⟨u, e1, a1⟩ := q r h l
  cases (show u = .bl x from a1)
  cases x with
  | true => exact ⟨.bl true, by rw [e_or_, e1, R.bind_ok]; rfl, rfl⟩
  | false =>
    obtain ⟨u, e2, a2⟩ := q2 rfl r h l
    exact ⟨u, by rw [e_or_, e1, R.bind_ok]; exact e2, a2⟩
theorem VJ.ite {x : Bool} {y z : PA} (q : VJ I b call G e (.ex (.bl x))) (q2 : x = true → VJ I b call G a y) (q3 : x = false → VJ I b call G c z) : VJ I b call G (.ite e a c) (if x then y else z) := .mk fun r h l => by
  obtain ⟨u, e1, a1⟩ := q r h l
  cases (show u = .bl x from a1)
  cases x with
  | true =>
    obtain ⟨u, e2, a2⟩ := q2 rfl r h l
    exact ⟨u, by rw [e_ite_, e1, R.bind_ok]; exact e2, a2⟩
  | false =>
    obtain ⟨u, e2, a2⟩ := q3 rfl r h l
    exact ⟨u, by rw [e_ite_, e1, R.bind_ok]; exact e2, a2⟩
theorem VJ.iteE {x : Bool} {y z : α} {en : α → W} (q : VJ I b call G e (.ex (.bl x))) (q2 : x = true → VJ I b call G a (.ex (en y))) (q3 : x = false → VJ I b call G c (.ex (en z))) : VJ I b call G (.ite e a c) (.ex (en (if x then y else z))) := by
  have := VJ.ite q q2 q3
  cases x <;> exact this
theorem bl_ite (c : Bool) {A B : M δ α} (d : δ) : (if c then A else B) d = if c then A d else B d := by cases c <;> rfl
/-- a test, then one of two runs -/
theorem EndE.bind {pb : β → PA} {res : R W} {f : W → Hp → R W} {k : α → M δ β} {h : Hp} {d : δ} (q : EndE I h pk res (m d)) (z : ∀ v u h1 d1, ArgOk I h1 (pk v) u → ES I h h1 → I.ok h1 d1 → EndE I h1 pb (f u h1) (k v d1)) : EndE I h pb (res.bind f) ((m >>= k) d) := by
  rw [M.bind_app]
  match hm : m d, q with
  | none, _ => trivial
  | some (.ok v, d'), q =>
    obtain ⟨u, h', e1, a1, x, o⟩ := q
    rw [e1]
    exact (z v u h' d' a1 x o).later x
  | some (.ex v, d'), q =>
    obtain ⟨h', e1, x, o⟩ := q
    rw [e1]
    exact ⟨h', rfl, x, o⟩
theorem AJ.not {mc : M δ Bool} (q : AJ I b call G e (fun c => .ex (.bl c)) mc) : AJ I b call G (.not_ e) (fun c => .ex (.bl c)) (mc >>= fun c => pure (!c)) := .mk fun r h d l o => by
  rw [e_not_]
  refine (q r h d l o).bind fun v u h1 d1 a1 x o1 => ?_
  cases (show u = .bl v from a1)
  exact ⟨_, h1, rfl, rfl, .refl, o1⟩
theorem AJ.iteV {x : Bool} {m2 : M δ α} (q : VJ I b call G e (.ex (.bl x))) (q2 : x = true → AJ I b call G a pk m) (q3 : x = false → AJ I b call G c pk m2) : AJ I b call G (.ite e a c) pk (if x then m else m2) := .mk fun r h d l o => by
  obtain ⟨u, e1, a1⟩ := q r h l
  cases (show u = .bl x from a1)
  rw [e_ite_, e1, R.bind_ok]
  cases x with
  | true => exact q2 rfl r h d l o
  | false => exact q3 rfl r h d l o
theorem AJ.iteA {mc : M δ Bool} {m2 : M δ α} (q : AJ I b call G e (fun c => .ex (.bl c)) mc) (q2 : AJ I b call G a pk m) (q3 : AJ I b call G c pk m2) : AJ I b call G (.ite e a c) pk (mc >>= fun x => if x then m else m2) := .mk fun r h d l o => by
  rw [e_ite_]
  refine (q r h d l o).bind fun v u h1 d1 a1 x o1 => ?_
  cases (show u = .bl v from a1)
  cases v with
  | true => exact q2 r h1 d1 (l.ext x) o1
  | false => exact q3 r h1 d1 (l.ext x) o1
theorem AJ.andV {x : Bool} {m2 : M δ Bool} (q : VJ I b call G a (.ex (.bl x))) (q2 : x = true → AJ I b call G c (fun c => .ex (.bl c)) m2) : AJ I b call G (.and_ a c) (fun c => .ex (.bl c)) (if x then m2 else pure false) := .mk fun r h d l o => by
  obtain ⟨u, e1, a1⟩ := q r h l
  cases (show u = .bl x from a1)
  rw [e_and_, e1, R.bind_ok]
  cases x with
  | true => exact q2 rfl r h d l o
  | false => exact ⟨_, h, rfl, rfl, .refl, o⟩
theorem AJ.andA {m1 m2 : M δ Bool} (q : AJ I b call G a (fun c => .ex (.bl c)) m1) (q2 : AJ I b call G c (fun c => .ex (.bl c)) m2) : AJ I b call G (.and_ a c) (fun c => .ex (.bl c)) (m1 >>= fun x => if x then m2 else pure false) := .mk fun r h d l o => by
  rw [e_and_]
  refine (q r h d l o).bind fun v u h1 d1 a1 x o1 => ?_
  cases (show u = .bl v from a1)
  cases v with
  | true => exact q2 r h1 d1 (l.ext x) o1
  | false => exact ⟨_, h1, rfl, rfl, .refl, o1⟩
theorem AJ.orV {x : Bool} {m2 : M δ Bool} (q : VJ I b call G a (.ex (.bl x))) (q2 : x = false → AJ I b call G c (fun c => .ex (.bl c)) m2) : AJ I b call G (.or_ a c) (fun c => .ex (.bl c)) (if x then pure true else m2) := .mk fun r h d l o => by
  obtain ⟨u, e1, a1⟩ := q r h l
  cases (show u = .bl x from a1)
  rw [e_or_, e1, R.bind_ok]
  cases x with
  | true => exact ⟨_, h, rfl, rfl, .refl, o⟩
  | false => exact q2 rfl r h d l o
theorem AJ.orA {m1 m2 : M δ Bool} (q : AJ I b call G a (fun c => .ex (.bl c)) m1) (q2 : AJ I b call G c (fun c => .ex (.bl c)) m2) : AJ I b call G (.or_ a c) (fun c => .ex (.bl c)) (m1 >>= fun x => if x then pure true else m2) := .mk fun r h d l o => by
  rw [e_or_]
  refine (q r h d l o).bind fun v u h1 d1 a1 x o1 => ?_
  cases (show u = .bl v from a1)
  cases v with
  | true => exact ⟨_, h1, rfl, rfl, .refl, o1⟩
  | false => exact q2 r h1 d1 (l.ext x) o1
end
end Ow

/-! Y2: comprehensions, targets. -/
namespace Ow
open PySem
variable {δ α β κ σ ρ : Type}

/-! ### what a comprehension makes -/
def lcG (f : α → M δ β) : List α → M δ (List β)
  | [] => pure []
  | x :: xs => M.nox (f x) >>= fun y => lcG f xs >>= fun ys => pure (y :: ys)
def lcGT (t : α → M δ Bool) (f : α → M δ β) : List α → M δ (List β)
  | [] => pure []
  | x :: xs => M.nox (t x) >>= fun c => if c then M.nox (f x) >>= fun y => lcGT t f xs >>= fun ys => pure (y :: ys) else lcGT t f xs
/-- [f x for x in xs] -/
def lcM (f : α → M δ β) (xs : List α) : M δ (List β) := if xs.length ≤ sizeLine then lcG f xs else M.fail
/-- [f x for x in xs if t x] -/
def lcT (t : α → M δ Bool) (f : α → M δ β) (xs : List α) : M δ (List β) := if xs.length ≤ sizeLine then lcGT t f xs else M.fail
theorem lcG_pure (g : α → β) : ∀ xs : List α, lcG (δ := δ) (fun x => pure (g x)) xs = pure (xs.map g)
  | [] => rfl
  | x :: xs => by rw [lcG, lcG_pure g xs]; rfl
theorem lcG_congr {f g : α → M δ β} : ∀ {xs : List α}, (∀ x ∈ xs, f x = g x) → lcG f xs = lcG g xs
  | [], _ => rfl
  | x :: xs, h => by
    rw [lcG, lcG, h x (List.mem_cons_self ..), lcG_congr fun y hy => h y (List.mem_cons_of_mem _ hy)]
theorem lcM_pure {f : α → M δ β} (g : α → β) {xs : List α} (hl : xs.length ≤ sizeLine) (h : ∀ x ∈ xs, f x = pure (g x)) : lcM f xs = pure (xs.map g) := by
  rw [lcM, if_pos hl, lcG_congr h, lcG_pure]
theorem lcGT_congr {t t' : α → M δ Bool} {f g : α → M δ β} : ∀ {xs : List α}, (∀ x ∈ xs, t x = t' x) → (∀ x ∈ xs, f x = g x) → lcGT t f xs = lcGT t' g xs
  | [], _, _ => rfl
  | x :: xs, h, h2 => by
    rw [lcGT, lcGT, h x (List.mem_cons_self ..), h2 x (List.mem_cons_self ..), lcGT_congr (fun y hy => h y (List.mem_cons_of_mem _ hy)) fun y hy => h2 y (List.mem_cons_of_mem _ hy)]
theorem lcGT_pure (p : α → Bool) {f : α → M δ β} (g : α → β) : ∀ {xs : List α}, (∀ x ∈ xs, p x = true → f x = pure (g x)) → lcGT (δ := δ) (fun x => pure (p x)) f xs = pure ((xs.filter p).map g)
  | [], _ => rfl
  | x :: xs, h => by
    have ih := lcGT_pure p g (xs := xs) fun y hy => h y (List.mem_cons_of_mem _ hy)
    rw [lcGT, M.nox_pure, pure_bind, ih]
    cases hp : p x with
    | true =>
      rw [h x (List.mem_cons_self ..) hp, List.filter_cons_of_pos hp]
      rfl
    | false =>
      rw [List.filter_cons_of_neg (by rw [hp]; decide)]
      rfl
theorem lcT_pure {t : α → M δ Bool} {f : α → M δ β} (p : α → Bool) (g : α → β) {xs : List α} (hl : xs.length ≤ sizeLine) (ht : ∀ x ∈ xs, t x = pure (p x)) (h : ∀ x ∈ xs, p x = true → f x = pure (g x)) : lcT t f xs = pure ((xs.filter p).map g) := by
  rw [lcT, if_pos hl, lcGT_congr (t' := fun x => pure (p x)) ht fun _ _ => rfl, lcGT_pure p g h]

/-! ### targets -/
section
variable (I : DI δ) (b : Nat)
structure TgP (G : List Slot) (t : Tg) (w : W) (G' : List Slot) : Prop where
  run : ∀ r h, Lay I b G r h → ∃ r2, bindT t w r = some r2 ∧ Lay I b G' r2 h
structure TgsP (G : List Slot) (ts : List Tg) (ws : List W) (G' : List Slot) : Prop where
  run : ∀ r h, Lay I b G r h → ∃ r2, bindTs ts ws r = some r2 ∧ Lay I b G' r2 h
instance {G G' : List Slot} {t : Tg} {w : W} : CoeFun (TgP I b G t w G') fun _ => ∀ r h, Lay I b G r h → ∃ r2, bindT t w r = some r2 ∧ Lay I b G' r2 h := ⟨TgP.run⟩
instance {G G' : List Slot} {ts : List Tg} {ws : List W} : CoeFun (TgsP I b G ts ws G') fun _ => ∀ r h, Lay I b G r h → ∃ r2, bindTs ts ws r = some r2 ∧ Lay I b G' r2 h := ⟨TgsP.run⟩
end
section
variable {I : DI δ} {b : Nat} {G G1 G2 : List Slot} {t : Tg} {ts : List Tg} {w : W} {ws : List W} {i : Nat}
theorem TgP.nm (hi : (decide (i < G.length)) = true) : TgP I b G (.nm i) w (sup G i (.kn w)) := .mk fun r h l =>
  ⟨r.set i (some w), by rw [bind_nm, if_pos (by rw [l.len]; exact of_decide_eq_true hi)], l.set⟩
theorem TgP.tp (q : TgsP I b G ts ws G1) : TgP I b G (.tp ts) (.tup ws) G1 := .mk fun r h l => by
  obtain ⟨r2, e, l2⟩ := q r h l
  exact ⟨r2, by rw [bindT]; exact e, l2⟩
theorem TgsP.nil : TgsP I b G [] [] G := .mk fun r h l => ⟨r, by rw [bindTs], l⟩
theorem TgsP.cons (q : TgP I b G t w G1) (qs : TgsP I b G1 ts ws G2) : TgsP I b G (t :: ts) (w :: ws) G2 := .mk fun r h l => by
  obtain ⟨r2, e, l2⟩ := q r h l
  obtain ⟨r3, e3, l3⟩ := qs r2 h l2
  exact ⟨r3, by rw [bindTs, e]; exact e3, l3⟩
end

/-! ### sources -/
def SrP (k : ItK) (en : α → W) : List PA → M δ (List α) → Prop := fun pas m => ∃ (ws : List W) (o : Option (List α)), pas = los ws ∧ m = M.lift o ∧ ∀ xs, o = some xs → itemsOf k ws = some (xs.map en)
theorem SrP.tot {k : ItK} {en : α → W} {pas : List PA} {ws : List W} {xs : List α} (hp : pas = los ws) (e : itemsOf k ws = some (xs.map en)) : SrP (δ := δ) k en pas (pure xs) :=
  ⟨ws, some xs, hp, rfl, fun xs' z => by cases z; exact e⟩
theorem SrP.of {k : ItK} {en : α → W} {pas : List PA} {ws : List W} {o : Option (List α)} (hp : pas = los ws) (e : ∀ xs, o = some xs → itemsOf k ws = some (xs.map en)) : SrP (δ := δ) k en pas (M.lift o) := ⟨ws, o, hp, rfl, e⟩
theorem sameAt_refs {h h' : Hp} : ∀ {us : List W}, (∀ u ∈ us, ∀ m, u = .ref m → h'[m]? = h[m]?) → sameAt h h' us
  | [], _ => by simp [sameAt]
  | u :: us, z => by
    have ih := sameAt_refs (us := us) fun v hv => z v (List.mem_cons_of_mem _ hv)
    cases u <;> simp only [sameAt] <;> first | exact ih | exact ⟨(z _ (List.mem_cons_self ..) _ rfl).symm, ih⟩
theorem args_ref {I : DI δ} {h : Hp} : ∀ {ws us : List W}, Args I h (los ws) us → ∀ u ∈ us, ∀ m, u = .ref m → m < h.length ∧ ¬ I.F m
  | [], _, a, u, hu => by rw [show _ = [] from a] at hu; cases hu
  | w :: ws, us, a, u, hu => by
    obtain ⟨v, r, rfl, a1, a2⟩ := a
    rcases List.mem_cons.mp hu with rfl | hu
    · exact a1.2
    · exact args_ref a2 u hu
section
variable {I : DI δ} {b : Nat} {call : Nat → Nat → List W → Hp → R W} {G : List Slot} {e : Ex} {srcs : List Ex} {t : Tg} {k : ItK} {en : α → W} {eb : β → W} {pk : α → PA} {m : M δ α}
/-- a source's run, seen from behind -/
theorem EsJ.src {ms : M δ (List α)} (q : EsJ I b call G srcs (SrP k en) ms) (r : Env) (h : Hp) (d : δ) (l : Lay I b G r h) (o : I.ok h d) : match ms d with
    | none => True
    | some (.ok xs, d') => ∃ us h', evEs call b r srcs h = .ok us h' ∧ itemsOf k (us.map (deref h')) = some (xs.map en) ∧ (∀ u ∈ us, ∀ m, u = .ref m → m < h'.length ∧ ¬ I.F m) ∧ ES I h h' ∧ I.ok h' d'
    | some (.ex x, d') => ∃ h', evEs call b r srcs h = .exc x h' ∧ ES I h h' ∧ I.ok h' d' := by
  have z := q r h d l o
  match hm : ms d, z with
  | none, _ => trivial
  | some (.ok xs, d'), z =>
    rcases z with ⟨us, h', d'', m', pas, z1, z2, z3, z4, ⟨ws, o', rfl, z6, z7⟩, z8⟩ | ⟨x, h', z1, z2, z3, z4⟩
    · subst z6
      cases o' with
      | none => cases z8
      | some xs' =>
        have e8 : (some (Rs.ok xs', d'') : Option (Rs (List α) × δ)) = some (.ok xs, d') := z8
        cases e8
        exact ⟨us, h', z1, by rw [args_lo z2]; exact z7 xs rfl, args_ref z2, z3, z4⟩
    · cases z1
  | some (.ex v, d'), z =>
    rcases z with ⟨us, h', d'', m', pas, z1, z2, z3, z4, ⟨ws, o', rfl, z6, z7⟩, z8⟩ | ⟨x, h', z1, z2, z3, z4⟩
    · subst z6
      cases o' with
      | none => cases z8
      | some v' => cases z8
    · cases (show v = x by injection z1)
      exact ⟨h', z2, z3, z4⟩
theorem nox_some {m : M δ α} {d : δ} {p : Rs α × δ} (e : M.nox m d = some p) : ∃ a d', p = (.ok a, d') ∧ m d = some (.ok a, d') := by
  unfold M.nox at e
  split at e
  · cases e; exact ⟨_, _, rfl, by assumption⟩
  · cases e
theorem bind_some {m : M δ α} {f : α → M δ β} {d : δ} {p : Rs β × δ} (e : (m >>= f) d = some p) : (∃ a d', m d = some (.ok a, d') ∧ f a d' = some p) ∨ ∃ x d', m d = some (.ex x, d') ∧ p = (.ex x, d') := by
  rw [M.bind_app] at e
  split at e
  · exact .inl ⟨_, _, by assumption, e⟩
  · cases e; exact .inr ⟨_, _, by assumption, rfl⟩
  · cases e
theorem pure_some {a : α} {d : δ} {p : Rs α × δ} (e : (pure a : M δ α) d = some p) : p = (.ok a, d) := by cases e; rfl
def lcSel (t0 : Option (α → M δ Bool)) (f : α → M δ β) (xs : List α) : M δ (List β) := match t0 with
  | none => lcG f xs
  | some t => lcGT t f xs
/-- the loop of a comprehension -/
theorem lc_loop {body : W → Hp → R (Option W)} {us : List W} {h1 : Hp} {f : α → M δ β} {t0 : Option (α → M δ Bool)}
    (hr : ∀ u ∈ us, ∀ m, u = .ref m → m < h1.length ∧ ¬ I.F m)
    (hb : ∀ x h d, ES I h1 h → I.ok h d → match t0 with
      | none => (match M.nox (f x) d with
        | none => True
        | some (.ok y, d') => ∃ h', body (en x) h = .ok (some (eb y)) h' ∧ ES I h h' ∧ I.ok h' d'
        | some (.ex _, _) => True)
      | some t => (match M.nox (t x) d with
        | none => True
        | some (.ok false, d') => ∃ h', body (en x) h = .ok none h' ∧ ES I h h' ∧ I.ok h' d'
        | some (.ok true, d1) => (match M.nox (f x) d1 with
          | none => True
          | some (.ok y, d') => ∃ h', body (en x) h = .ok (some (eb y)) h' ∧ ES I h h' ∧ I.ok h' d'
          | some (.ex _, _) => True)
        | some (.ex _, _) => True)) :
    ∀ (xs : List α) (acc : List W) (h : Hp) (d : δ), ES I h1 h → I.ok h d → acc.length + xs.length ≤ sizeLine → ∀ p, lcSel t0 f xs d = some p → ∃ ys d' h', p = (.ok ys, d') ∧ lcLoop body (fun h2 => sameAt h1 h2 us) (xs.map en) acc h = .ok (acc ++ ys.map eb) h' ∧ ES I h h' ∧ I.ok h' d' := by
  intro xs
  induction xs with
  | nil =>
    intro acc h d x o hl p e
    have : (pure [] : M δ (List β)) d = some p := by cases t0 <;> exact e
    cases pure_some this
    exact ⟨[], d, h, rfl, by rw [List.map_nil, lcLoop, List.map_nil, List.append_nil], .refl, o⟩
  | cons a xs ih =>
    intro acc h d x o hl p e
    have hl' : acc.length + (xs.length + 1) ≤ sizeLine := by simpa using hl
    have hba := hb a h d x o
    have same : ∀ {h2}, ES I h h2 → sameAt h1 h2 us := fun x2 => sameAt_refs fun u hu m em => (x.trans x2).old m (hr u hu m em).1 (hr u hu m em).2
    have go : ∀ (y : β) (d1 : δ) (h2 : Hp), body (en a) h = .ok (some (eb y)) h2 → ES I h h2 → I.ok h2 d1 → ∀ m2 : M δ (List β), m2 = lcSel t0 f xs → (m2 >>= fun ys => pure (y :: ys)) d1 = some p → ∃ ys d' h', p = (.ok ys, d') ∧ lcLoop body (fun h2 => sameAt h1 h2 us) ((a :: xs).map en) acc h = .ok (acc ++ ys.map eb) h' ∧ ES I h h' ∧ I.ok h' d' := by
      intro y d1 h2 e1 x1 o1 m2 em e2
      rcases bind_some e2 with ⟨ys, d2, e3, e4⟩ | ⟨v, d2, e3, e4⟩
      · cases pure_some e4
        subst em
        obtain ⟨ys', d', h', q1, q2, q3, q4⟩ := ih (acc ++ [eb y]) h2 d1 (x.trans x1) o1 (by simp; omega) _ e3
        cases q1
        refine ⟨y :: ys, _, h', rfl, ?_, x1.trans q3, q4⟩
        rw [List.map_cons, lcLoop, e1]
        simp only
        rw [if_pos (same x1), if_pos (by omega), q2]
        simp
      · subst em
        obtain ⟨ys', d', h', q1, q2, q3, q4⟩ := ih (acc ++ [eb y]) h2 d1 (x.trans x1) o1 (by simp; omega) _ e3
        cases q1
    cases t0 with
    | none =>
      have e : (M.nox (f a) >>= fun y => lcG f xs >>= fun ys => pure (y :: ys)) d = some p := e
      rcases bind_some e with ⟨y, d1, e1, e2⟩ | ⟨v, d1, e1, e2⟩
      · simp only at hba
        rw [e1] at hba
        obtain ⟨h2, q1, q2, q3⟩ := hba
        exact go y d1 h2 q1 q2 q3 _ rfl e2
      · obtain ⟨_, _, z, _⟩ := nox_some e1
        cases z
    | some t =>
      have e : (M.nox (t a) >>= fun c => if c then M.nox (f a) >>= fun y => lcGT t f xs >>= fun ys => pure (y :: ys) else lcGT t f xs) d = some p := e
      rcases bind_some e with ⟨c, d1, e1, e2⟩ | ⟨v, d1, e1, e2⟩
      · simp only at hba
        rw [e1] at hba
        cases c with
        | true =>
          simp only at hba
          have e2 : (M.nox (f a) >>= fun y => lcGT t f xs >>= fun ys => pure (y :: ys)) d1 = some p := e2
          rcases bind_some e2 with ⟨y, d2, e3, e4⟩ | ⟨v, d2, e3, e4⟩
          · rw [e3] at hba
            obtain ⟨h2, q1, q2, q3⟩ := hba
            exact go y d2 h2 q1 q2 q3 _ rfl e4
          · obtain ⟨_, _, z, _⟩ := nox_some e3
            cases z
        | false =>
          obtain ⟨h2, q1, q2, q3⟩ := hba
          have e2 : lcGT t f xs d1 = some p := e2
          obtain ⟨ys', d', h', r1, r2, r3, r4⟩ := ih acc h2 d1 (x.trans q2) q3 (by omega) _ e2
          refine ⟨ys', d', h', r1, ?_, q2.trans r3, r4⟩
          rw [List.map_cons, lcLoop, q1]
          simp only
          rw [if_pos (same q2), r2]
      · obtain ⟨_, _, z, _⟩ := nox_some e1
        cases z
theorem body_run {f : α → M δ β} {x : α} {r2 : Env} {h : Hp} {d : δ} {Gx : List Slot} (q : AJ I b call Gx e (fun v => .ex (eb v)) (f x)) (l : Lay I b Gx r2 h) (o : I.ok h d) : match M.nox (f x) d with
    | none => True
    | some (.ok y, d') => ∃ h', evE call b r2 e h = .ok (eb y) h' ∧ ES I h h' ∧ I.ok h' d'
    | some (.ex _, _) => True := by
  have z := q r2 h d l o
  cases hm : M.nox (f x) d with
  | none => trivial
  | some p =>
    obtain ⟨y, d', rfl, e1⟩ := nox_some hm
    rw [e1] at z
    obtain ⟨u, h', q1, q2, q3, q4⟩ := z
    cases (show u = eb y from q2)
    exact ⟨h', q1, q3, q4⟩
theorem Lay.wiped (r : Env) {h : Hp} (l : Lay I b G r h) (t : Tg) : Lay I b (sups G t.names) (wipeE r t.names) h := l.wipe _
theorem AJ.lc {ms : M δ (List α)} {f : α → M δ β} {Gx : α → List Slot} (src : EsJ I b call G srcs (SrP k en) ms) (tg : ∀ x, TgP I b (sups G t.names) t (en x) (Gx x)) (body : ∀ x, AJ I b call (Gx x) e (fun v => .ex (eb v)) (f x)) :
    AJ I b call G (.lc false t k srcs [] e) (fun ys => .ex (.lst (ys.map eb))) (ms >>= lcM f) := .mk fun r h d l o => by
  rw [e_lcF_, M.bind_app]
  have z := src.src r h d l o
  match hm : ms d, z with
  | none, _ => trivial
  | some (.ex v, d'), z =>
    obtain ⟨h', e1, x, k'⟩ := z
    rw [e1]
    exact ⟨h', rfl, x, k'⟩
  | some (.ok xs, d'), z =>
    obtain ⟨us, h1, e1, e2, hr, x1, o1⟩ := z
    rw [e1, R.bind_ok, e2]
    simp only
    refine EndE.later x1 ?_
    unfold lcM
    split
    · rename_i hl
      cases hg : lcG f xs d' with
      | none => trivial
      | some p =>
        obtain ⟨ys, d2, h2, rfl, q1, q2, q3⟩ := lc_loop (I := I) (en := en) (eb := eb) (body := lcB call b r t [] e) (t0 := none) (f := f) hr (fun x hh dd xx oo => by
          obtain ⟨r2, eb2, l2⟩ := tg x _ _ (((l.ext x1).ext xx).wiped r t)
          have := body_run (body x) l2 oo
          simp only
          cases hm : M.nox (f x) dd with
          | none => trivial
          | some p =>
            rw [hm] at this
            obtain ⟨y, d3, rfl, _⟩ := nox_some hm
            obtain ⟨h', z1, z2, z3⟩ := this
            exact ⟨h', by rw [lcB_nil eb2, z1]; rfl, z2, z3⟩) xs [] h1 d' .refl o1 (by simpa using hl) p hg
        rw [q1]
        exact ⟨_, h2, rfl, rfl, q2, q3⟩
    · trivial
theorem AJ.lcT {ms : M δ (List α)} {f : α → M δ β} {c : Ex} {tt : α → M δ Bool} {Gx : α → List Slot} (src : EsJ I b call G srcs (SrP k en) ms) (tg : ∀ x, TgP I b (sups G t.names) t (en x) (Gx x)) (test : ∀ x, AJ I b call (Gx x) c (fun v => .ex (.bl v)) (tt x)) (body : ∀ x, AJ I b call (Gx x) e (fun v => .ex (eb v)) (f x)) :
    AJ I b call G (.lc false t k srcs [c] e) (fun ys => .ex (.lst (ys.map eb))) (ms >>= Ow.lcT tt f) := .mk fun r h d l o => by
  rw [e_lcF_, M.bind_app]
  have z := src.src r h d l o
  match hm : ms d, z with
  | none, _ => trivial
  | some (.ex v, d'), z =>
    obtain ⟨h', e1, x, k'⟩ := z
    rw [e1]
    exact ⟨h', rfl, x, k'⟩
  | some (.ok xs, d'), z =>
    obtain ⟨us, h1, e1, e2, hr, x1, o1⟩ := z
    rw [e1, R.bind_ok, e2]
    simp only
    refine EndE.later x1 ?_
    unfold Ow.lcT
    split
    · rename_i hl
      cases hg : lcGT tt f xs d' with
      | none => trivial
      | some p =>
        obtain ⟨ys, d2, h2, rfl, q1, q2, q3⟩ := lc_loop (I := I) (en := en) (eb := eb) (body := lcB call b r t [c] e) (t0 := some tt) (f := f) hr (fun x hh dd xx oo => by
          obtain ⟨r2, eb2, l2⟩ := tg x _ _ (((l.ext x1).ext xx).wiped r t)
          have tr := body_run (test x) l2 oo
          simp only
          cases ht : M.nox (tt x) dd with
          | none => trivial
          | some p =>
            rw [ht] at tr
            obtain ⟨cv, d3, rfl, _⟩ := nox_some ht
            obtain ⟨h3, y1, y2, y3⟩ := tr
            cases cv with
            | false => exact ⟨h3, by rw [lcB_one eb2, y1]; rfl, y2, y3⟩
            | true =>
              have := body_run (body x) (l2.ext y2) y3
              simp only
              cases hm : M.nox (f x) d3 with
              | none => trivial
              | some p =>
                rw [hm] at this
                obtain ⟨y, d4, rfl, _⟩ := nox_some hm
                obtain ⟨h', z1, z2, z3⟩ := this
                refine ⟨h', ?_, y2.trans z2, z3⟩
                rw [lcB_one eb2, y1, R.bind_ok]
                simp only [truthW, d_bl, tc_t]
                rw [z1]
                rfl) xs [] h1 d' .refl o1 (by simpa using hl) p hg
        rw [q1]
        exact ⟨_, h2, rfl, rfl, q2, q3⟩
    · trivial
end
end Ow

/-! Y3: statements, defs. -/
namespace Ow
open PySem
variable {δ α β κ σ ρ : Type}

/-- how a block may end -/
inductive En where
  | nx (G : List Slot)
  | jn (G : List Slot)
  | br (G : List Slot)
  | rt (w : W)
  | fe (w : W)
inductive Ctl (σ ρ : Type) where
  | nx (s : σ)
  | br (s : σ)
  | rt (v : ρ)
def Ctl.go (c : Ctl σ ρ) (k : σ → M δ κ) (kr : ρ → M δ κ) : M δ κ := match c with
  | .nx s => k s
  | .br s => k s
  | .rt v => kr v
@[simp] theorem Ctl.go_nx (s : σ) (k : σ → M δ κ) (kr : ρ → M δ κ) : (Ctl.nx s : Ctl σ ρ).go k kr = k s := rfl
@[simp] theorem Ctl.go_br (s : σ) (k : σ → M δ κ) (kr : ρ → M δ κ) : (Ctl.br s : Ctl σ ρ).go k kr = k s := rfl
@[simp] theorem Ctl.go_rt (s : ρ) (k : σ → M δ κ) (kr : ρ → M δ κ) : (Ctl.rt s : Ctl σ ρ).go k kr = kr s := rfl
def forG (g : α → σ → M δ σ) : List α → σ → M δ σ
  | [], s => pure s
  | x :: xs, s => g x s >>= fun s' => forG g xs s'
def forX (g : α → σ → M δ (Ctl σ ρ)) : List α → σ → M δ (Ctl σ ρ)
  | [], s => pure (.nx s)
  | x :: xs, s => g x s >>= fun c => match c with
    | .nx s' => forX g xs s'
    | .br s' => pure (.nx s')
    | .rt v => pure (.rt v)
def whileG (t : σ → M δ Bool) (g : σ → M δ σ) : Nat → σ → M δ σ
  | 0, _ => M.fail
  | n + 1, s => t s >>= fun c => if c then g s >>= fun s' => whileG t g n s' else pure s
def whileX (t : σ → M δ Bool) (g : σ → M δ (Ctl σ ρ)) : Nat → σ → M δ (Ctl σ ρ)
  | 0, _ => M.fail
  | n + 1, s => t s >>= fun c => if c then g s >>= fun c => match c with
    | .nx s' => whileX t g n s'
    | .br s' => pure (.nx s')
    | .rt v => pure (.rt v)
    else pure (.nx s)

section
variable (I : DI δ) (b : Nat)
def EnOk : En → RS → Hp → Prop
  | .nx G, rs, h => ∃ r, (rs = .nxt r h ∨ rs = .cnt r h) ∧ Lay I b G r h
  | .jn G, rs, h => ∃ r, rs = .nxt r h ∧ Lay I b G r h
  | .br G, rs, h => ∃ r, rs = .brk r h ∧ Lay I b G r h
  | .rt w, rs, h => rs = .ret w h
  | .fe w, rs, h => rs = .ret w h ∨ (w = .non ∧ ∃ r, rs = .nxt r h)
def EndB (h : Hp) (Fin : κ → En) (res : RS) : Option (Rs κ × δ) → Prop
  | none => True
  | some (.ok k, d) => ∃ h', EnOk I b (Fin k) res h' ∧ BS I b h h' ∧ I.ok h' d
  | some (.ex x, d) => ∃ r h', res = .exc x r h' ∧ BS I b h h' ∧ I.ok h' d
structure BJ (call : Nat → Nat → List W → Hp → R W) (N : Nat) (G : List Slot) (ss : List St) (Fin : κ → En) (m : M δ κ) : Prop where
  run : ∀ r h d, Lay I b G r h → I.ok h d → EndB I b h Fin (evB call N b ss r h) (m d)
instance {call : Nat → Nat → List W → Hp → R W} {N : Nat} {G : List Slot} {ss : List St} {Fin : κ → En} {m : M δ κ} : CoeFun (BJ I b call N G ss Fin m) fun _ => ∀ r h d, Lay I b G r h → I.ok h d → EndB I b h Fin (evB call N b ss r h) (m d) := ⟨BJ.run⟩
end
section
variable {I : DI δ} {b : Nat} {call : Nat → Nat → List W → Hp → R W} {N : Nat} {G G' : List Slot} {e c : Ex} {ss sa sb : List St} {Fin : κ → En} {pk : α → PA} {m : M δ α} {mk : M δ κ} {w : W} {i : Nat} {k : α → M δ κ} {t : Tg} {en : α → W}
theorem EndB.later {h h1 : Hp} {res : RS} {o : Option (Rs κ × δ)} (x : BS I b h h1) (q : EndB I b h1 Fin res o) : EndB I b h Fin res o := by
  match o, q with
  | none, _ => trivial
  | some (.ok v, d), ⟨h', a, x', k⟩ => exact ⟨h', a, x.trans x', k⟩
  | some (.ex v, d), ⟨r, h', e, x', k⟩ => exact ⟨r, h', e, x.trans x', k⟩
theorem EndE.ofR {h : Hp} {r : Env} {d : δ} {res : R W} {f : W → Hp → RS} {g : Env → Hp → RS} (q : EndE I h pk res (m d)) (hb : b ≤ h.length) (z : ∀ v u h1 d1, ArgOk I h1 (pk v) u → ES I h h1 → I.ok h1 d1 → EndB I b h1 Fin ((f u h1).andThen g) (k v d1)) :
    EndB I b h Fin ((ofR res r f).andThen g) ((m >>= k) d) := by
  rw [M.bind_app]
  match hm : m d, q with
  | none, _ => trivial
  | some (.ok v, d'), q =>
    obtain ⟨u, h', e1, a1, x, o⟩ := q
    rw [e1]
    exact (z v u h' d' a1 x o).later (x.bs hb)
  | some (.ex v, d'), q =>
    obtain ⟨h', e1, x, o⟩ := q
    rw [e1]
    exact ⟨r, h', rfl, x.bs hb, o⟩
theorem BJ.asgT {Gt : α → List Slot} (q : AJ I b call G e (fun v => .ex (en v)) m) (tg : ∀ v, TgP I b G t (en v) (Gt v)) (rest : ∀ v, BJ I b call N (Gt v) ss Fin (k v)) : BJ I b call N G (.asg t e :: ss) Fin (m >>= k) := .mk fun r h d l o => by
  rw [b_cons_, s_asg_]
  refine (q r h d l o).ofR l.hb fun v u h1 d1 a1 x o1 => ?_
  cases (show u = en v from a1)
  obtain ⟨r2, e2, l2⟩ := tg v r h1 (l.ext x)
  rw [e2, nx_s, RS.andThen_nxt]
  exact rest v r2 h1 d1 l2 o1
theorem BJ.asg (q : AJ I b call G e (fun v => .ex (en v)) m) (rest : ∀ v, BJ I b call N (sup G i (.kn (en v))) ss Fin (k v)) (hi : (decide (i < G.length)) = true := by rfl) : BJ I b call N G (.asg (.nm i) e :: ss) Fin (m >>= k) :=
  BJ.asgT q (fun v => TgP.nm hi) rest
theorem BJ.exp {pk : α → PA} (q : AJ I b call G e pk m) (rest : BJ I b call N G ss Fin mk) : BJ I b call N G (.exp e :: ss) Fin (m >>= fun _ => mk) := .mk fun r h d l o => by
  rw [b_cons_, s_exp_]
  refine (q r h d l o).ofR l.hb fun v u h1 d1 a1 x o1 => ?_
  rw [RS.andThen_nxt]
  exact rest r h1 d1 (l.ext x) o1
/-- a returned value -/
def RtOk (en : En) (w : W) : Prop := match en with
  | .rt u => u = w
  | .fe u => u = w
  | _ => False
theorem BJ.ret {cv : α → κ} (q : AJ I b call G e (fun v => .ex (en v)) m) (hr : ∀ v, RtOk (Fin (cv v)) (en v)) : BJ I b call N G (.ret e :: ss) Fin (m >>= fun v => pure (cv v)) := .mk fun r h d l o => by
  rw [b_cons_, s_ret_]
  refine (q r h d l o).ofR l.hb fun v u h1 d1 a1 x o1 => ?_
  cases (show u = en v from a1)
  rw [RS.andThen_ret]
  have z := hr v
  refine ⟨h1, ?_, .refl, o1⟩
  cases hf : Fin (cv v) with
  | rt u => rw [hf] at z; cases (show u = en v from z); rfl
  | fe u => rw [hf] at z; cases (show u = en v from z); exact .inl rfl
  | nx _ => rw [hf] at z; exact z.elim
  | jn _ => rw [hf] at z; exact z.elim
  | br _ => rw [hf] at z; exact z.elim
/-- a def's last return -/
theorem BJ.retE {Fin : α → En} (q : AJ I b call G e (fun v => .ex (en v)) m) (hr : ∀ v, RtOk (Fin v) (en v)) : BJ I b call N G (.ret e :: ss) Fin m := by
  have := BJ.ret (N := N) (ss := ss) (cv := id) q hr
  simpa using this
def NilOk (en : En) (G : List Slot) : Prop := match en with
  | .nx G' => GLe G' G
  | .jn G' => GLe G' G
  | .fe w => w = .non
  | _ => False
theorem BJ.nil {v : κ} (hn : NilOk (Fin v) G) : BJ I b call N G [] Fin (pure v) := .mk fun r h d l o => by
  rw [b_nil]
  refine ⟨h, ?_, .refl, o⟩
  cases hf : Fin v with
  | nx G' => rw [hf] at hn; exact ⟨r, .inl rfl, l.weaken hn⟩
  | jn G' => rw [hf] at hn; exact ⟨r, rfl, l.weaken hn⟩
  | fe w => rw [hf] at hn; exact .inr ⟨hn, r, rfl⟩
  | rt _ => rw [hf] at hn; exact hn.elim
  | br _ => rw [hf] at hn; exact hn.elim
theorem BJ.cnt {v : κ} {G' : List Slot} (hf : Fin v = .nx G') (hg : GLe G' G) : BJ I b call N G (.cnt :: ss) Fin (pure v) := .mk fun r h d l o => by
  rw [b_cons_, s_cnt]
  exact ⟨h, by rw [hf]; exact ⟨r, .inr rfl, l.weaken hg⟩, .refl, o⟩
theorem BJ.brk {v : κ} {G' : List Slot} (hf : Fin v = .br G') (hg : GLe G' G) : BJ I b call N G (.brk :: ss) Fin (pure v) := .mk fun r h d l o => by
  rw [b_cons_, s_brk]
  exact ⟨h, by rw [hf]; exact ⟨r, rfl, l.weaken hg⟩, .refl, o⟩
theorem BJ.pass (q : BJ I b call N G ss Fin mk) : BJ I b call N G (.pass :: ss) Fin mk := .mk fun r h d l o => by
  rw [b_cons_, s_pass]
  exact q r h d l o
theorem evB_app : ∀ (a s : List St) (r : Env) (h : Hp), evB call N b (a ++ s) r h = (evB call N b a r h).andThen fun r1 h1 => evB call N b s r1 h1
  | [], s, r, h => by rw [List.nil_append, b_nil, RS.andThen_nxt]
  | x :: a, s, r, h => by
    rw [List.cons_append, b_cons_, b_cons_]
    cases evS call N b x r h <;> first | rfl | (simp only [RS.andThen]; exact evB_app a s _ _)
theorem if_app {x : Bool} {A B : M δ κ} (d : δ) : (if x then A else B) d = if x then A d else B d := by cases x <;> rfl
theorem BJ.iffV {x : Bool} {mA mB : M δ κ} (q : VJ I b call G c (.ex (.bl x))) (qa : BJ I b call N G (sa ++ ss) Fin mA) (qb : BJ I b call N G (sb ++ ss) Fin mB) : BJ I b call N G (.iff c sa sb :: ss) Fin (if x then mA else mB) := .mk fun r h d l o => by
  obtain ⟨u, e1, a1⟩ := q r h l
  cases (show u = .bl x from a1)
  rw [b_cons_, s_iff_, e1, ofR_ok]
  cases x with
  | true =>
    have := qa r h d l o
    rw [evB_app] at this
    exact this
  | false =>
    have := qb r h d l o
    rw [evB_app] at this
    exact this
theorem BJ.iffA {mc : M δ Bool} {mA mB : M δ κ} (q : AJ I b call G c (fun x => .ex (.bl x)) mc) (qa : BJ I b call N G (sa ++ ss) Fin mA) (qb : BJ I b call N G (sb ++ ss) Fin mB) : BJ I b call N G (.iff c sa sb :: ss) Fin (mc >>= fun x => if x then mA else mB) := .mk fun r h d l o => by
  rw [b_cons_, s_iff_]
  refine (q r h d l o).ofR l.hb fun v u h1 d1 a1 x o1 => ?_
  cases (show u = .bl v from a1)
  cases v with
  | true =>
    have := qa r h1 d1 (l.ext x) o1
    rw [evB_app] at this
    exact this
  | false =>
    have := qb r h1 d1 (l.ext x) o1
    rw [evB_app] at this
    exact this
theorem Lay.bs_hb {r : Env} {h h' : Hp} (l : Lay I b G r h) (x : BS I b h h') : b ≤ h'.length := Nat.le_trans l.hb x.len
/-- two ways that meet -/
theorem BJ.join {Gj : σ → List Slot} {ms : M δ σ} {k : σ → M δ κ} (qa : BJ I b call N G sa (fun s => .jn (Gj s)) ms) (rest : ∀ s, BJ I b call N (Gj s) ss Fin (k s)) : BJ I b call N G (sa ++ ss) Fin (ms >>= k) := .mk fun r h d l o => by
  have z := qa r h d l o
  rw [evB_app, M.bind_app]
  match hm : ms d, z with
  | none, _ => trivial
  | some (.ok v, d'), z =>
    obtain ⟨h', ⟨r', e1, l'⟩, x, o'⟩ := z
    rw [e1, RS.andThen_nxt]
    exact (rest v r' h' d' l' o').later x
  | some (.ex v, d'), z =>
    obtain ⟨r', h', e1, x, o'⟩ := z
    rw [e1]
    exact ⟨r', h', rfl, x, o'⟩
end

/-! ### loops -/
def lbs (b : Nat) (ws : List W) : List PA := ws.map (.lb b)
def SbP (b : Nat) (k : ItK) (en : α → W) : List PA → M δ (List α) → Prop := fun pas m => ∃ (ws : List W) (o : Option (List α)), pas = lbs b ws ∧ m = M.lift o ∧ ∀ xs, o = some xs → itemsOf k ws = some (xs.map en)
theorem SbP.tot {b : Nat} {k : ItK} {en : α → W} {pas : List PA} {ws : List W} {xs : List α} (hp : pas = lbs b ws) (e : itemsOf k ws = some (xs.map en)) : SbP (δ := δ) b k en pas (pure xs) :=
  ⟨ws, some xs, hp, rfl, fun xs' z => by cases z; exact e⟩
theorem SbP.of {b : Nat} {k : ItK} {en : α → W} {pas : List PA} {ws : List W} {o : Option (List α)} (hp : pas = lbs b ws) (e : ∀ xs, o = some xs → itemsOf k ws = some (xs.map en)) : SbP (δ := δ) b k en pas (M.lift o) := ⟨ws, o, hp, rfl, e⟩
theorem args_lb {I : DI δ} {h : Hp} {b : Nat} : ∀ {ws us : List W}, Args I h (lbs b ws) us → us.map (deref h) = ws ∧ ∀ u ∈ us, ∀ m, u = .ref m → m < b ∧ ¬ I.F m
  | [], _, a => by rw [show _ = [] from a]; exact ⟨rfl, fun u hu => by cases hu⟩
  | w :: ws, us, a => by
    obtain ⟨v, r, rfl, a1, a2⟩ := a
    obtain ⟨i1, i2⟩ := args_lb a2
    refine ⟨by rw [List.map_cons, a1.1, i1], fun u hu => ?_⟩
    rcases List.mem_cons.mp hu with rfl | hu
    · exact fun m em => ⟨(a1.2 m em).1.1, (a1.2 m em).2⟩
    · exact i2 u hu
section
variable {I : DI δ} {b : Nat} {call : Nat → Nat → List W → Hp → R W} {N : Nat} {G G' : List Slot} {e c : Ex} {ss body : List St} {srcs : List Ex} {kill : List Nat} {Fin : κ → En} {kk : ItK} {t : Tg} {en : α → W}
theorem VJ.lb {w : W} (q : VJ I b call G e (.ex w)) (n : nref w = true := by rfl) : VJ I b call G e (.lb b w) := .mk fun r h l => by
  obtain ⟨u, e1, a1⟩ := q r h l
  cases (show u = w from a1)
  exact ⟨_, e1, deref_nref n, fun m em => by subst em; cases n⟩
theorem AJ.lb {m : M δ α} (q : AJ I b call G e (fun v => .ex (en v)) m) (n : ∀ v, nref (en v) = true := by intro _; rfl) : AJ I b call G e (fun v => .lb b (en v)) m := .mk fun r h d l o => by
  have z := q r h d l o
  match hm : m d, z with
  | none, _ => trivial
  | some (.ok v, d'), z =>
    obtain ⟨u, h', e1, a1, x, k⟩ := z
    cases (show u = en v from a1)
    exact ⟨_, h', e1, ⟨deref_nref (n v), fun m em => by have := n v; rw [em] at this; cases this⟩, x, k⟩
  | some (.ex v, d'), z => exact z
/-- a source that stays -/
theorem EsJ.srcB {ms : M δ (List α)} (q : EsJ I b call G srcs (SbP b kk en) ms) (r : Env) (h : Hp) (d : δ) (l : Lay I b G r h) (o : I.ok h d) : match ms d with
    | none => True
    | some (.ok xs, d') => ∃ us h', evEs call b r srcs h = .ok us h' ∧ itemsOf kk (us.map (deref h')) = some (xs.map en) ∧ (∀ u ∈ us, ∀ m, u = .ref m → m < b ∧ ¬ I.F m) ∧ ES I h h' ∧ I.ok h' d'
    | some (.ex x, d') => ∃ h', evEs call b r srcs h = .exc x h' ∧ ES I h h' ∧ I.ok h' d' := by
  have z := q r h d l o
  match hm : ms d, z with
  | none, _ => trivial
  | some (.ok xs, d'), z =>
    rcases z with ⟨us, h', d'', m', pas, z1, z2, z3, z4, ⟨ws, o', rfl, z6, z7⟩, z8⟩ | ⟨x, h', z1, z2, z3, z4⟩
    · subst z6
      cases o' with
      | none => cases z8
      | some xs' =>
        have e8 : (some (Rs.ok xs', d'') : Option (Rs (List α) × δ)) = some (.ok xs, d') := z8
        cases e8
        obtain ⟨i1, i2⟩ := args_lb z2
        exact ⟨us, h', z1, by rw [i1]; exact z7 xs rfl, i2, z3, z4⟩
    · cases z1
  | some (.ex v, d'), z =>
    rcases z with ⟨us, h', d'', m', pas, z1, z2, z3, z4, ⟨ws, o', rfl, z6, z7⟩, z8⟩ | ⟨x, h', z1, z2, z3, z4⟩
    · subst z6
      cases o' with
      | none => cases z8
      | some v' => cases z8
    · cases (show v = x by injection z1)
      exact ⟨h', z2, z3, z4⟩
/-- the turns -/
theorem for_loop {Gs : σ → List Slot} {Gx : α → σ → List Slot} {g : α → σ → M δ (Ctl σ ρ)} {er : ρ → W} {keep : Hp → Prop} (hk : ∀ s, sups (Gs s) kill = Gs s)
    (tg : ∀ x s, TgP I b (Gs s) t (en x) (Gx x s)) (hb : ∀ x s, BJ I b call N (Gx x s) body (fun c : Ctl σ ρ => match c with
      | .nx s => .nx (Gs s)
      | .br s => .br (Gs s)
      | .rt v => .rt (er v)) (g x s))
    (hkeep : ∀ s r h, Lay I b (Gs s) r h → ∀ h1, BS I b h1 h → keep h1 → keep h) :
    ∀ (xs : List α) (s : σ) (r : Env) (h : Hp) (d : δ), Lay I b (Gs s) (wipeE r kill) h → I.ok h d → keep h → ∀ p, forX g xs s d = some p →
      (∃ s' d' r' h', p = (.ok (.nx s'), d') ∧ forLoop (forB call N b t body) kill keep (xs.map en) r h = .nxt r' h' ∧ Lay I b (Gs s') r' h' ∧ BS I b h h' ∧ I.ok h' d') ∨
      (∃ v d' h', p = (.ok (.rt v), d') ∧ forLoop (forB call N b t body) kill keep (xs.map en) r h = .ret (er v) h' ∧ BS I b h h' ∧ I.ok h' d') ∨
      (∃ x d' r' h', p = (.ex x, d') ∧ forLoop (forB call N b t body) kill keep (xs.map en) r h = .exc x r' h' ∧ BS I b h h' ∧ I.ok h' d') := by
  intro xs
  induction xs with
  | nil =>
    intro s r h d l o kp p e
    cases pure_some (show (pure (Ctl.nx s) : M δ (Ctl σ ρ)) d = some p from e)
    exact .inl ⟨s, d, _, h, rfl, by rw [List.map_nil, for_nil], l, .refl, o⟩
  | cons x xs ih =>
    intro s r h d l o kp p e
    obtain ⟨r2, e2, l2⟩ := tg x s _ _ l
    have z := hb x s r2 h d l2 o
    have ef : forB call N b t body (en x) (wipeE r kill) h = evB call N b body r2 h := by unfold forB; rw [e2]
    rw [List.map_cons]
    rcases bind_some (show (g x s >>= fun c => match c with
      | .nx s' => forX g xs s'
      | .br s' => pure (.nx s')
      | .rt v => pure (.rt v)) d = some p from e) with ⟨cv, d1, e3, e4⟩ | ⟨v, d1, e3, e4⟩
    · rw [e3] at z
      obtain ⟨h1, z1, z2, z3⟩ := z
      cases cv with
      | nx s1 =>
        obtain ⟨r1, z1, l1⟩ := z1
        have lw : Lay I b (Gs s1) (wipeE r1 kill) h1 := by have := l1.wipe kill; rw [hk] at this; exact this
        have kp1 := hkeep s1 r1 h1 l1 h z2 kp
        have step : forLoop (forB call N b t body) kill keep (en x :: xs.map en) r h = forLoop (forB call N b t body) kill keep (xs.map en) r1 h1 := by
          rw [forLoop, ef]
          rcases z1 with z1 | z1 <;> rw [z1] <;> simp only [if_pos kp1]
        rw [step]
        rcases ih s1 r1 h1 d1 lw z3 kp1 p e4 with ⟨s', d', r', h', q1, q2, q3, q4, q5⟩ | ⟨v, d', h', q1, q2, q3, q4⟩ | ⟨v, d', r', h', q1, q2, q3, q4⟩
        · exact .inl ⟨s', d', r', h', q1, q2, q3, z2.trans q4, q5⟩
        · exact .inr (.inl ⟨v, d', h', q1, q2, z2.trans q3, q4⟩)
        · exact .inr (.inr ⟨v, d', r', h', q1, q2, z2.trans q3, q4⟩)
      | br s1 =>
        cases pure_some (show (pure (Ctl.nx s1) : M δ (Ctl σ ρ)) d1 = some p from e4)
        obtain ⟨r1, z1, l1⟩ := z1
        have lw : Lay I b (Gs s1) (wipeE r1 kill) h1 := by have := l1.wipe kill; rw [hk] at this; exact this
        exact .inl ⟨s1, d1, _, h1, rfl, by rw [forLoop, ef, z1], lw, z2, z3⟩
      | rt v =>
        cases pure_some (show (pure (Ctl.rt v) : M δ (Ctl σ ρ)) d1 = some p from e4)
        have z1 : evB call N b body r2 h = .ret (er v) h1 := z1
        exact .inr (.inl ⟨v, d1, h1, rfl, by rw [forLoop, ef, z1], z2, z3⟩)
    · rw [e3] at z
      obtain ⟨r1, h1, z1, z2, z3⟩ := z
      exact .inr (.inr ⟨v, d1, r1, h1, e4, by rw [forLoop, ef, z1], z2, z3⟩)
theorem forX_ofG (g : α → σ → M δ σ) : ∀ (xs : List α) (s : σ), forX (ρ := ρ) (fun x s => g x s >>= fun s' => pure (.nx s')) xs s = forG g xs s >>= fun s' => pure (.nx s')
  | [], s => rfl
  | x :: xs, s => by
    rw [forX, forG, bind_assoc, bind_assoc]
    congr 1
    funext s'
    rw [pure_bind]
    exact forX_ofG g xs s'
/-- a for whose turns may return -/
theorem BJ.forX {Gs : σ → List Slot} {Gx : α → σ → List Slot} {ms : M δ (List α)} {s0 : σ} {g : α → σ → M δ (Ctl σ ρ)} {k : σ → M δ κ} {er : ρ → W} {cr : ρ → κ} (src : EsJ I b call G srcs (SbP b kk en) ms)
    (h0 : GLe (Gs s0) (sups G kill)) (hk : ∀ s, sups (Gs s) kill = Gs s) (tg : ∀ x s, TgP I b (Gs s) t (en x) (Gx x s))
    (hb : ∀ x s, BJ I b call N (Gx x s) body (fun c : Ctl σ ρ => match c with
      | .nx s => .nx (Gs s)
      | .br s => .br (Gs s)
      | .rt v => .rt (er v)) (g x s))
    (rest : ∀ s, BJ I b call N (Gs s) ss Fin (k s)) (hr : ∀ v, RtOk (Fin (cr v)) (er v)) :
    BJ I b call N G (.forr false t kk srcs kill body :: ss) Fin (ms >>= fun xs => Ow.forX g xs s0 >>= fun c => c.go k fun v => pure (cr v)) := .mk fun r h d l o => by
  rw [b_cons_, s_for_, M.bind_app]
  have z := src.srcB r h d l o
  match hm : ms d, z with
  | none, _ => trivial
  | some (.ex v, d'), z =>
    obtain ⟨h', e1, x, k'⟩ := z
    rw [e1]
    exact ⟨r, h', rfl, x.bs l.hb, k'⟩
  | some (.ok xs, d'), z =>
    obtain ⟨us, h1, e1, e2, hu, x1, o1⟩ := z
    rw [e1, ofRs_ok, e2]
    refine EndB.later (x1.bs l.hb) ?_
    have l1 : Lay I b (Gs s0) (wipeE r kill) h1 := ((l.ext x1).wipe kill).weaken h0
    have key := for_loop (er := er) (keep := fun h2 => sameAt h1 h2 us) hk tg hb (fun s r2 h2 l2 h3 x3 kp => sameAt_refs fun u hu2 m em => by
      have hm := hu u hu2 m em
      have : ∀ (us : List W), u ∈ us → sameAt h1 h3 us → h1[m]? = h3[m]? := by
        intro us
        induction us with
        | nil => intro q; cases q
        | cons v vs ih =>
          intro q sm
          rcases List.mem_cons.mp q with rfl | q
          · subst em; simp only [sameAt] at sm; exact sm.1
          · refine ih q ?_
            cases v <;> simp only [sameAt] at sm <;> first | exact sm | exact sm.2
      exact (x3.old m hm.1 hm.2).trans (this us hu2 kp).symm) xs s0 r h1 d' l1 o1 (sameAt_refs fun _ _ _ _ => rfl)
    dsimp only
    rw [M.bind_app]
    cases hf : Ow.forX g xs s0 d' with
    | none => trivial
    | some p =>
      rcases key p hf with ⟨s', d2, r', h', rfl, q2, q3, q4, q5⟩ | ⟨v, d2, h', rfl, q2, q3, q4⟩ | ⟨v, d2, r', h', rfl, q2, q3, q4⟩
      · rw [q2, RS.andThen_nxt]
        exact (rest s' r' h' d2 q3 q5).later q4
      · rw [q2, RS.andThen_ret]
        refine ⟨h', ?_, q3, q4⟩
        have z := hr v
        cases hf : Fin (cr v) with
        | rt u => rw [hf] at z; cases (show u = er v from z); rfl
        | fe u => rw [hf] at z; cases (show u = er v from z); exact .inl rfl
        | nx _ => rw [hf] at z; exact z.elim
        | jn _ => rw [hf] at z; exact z.elim
        | br _ => rw [hf] at z; exact z.elim
      · rw [q2]
        exact ⟨r', h', rfl, q3, q4⟩
end
end Ow

/-! Y4: loops without returns, while, own lists, defs. -/
namespace Ow
open PySem
variable {δ α β κ σ ρ : Type}
/-- the ends of a loop's body -/
@[reducible] def ctlEn (Gs : σ → List Slot) (er : ρ → W) : Ctl σ ρ → En := fun c => match c with
  | .nx s => .nx (Gs s)
  | .br s => .br (Gs s)
  | .rt v => .rt (er v)
section
variable {I : DI δ} {b : Nat} {call : Nat → Nat → List W → Hp → R W} {N : Nat} {G G' : List Slot} {e c : Ex} {es : List Ex} {ss body : List St} {srcs : List Ex} {kill : List Nat} {Fin : κ → En} {kk : ItK} {t : Tg} {en : α → W} {i : Nat}
theorem BJ.map {Fin1 : α → En} {Fin2 : β → En} {f : α → β} {m : M δ α} (q : BJ I b call N G ss Fin1 m) (hf : ∀ v, Fin2 (f v) = Fin1 v) : BJ I b call N G ss Fin2 (m >>= fun v => pure (f v)) := .mk fun r h d l o => by
  have z := q r h d l o
  rw [M.bind_app]
  match hm : m d, z with
  | none, _ => trivial
  | some (.ok v, d'), ⟨h', a, x, k⟩ => exact ⟨h', by rw [hf]; exact a, x, k⟩
  | some (.ex v, d'), z => exact z
theorem BJ.congr {m m' : M δ κ} (q : BJ I b call N G ss Fin m) (e : m = m') : BJ I b call N G ss Fin m' := e ▸ q
/-- a for whose turns go on -/
theorem BJ.forG {Gs : σ → List Slot} {Gx : α → σ → List Slot} {ms : M δ (List α)} {s0 : σ} {g : α → σ → M δ σ} {k : σ → M δ κ} (src : EsJ I b call G srcs (SbP b kk en) ms)
    (h0 : GLe (Gs s0) (sups G kill)) (hk : ∀ s, sups (Gs s) kill = Gs s) (tg : ∀ x s, TgP I b (Gs s) t (en x) (Gx x s))
    (hb : ∀ x s, BJ I b call N (Gx x s) body (fun s => .nx (Gs s)) (g x s)) (rest : ∀ s, BJ I b call N (Gs s) ss Fin (k s)) :
    BJ I b call N G (.forr false t kk srcs kill body :: ss) Fin (ms >>= fun xs => Ow.forG g xs s0 >>= k) := by
  refine (BJ.forX (ρ := Empty) (Gx := Gx) (g := fun x s => g x s >>= fun s' => pure (.nx s')) (er := fun v => v.elim) (cr := fun v => v.elim) src h0 hk tg (fun x s => (hb x s).map fun v => rfl) rest (fun v => v.elim)).congr ?_
  congr 1
  funext xs
  rw [forX_ofG, bind_assoc]
  rfl
/-- a for over an own list, whose turns may return -/
theorem BJ.forXP {xs : List α} {Gs : Nat → σ → List Slot} {Gx : Nat → α → σ → List Slot} {s0 : σ} {g : α → σ → M δ (Ctl σ ρ)} {k : σ → M δ κ} {er : ρ → W} {cr : ρ → κ} (hi : sat G i = .ob (.lst (xs.map en)))
    (h0 : ∀ n, GLe (Gs n s0) (sups (sup G i (.pin n (.lst (xs.map en)))) kill)) (hk : ∀ n s, sups (Gs n s) kill = Gs n s) (hp : ∀ n s, sat (Gs n s) i = .pin n (.lst (xs.map en))) (tg : ∀ n x s, TgP I b (Gs n s) t (en x) (Gx n x s))
    (hb : ∀ n x s, BJ I b call N (Gx n x s) body (ctlEn (Gs n) er) (g x s))
    (rest : ∀ n s, BJ I b call N (Gs n s) ss Fin (k s)) (hr : ∀ v, RtOk (Fin (cr v)) (er v)) :
    BJ I b call N G (.forr false t .seq [.var i] kill body :: ss) Fin (Ow.forX g xs s0 >>= fun c => c.go k fun v => pure (cr v)) := .mk fun r h d l o => by
  have q := l.sl i
  rw [hi] at q
  obtain ⟨n, e1, e2, e3, e4⟩ := q
  have lp : Lay I b (sup G i (.pin n (.lst (xs.map en)))) r h := by
    have hl : i < G.length := own_lt (by rw [hi]; rfl)
    refine ⟨by rw [sup_len]; exact l.len, l.hb, fun j => ?_, fun j k m ej ek rj rk => ?_⟩
    · rw [sat_sup]
      by_cases hij : i = j ∧ i < G.length
      · rw [if_pos hij, ← hij.1]
        exact ⟨e1, e2, e3, e4⟩
      · rw [if_neg hij]; exact l.sl j
    · have key : ∀ j, (sat (sup G i (.pin n (.lst (xs.map en)))) j).own = true → (sat G j).own = true := fun j ej => by
        rw [sat_sup] at ej
        by_cases hij : i = j ∧ i < G.length
        · rw [← hij.1, hi]; rfl
        · rw [if_neg hij] at ej; exact ej
      exact l.inj j k m (key j ej) (key k ek) rj rk
  have hs : itemsOf .seq (([.ref n] : List W).map (deref h)) = some (xs.map en) := by
    rw [List.map_cons, deref_ref, e2]
    rfl
  rw [b_cons_, s_for_, e_cons_, e_var, e1, gv_s, R.bind_ok, e_nil, R.bind_ok, ofRs_ok, hs]
  have l1 : Lay I b (Gs n s0) (wipeE r kill) h := (lp.wipe kill).weaken (h0 n)
  have key := for_loop (er := er) (keep := fun h2 => sameAt h h2 [.ref n]) (hk n) (tg n) (hb n) (fun s r2 h2 l2 h3 x3 kp => sameAt_refs fun u hu2 m em => by
    have q := l2.sl i
    rw [hp] at q
    have : u = .ref n := List.mem_singleton.mp hu2
    subst this
    cases em
    rw [q.2.1, e2]) xs s0 r h d l1 o (sameAt_refs fun _ _ _ _ => rfl)
  dsimp only
  rw [M.bind_app]
  cases hf : Ow.forX g xs s0 d with
  | none => trivial
  | some p =>
    rcases key p hf with ⟨s', d2, r', h', rfl, q2, q3, q4, q5⟩ | ⟨v, d2, h', rfl, q2, q3, q4⟩ | ⟨v, d2, r', h', rfl, q2, q3, q4⟩
    · rw [q2, RS.andThen_nxt]
      exact (rest n s' r' h' d2 q3 q5).later q4
    · rw [q2, RS.andThen_ret]
      refine ⟨h', ?_, q3, q4⟩
      have z := hr v
      cases hf : Fin (cr v) with
      | rt u => rw [hf] at z; cases (show u = er v from z); rfl
      | fe u => rw [hf] at z; cases (show u = er v from z); exact .inl rfl
      | nx _ => rw [hf] at z; exact z.elim
      | jn _ => rw [hf] at z; exact z.elim
      | br _ => rw [hf] at z; exact z.elim
    · rw [q2]
      exact ⟨r', h', rfl, q3, q4⟩
theorem BJ.forGP {xs : List α} {Gs : Nat → σ → List Slot} {Gx : Nat → α → σ → List Slot} {s0 : σ} {g : α → σ → M δ σ} {k : σ → M δ κ} (hi : sat G i = .ob (.lst (xs.map en)))
    (h0 : ∀ n, GLe (Gs n s0) (sups (sup G i (.pin n (.lst (xs.map en)))) kill)) (hk : ∀ n s, sups (Gs n s) kill = Gs n s) (hp : ∀ n s, sat (Gs n s) i = .pin n (.lst (xs.map en))) (tg : ∀ n x s, TgP I b (Gs n s) t (en x) (Gx n x s))
    (hb : ∀ n x s, BJ I b call N (Gx n x s) body (fun s => .nx (Gs n s)) (g x s)) (rest : ∀ n s, BJ I b call N (Gs n s) ss Fin (k s)) :
    BJ I b call N G (.forr false t .seq [.var i] kill body :: ss) Fin (Ow.forG g xs s0 >>= k) := by
  refine (BJ.forXP (ρ := Empty) (Gx := Gx) (g := fun x s => g x s >>= fun s' => pure (.nx s')) (er := fun v => v.elim) (cr := fun v => v.elim) hi h0 hk hp tg (fun n x s => (hb n x s).map fun v => rfl) rest (fun v => v.elim)).congr ?_
  rw [forX_ofG, bind_assoc]
  rfl
/-! ### while -/
section
variable {test : Env → Hp → R W} {bd : Env → Hp → RS} {n : Nat} {r r2 : Env} {h h1 h2 : Hp} {x : W}
theorem whl_f (e : test (wipeE r kill) h = .ok (.bl false) h1) : whileLoop test bd kill (n + 1) r h = .nxt (wipeE r kill) h1 := by rw [whileLoop, e]; rfl
theorem whl_e (e : test (wipeE r kill) h = .exc x h1) : whileLoop test bd kill (n + 1) r h = .exc x (wipeE r kill) h1 := by rw [whileLoop, e]; rfl
theorem whl_t (e : test (wipeE r kill) h = .ok (.bl true) h1) : whileLoop test bd kill (n + 1) r h = match bd (wipeE r kill) h1 with
    | .nxt r2 h2 => whileLoop test bd kill n r2 h2
    | .cnt r2 h2 => whileLoop test bd kill n r2 h2
    | .brk r2 h2 => .nxt (wipeE r2 kill) h2
    | y => y := by rw [whileLoop, e]; rfl
theorem whl_nx (e : test (wipeE r kill) h = .ok (.bl true) h1) (eb : bd (wipeE r kill) h1 = .nxt r2 h2 ∨ bd (wipeE r kill) h1 = .cnt r2 h2) : whileLoop test bd kill (n + 1) r h = whileLoop test bd kill n r2 h2 := by
  rw [whl_t e]
  rcases eb with eb | eb <;> rw [eb]
theorem whl_br (e : test (wipeE r kill) h = .ok (.bl true) h1) (eb : bd (wipeE r kill) h1 = .brk r2 h2) : whileLoop test bd kill (n + 1) r h = .nxt (wipeE r2 kill) h2 := by rw [whl_t e, eb]
theorem whl_rt (e : test (wipeE r kill) h = .ok (.bl true) h1) (eb : bd (wipeE r kill) h1 = .ret x h2) : whileLoop test bd kill (n + 1) r h = .ret x h2 := by rw [whl_t e, eb]
theorem whl_ex (e : test (wipeE r kill) h = .ok (.bl true) h1) (eb : bd (wipeE r kill) h1 = .exc x r2 h2) : whileLoop test bd kill (n + 1) r h = .exc x r2 h2 := by rw [whl_t e, eb]
end
theorem while_loop {Gs : σ → List Slot} {tt : σ → M δ Bool} {g : σ → M δ (Ctl σ ρ)} {er : ρ → W} (hk : ∀ s, sups (Gs s) kill = Gs s)
    (ht : ∀ s, AJ I b call (Gs s) c (fun v => .ex (.bl v)) (tt s)) (hb : ∀ s, BJ I b call N (Gs s) body (ctlEn Gs er) (g s)) :
    ∀ (n : Nat) (s : σ) (r : Env) (h : Hp) (d : δ), Lay I b (Gs s) (wipeE r kill) h → I.ok h d → ∀ p, whileX tt g n s d = some p →
      (∃ s' d' r' h', p = (.ok (.nx s'), d') ∧ whileLoop (fun r2 h2 => evE call b r2 c h2) (fun r2 h2 => evB call N b body r2 h2) kill n r h = .nxt r' h' ∧ Lay I b (Gs s') r' h' ∧ BS I b h h' ∧ I.ok h' d') ∨
      (∃ v d' h', p = (.ok (.rt v), d') ∧ whileLoop (fun r2 h2 => evE call b r2 c h2) (fun r2 h2 => evB call N b body r2 h2) kill n r h = .ret (er v) h' ∧ BS I b h h' ∧ I.ok h' d') ∨
      (∃ x d' r' h', p = (.ex x, d') ∧ whileLoop (fun r2 h2 => evE call b r2 c h2) (fun r2 h2 => evB call N b body r2 h2) kill n r h = .exc x r' h' ∧ BS I b h h' ∧ I.ok h' d') := by
  intro n
  induction n with
  | zero => intro s r h d l o p e; cases e
  | succ n ih =>
    intro s r h d l o p e
    have z := ht s (wipeE r kill) h d l o
    rcases bind_some (show (tt s >>= fun c => if c then g s >>= fun c => match c with
      | .nx s' => whileX tt g n s'
      | .br s' => pure (.nx s')
      | .rt v => pure (.rt v)
      else pure (.nx s)) d = some p from e) with ⟨cv, d1, e1, e2⟩ | ⟨v, d1, e1, e2⟩
    · rw [e1] at z
      obtain ⟨u, h1, z1, z2, z3, z4⟩ := z
      cases (show u = .bl cv from z2)
      have l1 := l.ext z3
      cases cv with
      | false =>
        cases pure_some (show (pure (Ctl.nx s) : M δ (Ctl σ ρ)) d1 = some p from e2)
        exact .inl ⟨s, d1, _, h1, rfl, whl_f z1, l1, z3.bs l.hb, z4⟩
      | true =>
        have y := hb s (wipeE r kill) h1 d1 l1 z4
        have bs1 := z3.bs l.hb
        rcases bind_some (show (g s >>= fun c => match c with
          | .nx s' => whileX tt g n s'
          | .br s' => pure (.nx s')
          | .rt v => pure (.rt v)) d1 = some p from e2) with ⟨c2, d2, e3, e4⟩ | ⟨v, d2, e3, e4⟩
        · rw [e3] at y
          obtain ⟨h2, y1, y2, y3⟩ := y
          cases c2 with
          | nx s1 =>
            obtain ⟨r1, y1, ly⟩ := y1
            have lw : Lay I b (Gs s1) (wipeE r1 kill) h2 := by have := ly.wipe kill; rw [hk] at this; exact this
            rw [whl_nx z1 y1]
            rcases ih s1 r1 h2 d2 lw y3 p e4 with ⟨s', d', r', h', q1, q2, q3, q4, q5⟩ | ⟨v, d', h', q1, q2, q3, q4⟩ | ⟨v, d', r', h', q1, q2, q3, q4⟩
            · exact .inl ⟨s', d', r', h', q1, q2, q3, bs1.trans (y2.trans q4), q5⟩
            · exact .inr (.inl ⟨v, d', h', q1, q2, bs1.trans (y2.trans q3), q4⟩)
            · exact .inr (.inr ⟨v, d', r', h', q1, q2, bs1.trans (y2.trans q3), q4⟩)
          | br s1 =>
            cases pure_some (show (pure (Ctl.nx s1) : M δ (Ctl σ ρ)) d2 = some p from e4)
            obtain ⟨r1, y1, ly⟩ := y1
            have lw : Lay I b (Gs s1) (wipeE r1 kill) h2 := by have := ly.wipe kill; rw [hk] at this; exact this
            exact .inl ⟨s1, d2, wipeE r1 kill, h2, rfl, whl_br z1 y1, lw, bs1.trans y2, y3⟩
          | rt v =>
            cases pure_some (show (pure (Ctl.rt v) : M δ (Ctl σ ρ)) d2 = some p from e4)
            have y1 : evB call N b body (wipeE r kill) h1 = .ret (er v) h2 := y1
            exact .inr (.inl ⟨v, d2, h2, rfl, whl_rt z1 y1, bs1.trans y2, y3⟩)
        · rw [e3] at y
          obtain ⟨r2, h2, y1, y2, y3⟩ := y
          exact .inr (.inr ⟨v, d2, r2, h2, e4, whl_ex z1 y1, bs1.trans y2, y3⟩)
    · rw [e1] at z
      obtain ⟨h1, z1, z2, z3⟩ := z
      exact .inr (.inr ⟨v, d1, wipeE r kill, h1, e2, whl_e z1, z2.bs l.hb, z3⟩)
theorem BJ.whileX {Gs : σ → List Slot} {s0 : σ} {tt : σ → M δ Bool} {g : σ → M δ (Ctl σ ρ)} {k : σ → M δ κ} {er : ρ → W} {cr : ρ → κ}
    (h0 : GLe (Gs s0) (sups G kill)) (hk : ∀ s, sups (Gs s) kill = Gs s) (ht : ∀ s, AJ I b call (Gs s) c (fun v => .ex (.bl v)) (tt s)) (hb : ∀ s, BJ I b call N (Gs s) body (ctlEn Gs er) (g s))
    (rest : ∀ s, BJ I b call N (Gs s) ss Fin (k s)) (hr : ∀ v, RtOk (Fin (cr v)) (er v)) :
    BJ I b call N G (.whl c kill body :: ss) Fin (Ow.whileX tt g N s0 >>= fun c => c.go k fun v => pure (cr v)) := .mk fun r h d l o => by
  rw [b_cons_, s_whl]
  have l1 : Lay I b (Gs s0) (wipeE r kill) h := (l.wipe kill).weaken h0
  have key := while_loop (er := er) hk ht hb N s0 r h d l1 o
  unfold whGo
  rw [M.bind_app]
  cases hf : Ow.whileX tt g N s0 d with
  | none => trivial
  | some p =>
    rcases key p hf with ⟨s', d2, r', h', rfl, q2, q3, q4, q5⟩ | ⟨v, d2, h', rfl, q2, q3, q4⟩ | ⟨v, d2, r', h', rfl, q2, q3, q4⟩
    · rw [q2, RS.andThen_nxt]
      exact (rest s' r' h' d2 q3 q5).later q4
    · rw [q2, RS.andThen_ret]
      refine ⟨h', ?_, q3, q4⟩
      have z := hr v
      cases hf : Fin (cr v) with
      | rt u => rw [hf] at z; cases (show u = er v from z); rfl
      | fe u => rw [hf] at z; cases (show u = er v from z); exact .inl rfl
      | nx _ => rw [hf] at z; exact z.elim
      | jn _ => rw [hf] at z; exact z.elim
      | br _ => rw [hf] at z; exact z.elim
    · rw [q2]
      exact ⟨r', h', rfl, q3, q4⟩
theorem whileX_ofG (tt : σ → M δ Bool) (g : σ → M δ σ) : ∀ (n : Nat) (s : σ), whileX (ρ := ρ) tt (fun s => g s >>= fun s' => pure (.nx s')) n s = whileG tt g n s >>= fun s' => pure (.nx s')
  | 0, s => rfl
  | n + 1, s => by
    rw [whileX, whileG]
    simp only [bind_assoc]
    refine congrArg (tt s >>= ·) (funext fun c => ?_)
    cases c with
    | false => rfl
    | true =>
      simp only [if_true, bind_assoc, pure_bind]
      refine congrArg (g s >>= ·) (funext fun s' => ?_)
      exact whileX_ofG tt g n s'
theorem BJ.whileG {Gs : σ → List Slot} {s0 : σ} {tt : σ → M δ Bool} {g : σ → M δ σ} {k : σ → M δ κ}
    (h0 : GLe (Gs s0) (sups G kill)) (hk : ∀ s, sups (Gs s) kill = Gs s) (ht : ∀ s, AJ I b call (Gs s) c (fun v => .ex (.bl v)) (tt s)) (hb : ∀ s, BJ I b call N (Gs s) body (fun s => .nx (Gs s)) (g s))
    (rest : ∀ s, BJ I b call N (Gs s) ss Fin (k s)) :
    BJ I b call N G (.whl c kill body :: ss) Fin (Ow.whileG tt g N s0 >>= k) := by
  refine (BJ.whileX (ρ := Empty) (g := fun s => g s >>= fun s' => pure (.nx s')) (er := fun v => v.elim) (cr := fun v => v.elim) h0 hk ht (fun s => (hb s).map fun v => rfl) rest (fun v => v.elim)).congr ?_
  rw [whileX_ofG, bind_assoc]
  rfl
/-! ### own lists -/
/-- what is asked of the rest behind a new list's arguments -/
theorem prp_end {p : Prim} {m : M δ (List α)} (q : EsJ I b call G es (PrP p (fun v => .ex (.lst (v.map en))) p.raw) m) (r : Env) (h : Hp) (d : δ) (l : Lay I b G r h) (o : I.ok h d) : match m d with
    | none => True
    | some (.ok v, d') => ∃ us h', evEs call b r es h = .ok us h' ∧ primF p (if p.raw then us else us.map (deref h')) = some (.lst (v.map en)) ∧ ES I h h' ∧ I.ok h' d'
    | some (.ex x, d') => ∃ h', evEs call b r es h = .exc x h' ∧ ES I h h' ∧ I.ok h' d' := by
  have z := q r h d l o
  match hm : m d, z with
  | none, _ => trivial
  | some (.ok v, d'), z =>
    rcases z with ⟨us, h', d'', m', pas, z1, z2, z3, z4, ⟨ws, o', z5, z6, z7⟩, z8⟩ | ⟨x, h', z1, z2, z3, z4⟩
    · subst z6
      cases o' with
      | none => cases z8
      | some v' =>
        have e8 : (some (Rs.ok v', d'') : Option (Rs (List α) × δ)) = some (.ok v, d') := z8
        cases e8
        obtain ⟨w, e9, e10⟩ := z7 v rfl
        injection e9 with e9
        subst e9
        refine ⟨us, h', z1, ?_, z3, z4⟩
        cases hr : p.raw with
        | true => rw [hr] at z5; subst z5; rw [if_pos rfl, args_ex z2]; exact e10
        | false => rw [hr] at z5; subst z5; rw [if_neg (by decide), args_lo z2]; exact e10
    · cases z1
  | some (.ex v, d'), z =>
    rcases z with ⟨us, h', d'', m', pas, z1, z2, z3, z4, ⟨ws, o', z5, z6, z7⟩, z8⟩ | ⟨x, h', z1, z2, z3, z4⟩
    · subst z6
      cases o' with
      | none => cases z8
      | some v' => cases z8
    · cases (show v = x by injection z1)
      exact ⟨h', z2, z3, z4⟩
theorem new_get {h : Hp} {o : Obj} : (h ++ [o])[h.length]? = some o := by simp
theorem new_es {h : Hp} {o : Obj} : ES I h (h ++ [o]) := ⟨by simp, fun j hj _ => List.getElem?_append_left hj⟩
theorem ok_ext {h h' : Hp} {d : δ} (o : I.ok h d) (e : ∀ j, j < h.length → h'[j]? = h[j]?) : I.ok h' d := I.loc o fun j hj => e j (I.inb o hj)
/-- x = a new list -/
theorem BJ.newL {p : Prim} {m : M δ (List α)} {k : List α → M δ κ} (q : EsJ I b call G es (PrP p (fun v => .ex (.lst (v.map en))) p.raw) m) (rest : ∀ v, BJ I b call N (sup G i (.ob (.lst (v.map en)))) ss Fin (k v)) (hf : p.fresh = true := by rfl) (hi : (decide (i < G.length)) = true := by rfl) :
    BJ I b call N G (.asg (.nm i) (.pr true p es) :: ss) Fin (m >>= k) := .mk fun r h d l o => by
  rw [b_cons_, s_asg_, e_pr_, M.bind_app]
  have z := prp_end q r h d l o
  match hm : m d, z with
  | none, _ => trivial
  | some (.ex v, d'), z =>
    obtain ⟨h', e1, x, k'⟩ := z
    rw [e1]
    exact ⟨r, h', rfl, x.bs l.hb, k'⟩
  | some (.ok v, d'), z =>
    obtain ⟨us, h1, e1, e2, x1, o1⟩ := z
    have er : runPrim true p us h1 = .ok (.ref h1.length) (h1 ++ [.lst (v.map en)]) := by
      unfold runPrim
      rw [e2]
      simp only [if_true, hf, newObj]
    rw [e1, R.bind_ok, er, ofR_ok, bind_nm, if_pos (by rw [l.len]; exact of_decide_eq_true hi), nx_s, RS.andThen_nxt]
    have l1 := l.ext x1
    have l2 : Lay I b (sup G i (.ob (.lst (v.map en)))) (r.set i (some (.ref h1.length))) (h1 ++ [.lst (v.map en)]) := by
      refine (l1.ext new_es).setO new_get l1.hb (fun z => by have := I.inb o1 z; omega) fun j hj ho e => ?_
      have q := l1.sl j
      cases hs : sat G j <;> rw [hs] at q ho <;> first | (cases ho; done) | skip
      · obtain ⟨m, q1, q2, _⟩ := q
        rw [e] at q1
        cases q1
        have := (List.getElem?_eq_some_iff.mp q2).1
        omega
      · obtain ⟨q1, q2, _⟩ := q
        rw [e] at q1
        cases q1
        have := (List.getElem?_eq_some_iff.mp q2).1
        omega
    exact (rest v _ _ d' l2 (ok_ext o1 fun j hj => List.getElem?_append_left hj)).later ((x1.trans new_es).bs l.hb)
/-- an own list is changed -/
theorem Lay.put {r : Env} {h : Hp} (l : Lay I b G r h) {n : Nat} {o o' : Obj} (hi : sat G i = .ob o) (e : r[i]? = some (some (.ref n))) (hn : b ≤ n) (nF : ¬ I.F n) (hl : n < h.length) : Lay I b (sup G i (.ob o')) r (h.set n o') where
  len := by rw [sup_len]; exact l.len
  hb := by rw [List.length_set]; exact l.hb
  sl := fun j => by
    have hig : i < G.length := own_lt (by rw [hi]; rfl)
    rw [sat_sup]
    by_cases hij : i = j ∧ i < G.length
    · rw [if_pos hij, ← hij.1]
      exact ⟨n, e, List.getElem?_set_self hl, hn, nF⟩
    · rw [if_neg hij]
      have hne : i ≠ j := fun z => hij ⟨z, hig⟩
      have q := l.sl j
      cases hs : sat G j with
      | no => trivial
      | kn w => rw [hs] at q; exact q
      | rd w =>
        rw [hs] at q
        obtain ⟨u, q1, q2, q3⟩ := q
        refine ⟨u, q1, ?_, q3⟩
        rw [deref_keep fun m em => List.getElem?_set_ne (by have := (q3 m em).1; omega)]
        exact q2
      | ob o2 =>
        rw [hs] at q
        obtain ⟨m, q1, q2, q3, q4⟩ := q
        refine ⟨m, q1, ?_, q3, q4⟩
        rw [List.getElem?_set_ne]
        · exact q2
        · intro z
          subst z
          exact hne (l.inj i j _ (by rw [hi]; rfl) (by rw [hs]; rfl) e q1)
      | pin m o2 =>
        rw [hs] at q
        obtain ⟨q1, q2, q3, q4⟩ := q
        refine ⟨q1, ?_, q3, q4⟩
        rw [List.getElem?_set_ne]
        · exact q2
        · intro z
          subst z
          exact hne (l.inj i j _ (by rw [hi]; rfl) (by rw [hs]; rfl) e q1)
  inj := fun j k m ej ek rj rk => by
    have key : ∀ j, (sat (sup G i (.ob o')) j).own = true → (sat G j).own = true := fun j ej => by
      rw [sat_sup] at ej
      by_cases hij : i = j ∧ i < G.length
      · rw [← hij.1, hi]; rfl
      · rw [if_neg hij] at ej; exact ej
    exact l.inj j k m (key j ej) (key k ek) rj rk
theorem put_bs {h : Hp} {n : Nat} {o : Obj} (hn : b ≤ n) : BS I b h (h.set n o) := ⟨by simp, fun j hj _ => List.getElem?_set_ne (by omega)⟩
theorem put_ok {h : Hp} {n : Nat} {o : Obj} {d : δ} (k : I.ok h d) (nF : ¬ I.F n) : I.ok (h.set n o) d := I.loc k fun j hj => List.getElem?_set_ne fun z => nF (by rw [z]; exact hj)
theorem may_own {n : Nat} {w : W} (h : b ≤ n) : mayPut b n w = true := by simp [mayPut, h]
/-- xs.append(e) -/
theorem BJ.append {xs : List α} {m : M δ α} {k : List α → M δ κ} (hi : sat G i = .ob (.lst (xs.map en))) (q : AJ I b call G e (fun v => .ex (en v)) m) (rest : ∀ v, BJ I b call N (sup G i (.ob (.lst ((xs ++ [v]).map en)))) ss Fin (k (xs ++ [v]))) :
    BJ I b call N G (.exp (.mth .append (.var i) [e]) :: ss) Fin (m >>= fun v => M.chk (decide (xs.length < sizeLine)) >>= fun _ => k (xs ++ [v])) := .mk fun r h d l o => by
  rw [b_cons_, s_exp_, e_mth_, e_var]
  have ql := l.sl i
  rw [hi] at ql
  obtain ⟨n, e1, e2, e3, e4⟩ := ql
  rw [e1, gv_s, R.bind_ok, if_pos (by rw [rc_append, e2]; rfl), e_cons_]
  have z := q r h d l o
  rw [M.bind_app]
  match hm : m d, z with
  | none, _ => trivial
  | some (.ex v, d'), z =>
    obtain ⟨h', z1, x, k'⟩ := z
    rw [z1]
    exact ⟨r, h', rfl, x.bs l.hb, k'⟩
  | some (.ok v, d'), z =>
    obtain ⟨u, h1, z1, z2, x, k'⟩ := z
    cases (show u = en v from z2)
    have hn1 := (x.old n (List.getElem?_eq_some_iff.mp e2).1 e4).trans e2
    have l1 := l.ext x
    rw [z1, R.bind_ok, e_nil, R.bind_ok, R.bind_ok]
    by_cases hl : xs.length < sizeLine
    · rw [app_ok hn1 (may_own e3) (by simpa using hl), ofR_ok, RS.andThen_nxt]
      simp only [hl, decide_true, M.chk_true, pure_bind]
      have l2 := l1.put (o' := .lst ((xs ++ [v]).map en)) hi e1 e3 e4 (List.getElem?_eq_some_iff.mp hn1).1
      have em : xs.map en ++ [en v] = (xs ++ [v]).map en := by simp
      rw [em]
      exact (rest v r _ d' l2 (put_ok k' e4)).later ((x.bs l.hb).trans (put_bs e3))
    · simp only [hl, decide_false, M.chk_false, M.fail_bind]
      trivial
/-- xs[i] = e -/
def setI (xs : List α) (k : Int) (v : α) : Option (List α) := (L2.ixN xs.length k).map fun j => xs.set j v
theorem BJ.seti {xs : List α} {ix : Ex} {m : M δ α} {mi : M δ Int} {k : List α → M δ κ} (hi : sat G i = .ob (.lst (xs.map en))) (q : AJ I b call G e (fun v => .ex (en v)) m) (qi : AJ I b call G ix (fun v => .ex (.int v)) mi) (rest : ∀ ys, BJ I b call N (sup G i (.ob (.lst (ys.map en)))) ss Fin (k ys)) :
    BJ I b call N G (.seti (.var i) ix e :: ss) Fin (m >>= fun v => mi >>= fun j => M.lift (setI xs j v) >>= k) := .mk fun r h d l o => by
  rw [b_cons_, s_seti_]
  refine (q r h d l o).ofR l.hb fun v u h1 d1 a1 x o1 => ?_
  cases (show u = en v from a1)
  have l1 := l.ext x
  have ql := l1.sl i
  rw [hi] at ql
  obtain ⟨n, e1, e2, e3, e4⟩ := ql
  rw [e_var, e1, gv_s, ofR_ok]
  refine (qi r h1 d1 l1 o1).ofR l1.hb fun j u h2 d2 a2 x2 o2 => ?_
  cases (show u = .int j from a2)
  have hn1 := (x2.old n (List.getElem?_eq_some_iff.mp e2).1 e4).trans e2
  have l2 := l1.ext x2
  unfold setI
  cases hx : L2.ixN xs.length j with
  | none => trivial
  | some jj =>
    simp only [Option.map_some, M.lift_some, pure_bind]
    have es : setW b r (en v) (.ref n) (.int j) h2 = .nxt r (h2.set n (.lst ((xs.set jj v).map en))) := by
      simp only [setW, hn1, ixOf, List.length_map, hx, may_own e3, if_true, List.map_set]
    rw [es, RS.andThen_nxt]
    have l3 := l2.put (o' := .lst ((xs.set jj v).map en)) hi e1 e3 e4 (List.getElem?_eq_some_iff.mp hn1).1
    exact (rest (xs.set jj v) r _ d2 l3 (put_ok o2 e4)).later (put_bs e3)
/-- x += e, x -= e -/
theorem BJ.augA {x : Int} {m : M δ Int} {k : Int → M δ κ} (hi : sat G i = .kn (.int x)) (q : AJ I b call G e (fun v => .ex (.int v)) m) (rest : ∀ z, BJ I b call N (sup G i (.kn (.int z))) ss Fin (k z)) : BJ I b call N G (.aug i .add e :: ss) Fin (m >>= fun y => k (x + y)) := .mk fun r h d l o => by
  have ql := l.sl i
  rw [hi] at ql
  rw [b_cons_, s_aug, show r[i]? = some (some (.int x)) from ql, kAug1_s]
  unfold kAug
  refine (q r h d l o).ofR l.hb fun v u h1 d1 a1 x1 o1 => ?_
  cases (show u = .int v from a1)
  exact rest (x + v) _ h1 d1 (l.ext x1).set o1
theorem BJ.augS {x : Int} {m : M δ Int} {k : Int → M δ κ} (hi : sat G i = .kn (.int x)) (q : AJ I b call G e (fun v => .ex (.int v)) m) (rest : ∀ z, BJ I b call N (sup G i (.kn (.int z))) ss Fin (k z)) : BJ I b call N G (.aug i .sub e :: ss) Fin (m >>= fun y => k (x - y)) := .mk fun r h d l o => by
  have ql := l.sl i
  rw [hi] at ql
  rw [b_cons_, s_aug, show r[i]? = some (some (.int x)) from ql, kAug1_s]
  unfold kAug
  refine (q r h d l o).ofR l.hb fun v u h1 d1 a1 x1 o1 => ?_
  cases (show u = .int v from a1)
  exact rest (x - v) _ h1 d1 (l.ext x1).set o1
/-- return of an own list -/
theorem BJ.retF {ws : List W} {v : κ} (hi : sat G i = .ob (.lst ws)) (hr : RtOk (Fin v) (.lst ws)) : BJ I b call N G (.ret (.frz (.var i)) :: ss) Fin (pure v) := .mk fun r h d l o => by
  have ql := l.sl i
  rw [hi] at ql
  obtain ⟨n, e1, e2, e3, e4⟩ := ql
  rw [b_cons_, s_ret_, e_frz, e_var, e1, gv_s]
  have ef : kFrz (.ok (.ref n) h) = .ok (.lst ws) (h.set n .dead) := by
    unfold kFrz
    rw [R.bind_ok]
    simp only [e2]
  rw [ef, ofR_ok, RS.andThen_ret]
  refine ⟨h.set n .dead, ?_, put_bs e3, put_ok o e4⟩
  cases hf : Fin v with
  | rt u => rw [hf] at hr; cases (show u = _ from hr); rfl
  | fe u => rw [hf] at hr; cases (show u = _ from hr); exact .inl rfl
  | nx _ => rw [hf] at hr; exact hr.elim
  | jn _ => rw [hf] at hr; exact hr.elim
  | br _ => rw [hf] at hr; exact hr.elim
end
/-! ### defs -/
def slotOf : PA → Slot
  | .ex w => .kn w
  | .lo w => .rd w
  | .lb _ w => .rd w
theorem args_get {I : DI δ} {h : Hp} : ∀ {pas : List PA} {us : List W} (i : Nat) (p : PA), Args I h pas us → pas[i]? = some p → ∃ u, us[i]? = some u ∧ ArgOk I h p u
  | [], _, i, p, _, e => by simp at e
  | q :: pas, us, 0, p, a, e => by
    obtain ⟨u, r, rfl, a1, a2⟩ := a
    have : q = p := by simpa using e
    subst this
    exact ⟨u, rfl, a1⟩
  | q :: pas, us, i + 1, p, a, e => by
    obtain ⟨u, r, rfl, a1, a2⟩ := a
    obtain ⟨v, e1, a3⟩ := args_get i p a2 (by simpa using e)
    exact ⟨v, by simpa using e1, a3⟩
theorem sat_app : ∀ (l : List Slot) (n i : Nat), sat (l ++ List.replicate n .no) i = (l[i]?).getD .no
  | [], 0, i => by simp [sat]
  | [], n + 1, 0 => by simp [List.replicate_succ, sat]
  | [], n + 1, i + 1 => by
    have := sat_app [] n i
    simpa [List.replicate_succ, sat] using this
  | s :: l, n, 0 => by simp [sat]
  | s :: l, n, i + 1 => by
    have := sat_app l n i
    simpa [sat] using this
theorem lay_args {I : DI δ} {h : Hp} {pas : List PA} {us : List W} (a : Args I h pas us) (n : Nat) : Lay I h.length (pas.map slotOf ++ List.replicate n .no) (us.map some ++ List.replicate n none) h where
  len := by simp [a.len]
  hb := Nat.le_refl _
  sl := fun i => by
    rw [sat_app, List.getElem?_map]
    cases hp : pas[i]? with
    | none => trivial
    | some p =>
      obtain ⟨u, e, ao⟩ := args_get i p a hp
      have hi := (List.getElem?_eq_some_iff.mp e).1
      have er : (us.map some ++ List.replicate n none)[i]? = some (some u) := by
        rw [List.getElem?_append_left (by simpa using hi), List.getElem?_map, e]
        rfl
      rw [er]
      cases p with
      | ex w => exact congrArg (fun x => some (some x)) (show u = w from ao)
      | lo w => exact ⟨u, rfl, ao.1, ao.2⟩
      | lb b w => exact ⟨u, rfl, ao.1, fun m em => ⟨(ao.2 m em).1.2, (ao.2 m em).2⟩⟩
  inj := fun i j m ei => by
    rw [sat_app, List.getElem?_map] at ei
    cases hp : pas[i]? with
    | none => rw [hp] at ei; cases ei
    | some p => rw [hp] at ei; cases p <;> cases ei
theorem CS.df {I : DI δ} {T : List Def} {N d k np nn : Nat} {pas : List PA} {body : List St} {en : ρ → W} {m : M δ ρ} (i : Is T k np nn body) (hp : pas.length = np)
    (q : ∀ b, BJ I b (evC T N d) N (pas.map slotOf ++ List.replicate (nn - np) .no) body (fun v => .fe (en v)) m) (fz : ∀ n v, below n (en v) = true) : CS I (evC T N (d + 1)) k pas (fun v => .ex (en v)) m := .mk fun b h d0 us o a => by
  rw [i.run (by rw [a.len]; exact hp)]
  have z := q h.length _ h d0 (lay_args a (nn - np)) o
  have cut : ∀ h', BS I h.length h h' → ES I h (h'.take h.length) := fun h' x => ⟨by rw [List.length_take, Nat.min_eq_left x.len]; exact Nat.le_refl _, fun j hj n => by rw [List.getElem?_take_of_lt hj]; exact x.old j hj n⟩
  have cok : ∀ h' d', BS I h.length h h' → I.ok h' d' → I.ok (h'.take h.length) d' := fun h' d' x o' => I.loc o' fun j hj => by
    rw [List.getElem?_take_of_lt]
    have := I.inb o hj
    exact this
  match hm : m d0, z with
  | none, _ => trivial
  | some (.ex x, d'), ⟨r', h', e1, x1, o1⟩ =>
    rw [e1]
    exact ⟨_, rfl, cut h' x1, cok h' d' x1 o1⟩
  | some (.ok v, d'), ⟨h', e1, x1, o1⟩ =>
    rcases e1 with e1 | ⟨e0, r', e1⟩
    · rw [e1, endB_r, end_val (fz _ v)]
      exact ⟨_, _, rfl, rfl, cut h' x1, cok h' d' x1 o1⟩
    · rw [e1, endB_n, end_val (by have := fz h.length v; rw [e0] at this; exact this)]
      exact ⟨_, _, rfl, e0.symm, cut h' x1, cok h' d' x1 o1⟩
theorem CS.congr {I : DI δ} {call : Nat → Nat → List W → Hp → R W} {k : Nat} {pas : List PA} {pk : α → PA} {m m' : M δ α} (q : CS I call k pas pk m) (e : m = m') : CS I call k pas pk m' := e ▸ q
end Ow

/-! N2b: data with a Lean type: ==, in, sorted, set. -/
namespace Ow
open PySem SetF

/-- values that stand for the x : α, one for each, nested at most k deep -/
structure Dt {α : Type} [DecidableEq α] (en : α → W) (k : Nat) : Prop where
  d : ∀ x, isD (en x) = true
  c : ∀ x, (toD (en x)).canLay0 = true
  dp : ∀ x, (toD (en x)).depth ≤ k
  e : ∀ x y, PyData.eqv (toD (en x)) (toD (en y)) = decide (x = y)
section
variable {α : Type} [DecidableEq α] {en : α → W} {k : Nat}
theorem toD_int (i : Int) : toD (.int i) = .int i := by rw [toD]
theorem toD_tup (ws : List W) : toD (.tup ws) = .tuple (ws.map toD) := by rw [toD]
theorem toD_lst (ws : List W) : toD (.lst ws) = .list (ws.map toD) := by rw [toD]
theorem Dt.int : Dt W.int 0 := ⟨fun _ => by simp [isD], fun _ => by rw [toD_int]; rfl, fun x => by simp [toD, PyData.depth], fun x y => by
  rw [toD_int, toD_int]
  show (x == y) = decide (x = y)
  by_cases h : x = y <;> simp [h]⟩
theorem Dt.nat : Dt (fun n : Nat => W.int n) 0 := ⟨fun _ => by simp [isD], fun _ => by rw [toD_int]; rfl, fun x => by simp [toD, PyData.depth], fun x y => by
  rw [toD_int, toD_int]
  show ((x : Int) == (y : Int)) = decide (x = y)
  by_cases h : x = y
  · simp [h]
  · have : ¬ (x : Int) = y := by omega
    simp [h, this]⟩
theorem Dt.dl (D : Dt en k) : ∀ l : List α, isDL (l.map en) = true
  | [] => by simp [isDL]
  | x :: l => by
    rw [List.map_cons]
    simp only [isDL, D.d x, D.dl l, Bool.and_self]
theorem Dt.cl (D : Dt en k) : ∀ l : List α, PyData.canLayAll0 ((l.map en).map toD) = true
  | [] => by simp [PyData.canLayAll0]
  | x :: l => by
    rw [List.map_cons, List.map_cons]
    simp only [PyData.canLayAll0, D.c x, D.cl l, Bool.and_self]
theorem Dt.dpl (D : Dt en k) : ∀ l : List α, PyData.depthAll ((l.map en).map toD) ≤ k
  | [] => by simp [PyData.depthAll]
  | x :: l => by
    rw [List.map_cons, List.map_cons]
    have h1 := D.dp x
    have h2 := D.dpl l
    simp only [PyData.depthAll]
    omega
theorem Dt.el (D : Dt en k) : ∀ l m : List α, PyData.eqvAll ((l.map en).map toD) ((m.map en).map toD) = decide (l = m)
  | [], [] => by simp [PyData.eqvAll]
  | [], y :: m => by simp [PyData.eqvAll]
  | x :: l, [] => by simp [PyData.eqvAll]
  | x :: l, y :: m => by
    rw [List.map_cons, List.map_cons, List.map_cons, List.map_cons]
    simp only [PyData.eqvAll, D.e x y, D.el l m]
    by_cases h : x = y <;> by_cases h2 : l = m <;> simp [h, h2]
theorem Dt.tup (D : Dt en k) : Dt (fun l : List α => W.tup (l.map en)) (k + 1) := ⟨fun l => by simp only [isD, D.dl l], fun l => by
  rw [toD_tup]
  simp only [PyData.canLay0, D.cl l], fun l => by
  rw [toD_tup]
  have := D.dpl l
  simp only [PyData.depth]
  omega, fun l m => by
  rw [toD_tup, toD_tup]
  simp only [PyData.eqv, D.el l m]⟩
theorem Dt.lst (D : Dt en k) : Dt (fun l : List α => W.lst (l.map en)) (k + 1) := ⟨fun l => by simp only [isD, D.dl l], fun l => by
  rw [toD_lst]
  simp only [PyData.canLay0, D.cl l], fun l => by
  rw [toD_lst]
  have := D.dpl l
  simp only [PyData.depth]
  omega, fun l m => by
  rw [toD_lst, toD_lst]
  simp only [PyData.eqv, D.el l m]⟩
theorem Dt.row : Dt rowW 1 := Dt.int.tup
theorem Dt.rows : Dt (fun l : List (List Int) => W.tup (l.map rowW)) 2 := Dt.row.tup
theorem Dt.sh (D : Dt en k) (hk : k ≤ 64) (x : α) : SeqAt.shaped (toD (en x)) = true := by
  unfold SeqAt.shaped
  rw [D.c x, Bool.true_and]
  exact decide_eq_true (Nat.le_trans (D.dp x) hk)
theorem Dt.ok (D : Dt en k) (hk : k ≤ 64) (x y : α) : eqOk (en x) (en y) = true := by
  unfold eqOk
  rw [D.d x, D.d y, D.sh hk x, D.sh hk y]
  rfl
theorem Dt.pEqT (D : Dt en k) (hk : k < 64) (l m : List α) : pEq (.tup (l.map en)) (.tup (m.map en)) = some (decide (l = m)) := by
  show (if eqOk (.tup (l.map en)) (.tup (m.map en)) then some (PyData.eqv (toD (.tup (l.map en))) (toD (.tup (m.map en)))) else none) = _
  rw [D.tup.ok (by omega) l m, D.tup.e l m, if_pos rfl]
theorem Dt.pEqL (D : Dt en k) (hk : k < 64) (l m : List α) : pEq (.lst (l.map en)) (.lst (m.map en)) = some (decide (l = m)) := by
  show (if eqOk (.lst (l.map en)) (.lst (m.map en)) then some (PyData.eqv (toD (.lst (l.map en))) (toD (.lst (m.map en)))) else none) = _
  rw [D.lst.ok (by omega) l m, D.lst.e l m, if_pos rfl]
theorem Dt.eqT (D : Dt en k) (hk : k < 64) (l m : List α) : primF .eq [.tup (l.map en), .tup (m.map en)] = some (.bl (decide (l = m))) := by
  show (pEq _ _).map W.bl = _
  rw [D.pEqT hk]; rfl
theorem Dt.neT (D : Dt en k) (hk : k < 64) (l m : List α) : primF .ne [.tup (l.map en), .tup (m.map en)] = some (.bl (!decide (l = m))) := by
  show (pEq _ _).map (fun c => W.bl (!c)) = _
  rw [D.pEqT hk]; rfl
theorem Dt.eqL (D : Dt en k) (hk : k < 64) (l m : List α) : primF .eq [.lst (l.map en), .lst (m.map en)] = some (.bl (decide (l = m))) := by
  show (pEq _ _).map W.bl = _
  rw [D.pEqL hk]; rfl
theorem Dt.neL (D : Dt en k) (hk : k < 64) (l m : List α) : primF .ne [.lst (l.map en), .lst (m.map en)] = some (.bl (!decide (l = m))) := by
  show (pEq _ _).map (fun c => W.bl (!c)) = _
  rw [D.pEqL hk]; rfl
theorem Dt.any (D : Dt en k) (x : α) : ∀ l : List α, (l.map en).any (fun y => PyData.eqv (toD y) (toD (en x))) = decide (x ∈ l)
  | [] => by simp
  | y :: l => by
    rw [List.map_cons, List.any_cons, D.any x l, D.e y x]
    by_cases h : y = x
    · subst h; simp
    · simp [h, Ne.symm h]
/-- a row in a list of rows -/
theorem Dt.memT (D : Dt en k) (hk : k < 63) (x : List α) (l : List (List α)) : pMem (.tup (x.map en)) (.lst (l.map fun r => W.tup (r.map en))) = some (decide (x ∈ l)) := by
  have h1 : pMemF (.tup (x.map en)) (l.map fun r => W.tup (r.map en)) = none := by
    unfold pMemF
    rw [show flatW (.tup (x.map en)) = false from rfl]
    rfl
  have h2 : pMemD (.tup (x.map en)) (l.map fun r => W.tup (r.map en)) = some (decide (x ∈ l)) := by
    unfold pMemD
    rw [D.tup.d x, D.tup.dl l, D.tup.sh (by omega) x]
    have := D.tup.lst.sh (by omega) l
    have e : toD (.lst (l.map fun r => W.tup (r.map en))) = .list ((l.map fun r => W.tup (r.map en)).map toD) := by rw [toD]
    rw [e] at this
    rw [this]
    simp only [Bool.and_self, if_true]
    rw [D.tup.any x l]
    exact congrArg some (decide_eq_decide.mpr Iff.rfl)
  simp only [pMem, h1, h2]
end
abbrev rv (rows : List (List Int)) : List W := rows.map rowW
theorem memRows (x : List Int) (l : List (List Int)) : primF .mem [rowW x, .lst (rv l)] = some (.bl (decide (x ∈ l))) := by
  show (pMem _ _).map W.bl = _
  rw [show pMem (rowW x) (.lst (rv l)) = some (decide (x ∈ l)) from Dt.int.memT (by omega) x l]; rfl
theorem nmemRows (x : List Int) (l : List (List Int)) : primF .nmem [rowW x, .lst (rv l)] = some (.bl (!decide (x ∈ l))) := by
  show (pMem _ _).map (fun c => W.bl (!c)) = _
  rw [show pMem (rowW x) (.lst (rv l)) = some (decide (x ∈ l)) from Dt.int.memT (by omega) x l]; rfl
theorem rowsW_rv : ∀ rows : List (List Int), rowsW (rv rows) = some rows
  | [] => rfl
  | r :: rows => by
    show rowsW (W.tup (r.map W.int) :: rv rows) = _
    simp only [rowsW]
    rw [show allInt (r.map W.int) = some r from ?_, rowsW_rv rows]
    · rfl
    · induction r with
      | nil => rfl
      | cons x r ih =>
        show (allInt (r.map W.int)).map (x :: ·) = _
        rw [ih]; rfl
theorem allInt_ns : ∀ ns : List Int, allInt (ns.map W.int) = some ns
  | [] => rfl
  | n :: ns => by
    show (allInt (ns.map W.int)).map (n :: ·) = _
    rw [allInt_ns ns]; rfl
theorem allInt_rv {rows : List (List Int)} (h : rows ≠ []) : allInt (rv rows) = none := by
  cases rows with
  | nil => exact absurd rfl h
  | cons r rows => rfl
/-- rows that can be in a set: none is empty, or all are the same -/
def RowsOk (rows : List (List Int)) : Prop := (∀ r ∈ rows, r ≠ []) ∨ (∀ r ∈ rows, r = [])
theorem uniq_one {rows : List (List Int)} (h : ∀ r ∈ rows, r = []) : (uniq rows).length ≤ 1 := by
  have h1 : ∀ r ∈ uniq rows, r = [] := fun r hr => h r (mem_uniq.mp hr)
  have h2 := nodup_uniq rows
  revert h1 h2
  generalize uniq rows = l
  intro h1 h2
  cases l with
  | nil => simp
  | cons a l =>
    cases l with
    | nil => simp
    | cons b l =>
      have e1 := h1 a (by simp)
      have e2 := h1 b (by simp)
      subst e1 e2
      simp at h2
theorem RowsOk.b {rows : List (List Int)} (h : RowsOk rows) : (rows.all (fun r => !r.isEmpty) || decide ((uniq rows).length ≤ 1)) = true := by
  rw [Bool.or_eq_true]
  rcases h with h | h
  · refine .inl (List.all_eq_true.mpr fun r hr => ?_)
    have := h r hr
    cases r with
    | nil => exact absurd rfl this
    | cons _ _ => rfl
  · exact .inr (decide_eq_true (uniq_one h))
theorem RowsOk.len {w : Nat} {rows : List (List Int)} (h : ∀ r ∈ rows, r.length = w) : RowsOk rows := by
  by_cases hw : w = 0
  · exact .inr fun r hr => List.length_eq_zero_iff.mp ((h r hr).trans hw)
  · exact .inl fun r hr e => by
      have := h r hr
      rw [e] at this
      exact hw this.symm
theorem pSset_rows {x : W} {rows : List (List Int)} (hx : items x = some (rv rows)) (hl : rows.length < 64) (ho : RowsOk rows) : primF .sset [x] = some (.lst (rv (sortRows rows))) := by
  show pSset x = _
  unfold pSset
  rw [hx, Option.bind_some]
  by_cases h0 : rows = []
  · subst h0; simp [allInt, sortRows, sortInts, uniq, rowsW]
  · simp only [allInt_rv h0, rowsW_rv, Option.bind_some]
    rw [if_pos ⟨hl, ho.b⟩]
theorem pSset_ints {x : W} {ns : List Int} (hx : items x = some (ns.map W.int)) (hl : ns.length < 64) : primF .sset [x] = some (.lst ((sortInts ns).map W.int)) := by
  show pSset x = _
  unfold pSset
  rw [hx, Option.bind_some]
  simp only [allInt_ns, hl, if_true]
theorem pLset_rows {x : W} {rows : List (List Int)} (hx : items x = some (rv rows)) (hl : rows.length < 64) : primF .lset [x] = some (.int (uniq rows).length) := by
  show pLset x = _
  unfold pLset
  rw [hx, Option.bind_some]
  by_cases h0 : rows = []
  · subst h0; simp [allInt, sortRows, sortInts, uniq, rowsW]
  · simp only [allInt_rv h0, rowsW_rv, Option.bind_some, hl, if_true]
theorem pLset_ints {x : W} {ns : List Int} (hx : items x = some (ns.map W.int)) (hl : ns.length < 4000) : primF .lset [x] = some (.int (uniq ns).length) := by
  show pLset x = _
  unfold pLset
  rw [hx, Option.bind_some]
  simp only [allInt_ns, hl, if_true]
theorem pSort_rows {x : W} {rows : List (List Int)} (hx : items x = some (rv rows)) (ho : (∀ r ∈ rows, r ≠ []) ∨ rows.length ≤ 1) : primF .sorted1 [x] = some (.lst (rv (rows.mergeSort rowLe))) := by
  show ((items x).bind pSort).map W.lst = _
  rw [hx, Option.bind_some]
  unfold pSort
  by_cases h0 : rows = []
  · subst h0; simp [allInt, sortRows, sortInts, uniq, rowsW]
  · simp only [allInt_rv h0, rowsW_rv, Option.bind_some]
    rw [if_pos]
    · rfl
    · rw [Bool.or_eq_true]
      rcases ho with h | h
      · refine .inl (List.all_eq_true.mpr fun r hr => ?_)
        have := h r hr
        cases r with
        | nil => exact absurd rfl this
        | cons _ _ => rfl
      · exact .inr (decide_eq_true h)
theorem pSort_ints {x : W} {ns : List Int} (hx : items x = some (ns.map W.int)) : primF .sorted1 [x] = some (.lst ((ns.mergeSort fun a b => decide (a ≤ b)).map W.int)) := by
  show ((items x).bind pSort).map W.lst = _
  rw [hx, Option.bind_some]
  unfold pSort
  rw [allInt_ns]
  rfl
@[simp] theorem below_row {n : Nat} {r : List Int} : below n (rowW r) = true := by
  unfold rowW
  rw [below_tup]
  exact belowL_map _ fun _ _ => (rfl)
@[simp] theorem belowL_rv {n : Nat} {rows : List (List Int)} : belowL n (rows.map rowW) = true := belowL_map _ fun _ _ => below_row
theorem eqRows (a b : List (List Int)) : primF .eq [.tup (rv a), .tup (rv b)] = some (.bl (decide (a = b))) := Dt.row.eqT (by omega) a b
theorem neRows (a b : List (List Int)) : primF .ne [.tup (rv a), .tup (rv b)] = some (.bl (!decide (a = b))) := Dt.row.neT (by omega) a b
theorem neRows0 (a : List (List Int)) : primF .ne [.tup (rv a), .tup []] = some (.bl (!decide (a = []))) := neRows a []
@[simp] theorem d_row (h : Hp) (r : List Int) : deref h (rowW r) = rowW r := (rfl)
@[simp] theorem rp_ssetT {ws : List W} {h : Hp} : runPrim true .sset ws h = nObj h (primF .sset (ws.map (deref h))) := rp_true (rfl)
@[simp] theorem w_sset : Prim.raw .sset = false := (rfl)
@[simp] theorem w_lset : Prim.raw .lset = false := (rfl)
end Ow

/-! Y5: encodings, and what the primitives do to them. -/
namespace Ow
open PySem SetF
variable {δ α β γ ε ζ κ σ ρ : Type}

/-! ### encodings -/
@[reducible] def eT (e : α → W) (v : List α) : W := .tup (v.map e)
@[reducible] def eL (e : α → W) (v : List α) : W := .lst (v.map e)
@[reducible] def eSL (e : α → W) (v : List α) : W := .slst (v.map e)
@[reducible] def eO (e : α → W) (v : Option α) : W := match v with
  | none => .non
  | some x => e x
@[reducible] def eU (_ : Unit) : W := .non
@[reducible] def eW (w : W) : W := w
@[reducible] def eP2 (e1 : α → W) (e2 : β → W) (v : α × β) : W := .tup [e1 v.1, e2 v.2]
@[reducible] def eP3 (e1 : α → W) (e2 : β → W) (e3 : γ → W) (v : α × β × γ) : W := .tup [e1 v.1, e2 v.2.1, e3 v.2.2]
@[reducible] def eP4 (e1 : α → W) (e2 : β → W) (e3 : γ → W) (e4 : ε → W) (v : α × β × γ × ε) : W := .tup [e1 v.1, e2 v.2.1, e3 v.2.2.1, e4 v.2.2.2]
@[reducible] def eP5 (e1 : α → W) (e2 : β → W) (e3 : γ → W) (e4 : ε → W) (e5 : ζ → W) (v : α × β × γ × ε × ζ) : W := .tup [e1 v.1, e2 v.2.1, e3 v.2.2.1, e4 v.2.2.2.1, e5 v.2.2.2.2]
@[reducible] def eQ2 (e1 : α → W) (e2 : β → W) (v : α × β) : W := .lst [e1 v.1, e2 v.2]
@[reducible] def eQ3 (e1 : α → W) (e2 : β → W) (e3 : γ → W) (v : α × β × γ) : W := .lst [e1 v.1, e2 v.2.1, e3 v.2.2]
@[reducible] def eQ4 (e1 : α → W) (e2 : β → W) (e3 : γ → W) (e4 : ε → W) (v : α × β × γ × ε) : W := .lst [e1 v.1, e2 v.2.1, e3 v.2.2.1, e4 v.2.2.2]
abbrev row : List Int → W := eT W.int
/-- no refs -/
def FZ (e : α → W) : Prop := ∀ n v, below n (e v) = true
theorem fzI : FZ W.int := fun _ _ => rfl
theorem fzB : FZ W.bl := fun _ _ => rfl
theorem fzS : FZ W.str := fun _ _ => rfl
theorem fzU : FZ eU := fun _ _ => rfl
theorem fzT {e : α → W} (h : FZ e) : FZ (eT e) := fun n v => by simp only [below]; exact belowL_map _ fun x _ => h n x
theorem fzL {e : α → W} (h : FZ e) : FZ (eL e) := fun n v => by simp only [below]; exact belowL_map _ fun x _ => h n x
theorem fzO {e : α → W} (h : FZ e) : FZ (eO e) := fun n v => by
  cases v with
  | none => rfl
  | some x => exact h n x
theorem fzP2 {e1 : α → W} {e2 : β → W} (h1 : FZ e1) (h2 : FZ e2) : FZ (eP2 e1 e2) := fun n v => by simp [below, h1 n v.1, h2 n v.2]
theorem fzP3 {e1 : α → W} {e2 : β → W} {e3 : γ → W} (h1 : FZ e1) (h2 : FZ e2) (h3 : FZ e3) : FZ (eP3 e1 e2 e3) := fun n v => by simp [below, h1 n v.1, h2 n v.2.1, h3 n v.2.2]
theorem fzP4 {e1 : α → W} {e2 : β → W} {e3 : γ → W} {e4 : ε → W} (h1 : FZ e1) (h2 : FZ e2) (h3 : FZ e3) (h4 : FZ e4) : FZ (eP4 e1 e2 e3 e4) := fun n v => by simp [below, h1 n v.1, h2 n v.2.1, h3 n v.2.2.1, h4 n v.2.2.2]
theorem fzP5 {e1 : α → W} {e2 : β → W} {e3 : γ → W} {e4 : ε → W} {e5 : ζ → W} (h1 : FZ e1) (h2 : FZ e2) (h3 : FZ e3) (h4 : FZ e4) (h5 : FZ e5) : FZ (eP5 e1 e2 e3 e4 e5) := fun n v => by simp [below, h1 n v.1, h2 n v.2.1, h3 n v.2.2.1, h4 n v.2.2.2.1, h5 n v.2.2.2.2]
theorem fzQ2 {e1 : α → W} {e2 : β → W} (h1 : FZ e1) (h2 : FZ e2) : FZ (eQ2 e1 e2) := fun n v => by simp [below, h1 n v.1, h2 n v.2]
theorem fzQ3 {e1 : α → W} {e2 : β → W} {e3 : γ → W} (h1 : FZ e1) (h2 : FZ e2) (h3 : FZ e3) : FZ (eQ3 e1 e2 e3) := fun n v => by simp [below, h1 n v.1, h2 n v.2.1, h3 n v.2.2]
theorem fzQ4 {e1 : α → W} {e2 : β → W} {e3 : γ → W} {e4 : ε → W} (h1 : FZ e1) (h2 : FZ e2) (h3 : FZ e3) (h4 : FZ e4) : FZ (eQ4 e1 e2 e3 e4) := fun n v => by simp [below, h1 n v.1, h2 n v.2.1, h3 n v.2.2.1, h4 n v.2.2.2]
/-! ### values read as such -/
def dI : W → Option Int
  | .int i => some i
  | _ => none
def dS : W → Option Str
  | .str i => some i
  | _ => none
def dB : W → Option Bool
  | .bl i => some i
  | _ => none
def dAll (d : W → Option α) : List W → Option (List α)
  | [] => some []
  | w :: ws => (d w).bind fun x => (dAll d ws).map (x :: ·)
def dT (d : W → Option α) : W → Option (List α)
  | .tup ws => dAll d ws
  | _ => none
def dL (d : W → Option α) : W → Option (List α)
  | .lst ws => dAll d ws
  | _ => none
def dP2 (d1 : W → Option α) (d2 : W → Option β) : W → Option (α × β)
  | .tup [a, b] => (d1 a).bind fun x => (d2 b).map fun y => (x, y)
  | _ => none
def dP3 (d1 : W → Option α) (d2 : W → Option β) (d3 : W → Option γ) : W → Option (α × β × γ)
  | .tup [a, b, c] => (d1 a).bind fun x => (d2 b).bind fun y => (d3 c).map fun z => (x, y, z)
  | _ => none
def dP4 (d1 : W → Option α) (d2 : W → Option β) (d3 : W → Option γ) (d4 : W → Option ε) : W → Option (α × β × γ × ε)
  | .tup [a, b, c, d] => (d1 a).bind fun x => (d2 b).bind fun y => (d3 c).bind fun z => (d4 d).map fun u => (x, y, z, u)
  | _ => none
def dW (w : W) : Option W := some w
def Dec (d : W → Option α) (e : α → W) : Prop := ∀ w v, d w = some v → w = e v
theorem decI : Dec dI W.int := fun w v h => by cases w <;> first | (cases h; done) | (cases h; rfl)
theorem decS : Dec dS W.str := fun w v h => by cases w <;> first | (cases h; done) | (cases h; rfl)
theorem decB : Dec dB W.bl := fun w v h => by cases w <;> first | (cases h; done) | (cases h; rfl)
theorem decW : Dec dW eW := fun w v h => by cases h; rfl
theorem dAll_ok {d : W → Option α} {e : α → W} (h : Dec d e) : ∀ {ws : List W} {vs : List α}, dAll d ws = some vs → ws = vs.map e
  | [], vs, q => by cases q; rfl
  | w :: ws, vs, q => by
    simp only [dAll, Option.bind_eq_some_iff, Option.map_eq_some_iff] at q
    obtain ⟨x, e1, ys, e2, rfl⟩ := q
    rw [h w x e1, dAll_ok h e2]
    rfl
theorem decT {d : W → Option α} {e : α → W} (h : Dec d e) : Dec (dT d) (eT e) := fun w v q => by
  cases w <;> first | (cases q; done) | skip
  rw [dAll_ok h q]
theorem decL {d : W → Option α} {e : α → W} (h : Dec d e) : Dec (dL d) (eL e) := fun w v q => by
  cases w <;> first | (cases q; done) | skip
  rw [dAll_ok h q]
theorem decP2 {d1 : W → Option α} {e1 : α → W} {d2 : W → Option β} {e2 : β → W} (h1 : Dec d1 e1) (h2 : Dec d2 e2) : Dec (dP2 d1 d2) (eP2 e1 e2) := fun w v q => by
  unfold dP2 at q
  split at q
  · simp only [Option.bind_eq_some_iff, Option.map_eq_some_iff] at q
    obtain ⟨x, q1, y, q2, rfl⟩ := q
    rw [h1 _ _ q1, h2 _ _ q2]
  · cases q
theorem decP3 {d1 : W → Option α} {e1 : α → W} {d2 : W → Option β} {e2 : β → W} {d3 : W → Option γ} {e3 : γ → W} (h1 : Dec d1 e1) (h2 : Dec d2 e2) (h3 : Dec d3 e3) : Dec (dP3 d1 d2 d3) (eP3 e1 e2 e3) := fun w v q => by
  unfold dP3 at q
  split at q
  · simp only [Option.bind_eq_some_iff, Option.map_eq_some_iff] at q
    obtain ⟨x, q1, y, q2, z, q3, rfl⟩ := q
    rw [h1 _ _ q1, h2 _ _ q2, h3 _ _ q3]
  · cases q
theorem decP4 {d1 : W → Option α} {e1 : α → W} {d2 : W → Option β} {e2 : β → W} {d3 : W → Option γ} {e3 : γ → W} {d4 : W → Option ε} {e4 : ε → W} (h1 : Dec d1 e1) (h2 : Dec d2 e2) (h3 : Dec d3 e3) (h4 : Dec d4 e4) : Dec (dP4 d1 d2 d3 d4) (eP4 e1 e2 e3 e4) := fun w v q => by
  unfold dP4 at q
  split at q
  · simp only [Option.bind_eq_some_iff, Option.map_eq_some_iff] at q
    obtain ⟨x, q1, y, q2, z, q3, u, q4, rfl⟩ := q
    rw [h1 _ _ q1, h2 _ _ q2, h3 _ _ q3, h4 _ _ q4]
  · cases q
@[simp] theorem dI_int (i : Int) : dI (.int i) = some i := rfl
@[simp] theorem dS_str (i : Str) : dS (.str i) = some i := rfl
@[simp] theorem dB_bl (i : Bool) : dB (.bl i) = some i := rfl
@[simp] theorem dW_w (w : W) : dW w = some w := rfl
@[simp] theorem dT_tup (d : W → Option α) (ws : List W) : dT d (.tup ws) = dAll d ws := rfl
@[simp] theorem dL_lst (d : W → Option α) (ws : List W) : dL d (.lst ws) = dAll d ws := rfl
theorem dAll_map {d : W → Option α} {e : β → W} {f : β → α} (h : ∀ x, d (e x) = some (f x)) : ∀ l : List β, dAll d (l.map e) = some (l.map f)
  | [] => rfl
  | x :: l => by rw [List.map_cons, dAll, h, dAll_map h l]; rfl
@[simp] theorem dAll_int (l : List Int) : dAll dI (l.map W.int) = some l := by
  have := dAll_map (d := dI) (e := W.int) (f := id) (fun _ => rfl) l
  rwa [List.map_id] at this
@[simp] theorem dAll_nat (l : List Nat) : dAll dI (l.map fun n : Nat => W.int n) = some (l.map fun n : Nat => (n : Int)) := dAll_map (f := fun n : Nat => (n : Int)) (fun _ => rfl) l

/-! ### partial functions -/
def ixL (xs : List α) (i : Int) : Option α := L2.atI xs i
def cat (xs ys : List α) : Option (List α) := if okLen (xs.length + ys.length) then some (xs ++ ys) else none
def catS (x y : Str) : Option Str := if okLen (x.length + y.length) then some (x ++ y) else none
def mulI (a b : Int) : Option Int := if small64 a || small64 b then some (a * b) else none
def modI (a b : Int) : Option Int := if b = 0 then none else some (a.fmod b)
def fdivI (a b : Int) : Option Int := if b ≠ 0 ∧ b.natAbs < 1073741824 then some (a.fdiv b) else none
def powI (a b : Int) : Option Int := if 0 ≤ b ∧ b ≤ 1000000 ∧ a.natAbs < 2 ^ 64 then some (a ^ b.toNat) else none
def rngN (n : Int) : List Int := (List.range n.toNat).map fun i : Nat => (i : Int)
def rng (n : Int) : Option (List Int) := if inR n then some (rngN n) else none
def rng2 (a b : Int) : Option (List Int) := if inR a && inR b then some ((List.range (b - a).toNat).map fun i : Nat => a + (i : Int)) else none
def rngL (n : Int) : Option (List Int) := if n ≤ 16777216 ∧ -(2 ^ 62) ≤ n then some (rngN n) else none
def strI (i : Int) : Option Str := if i.natAbs.log2 < 1920 then some (toString i) else none
def cut (xs : List α) (lo hi : Option Int) : List α := (xs.drop (HT.sIx xs.length 0 lo)).take (HT.sIx xs.length xs.length hi - HT.sIx xs.length 0 lo)
def zipL : List α → List β → List (α × β)
  | a :: as, b :: bs => (a, b) :: zipL as bs
  | _, _ => []
def enumL : Nat → List α → List (Int × α)
  | _, [] => []
  | n, a :: as => ((n : Int), a) :: enumL (n + 1) as
def sortR (rs : List (List Int)) : Option (List (List Int)) := if (rs.all (fun r => !r.isEmpty) || decide (rs.length ≤ 1)) = true then some (rs.mergeSort rowLe) else none
def sortI (ns : List Int) : List Int := ns.mergeSort fun a b => decide (a ≤ b)
def ssetI (ns : List Int) : Option (List Int) := if ns.length < 64 then some (sortInts ns) else none
def ssetR (rs : List (List Int)) : Option (List (List Int)) := if rs.length < 64 ∧ (rs.all (fun r => !r.isEmpty) || decide ((uniq rs).length ≤ 1)) = true then some (sortRows rs) else none
def lsetI (ns : List Int) : Option Int := if ns.length < 4000 then some ((uniq ns).length : Int) else none
def lsetR (rs : List (List Int)) : Option Int := if rs.length < 64 then some ((uniq rs).length : Int) else none
def setR (rs : List (List Int)) : Option (List (List Int)) := if rs.length < 64 then some rs else none
def joinS (z : Str) (ys : List Str) : Option Str := if (ys.map (·.length)).sum + ys.length * z.length ≤ 16777216 then some (Txt.join z ys) else none
theorem atI_map (e : α → W) (xs : List α) (i : Int) : L2.atI (xs.map e) i = (L2.atI xs i).map e := by
  unfold L2.atI L2.ixN
  rw [List.length_map]
  repeat' split
  all_goals first | rfl | simp
section
variable {e : α → W} {e1 : α → W} {e2 : β → W} {xs ys : List α} {i j : Int}
theorem pf_ixT {v : α} (h : ixL xs i = some v) : primF .idx [eT e xs, .int i] = some (e v) := by
  rw [p_idx_t]
  unfold atW
  rw [atI_map, show L2.atI xs i = some v from h]
  rfl
theorem pf_ixL {v : α} (h : ixL xs i = some v) : primF .idx [eL e xs, .int i] = some (e v) := by
  rw [p_idx_l]
  unfold atW
  rw [atI_map, show L2.atI xs i = some v from h]
  rfl
theorem pf_ixSL {v : α} (h : ixL xs i = some v) : primF .idx [eSL e xs, .int i] = some (e v) := by
  rw [p_idx_sl]
  unfold atW
  rw [atI_map, show L2.atI xs i = some v from h]
  rfl
theorem pf_catT {v : List α} (h : cat xs ys = some v) : primF .add [eT e xs, eT e ys] = some (eT e v) := by
  rw [p_addT, List.length_map, List.length_map]
  unfold cat at h
  split at h
  · cases h
    rename_i q
    rw [if_pos q, eT, List.map_append]
  · cases h
theorem pf_catL {v : List α} (h : cat xs ys = some v) : primF .add [eL e xs, eL e ys] = some (eL e v) := by
  rw [p_addL, List.length_map, List.length_map]
  unfold cat at h
  split at h
  · cases h
    rename_i q
    rw [if_pos q, eL, List.map_append]
  · cases h
theorem pf_catS {x y v : Str} (h : catS x y = some v) : primF .add [.str x, .str y] = some (.str v) := by
  rw [p_addS]
  unfold catS at h
  split at h
  · cases h
    rename_i q
    rw [if_pos q]
  · cases h
theorem pf_mul {a b v : Int} (h : mulI a b = some v) : primF .mul [.int a, .int b] = some (.int v) := by
  rw [p_mulI]
  unfold mulI at h
  split at h
  · cases h
    rename_i q
    rw [if_pos q]
  · cases h
theorem pf_mod {a b v : Int} (h : modI a b = some v) : primF .mod [.int a, .int b] = some (.int v) := by
  rw [p_modI]
  unfold modI at h
  split at h
  · cases h
  · cases h
    rename_i q
    rw [if_neg q]
theorem pf_fdiv {a b v : Int} (h : fdivI a b = some v) : primF .fdiv [.int a, .int b] = some (.int v) := by
  unfold fdivI at h
  split at h
  · cases h
    exact p_fdiv (by assumption)
  · cases h
theorem pf_pow {a b v : Int} (h : powI a b = some v) : primF .pow [.int a, .int b] = some (.int v) := by
  unfold powI at h
  split at h
  · cases h
    exact p_pow (by assumption)
  · cases h
theorem pf_lenT : primF .len [eT e xs] = some (.int (xs.length : Int)) := by rw [p_lenT, List.length_map]
theorem pf_lenL : primF .len [eL e xs] = some (.int (xs.length : Int)) := by rw [p_len, List.length_map]
theorem pf_lenSL : primF .len [eSL e xs] = some (.int (xs.length : Int)) := by rw [p_lenS, List.length_map]
theorem cutW_map (lo hi : Option Int) : cutW (xs.map e) lo hi = (cut xs lo hi).map e := by
  unfold cutW cut
  rw [List.length_map, List.map_take, List.map_drop]
theorem pf_slT10 : primF (.sl true false) [eT e xs, .int i] = some (eT e (cut xs (some i) none)) := by rw [p_slLoT, cutW_map]
theorem pf_slT01 : primF (.sl false true) [eT e xs, .int i] = some (eT e (cut xs none (some i))) := by rw [p_slHiT, cutW_map]
theorem pf_slL10 : primF (.sl true false) [eL e xs, .int i] = some (eL e (cut xs (some i) none)) := by rw [p_slLo, cutW_map]
theorem pf_slL01 : primF (.sl false true) [eL e xs, .int i] = some (eL e (cut xs none (some i))) := by rw [p_slHi, cutW_map]
theorem pf_slT11 : primF (.sl true true) [eT e xs, .int i, .int j] = some (eT e (cut xs (some i) (some j))) := by
  show some (W.tup (cutW (xs.map e) (some i) (some j))) = _
  rw [cutW_map]
theorem pf_slL11 : primF (.sl true true) [eL e xs, .int i, .int j] = some (eL e (cut xs (some i) (some j))) := by
  show some (W.lst (cutW (xs.map e) (some i) (some j))) = _
  rw [cutW_map]
theorem pf_slT00 : primF (.sl false false) [eT e xs] = some (eT e (cut xs none none)) := by
  show some (W.tup (cutW (xs.map e) none none)) = _
  rw [cutW_map]
theorem pf_slL00 : primF (.sl false false) [eL e xs] = some (eL e (cut xs none none)) := by
  show some (W.lst (cutW (xs.map e) none none)) = _
  rw [cutW_map]
theorem pf_str {v : Str} (h : strI i = some v) : primF .str1 [.int i] = some (.str v) := by
  rw [p_str]
  unfold strI at h
  split at h
  · cases h
    rename_i q
    rw [if_pos q]
  · cases h
theorem rngN_map (n : Int) : (rngN n).map W.int = (List.range n.toNat).map fun i => W.int (i : Nat) := by
  unfold rngN
  rw [List.map_map]
  rfl
theorem pf_rngL {n : Int} {v : List Int} (h : rngL n = some v) : primF .rangeL [.int n] = some (eL W.int v) := by
  rw [p_rangeL]
  unfold rngL at h
  split at h
  · cases h
    rename_i q
    rw [if_pos q, eL, rngN_map]
  · cases h
theorem pf_rngT {n : Int} {v : List Int} (h : rngL n = some v) : primF .rangeT [.int n] = some (eT W.int v) := by
  rw [p_rangeT]
  unfold rngL at h
  split at h
  · cases h
    rename_i q
    rw [if_pos q, eT, rngN_map]
  · cases h
theorem it_rngI {n : Int} {v : List Int} (h : rng n = some v) : itemsOf .rng1 [.int n] = some (v.map W.int) := by
  unfold rng at h
  split at h
  · cases h
    rename_i q
    rw [rngN_map]
    simp only [itemsOf, q, if_true]
  · cases h
theorem it_rng2I {n m : Int} {v : List Int} (h : rng2 n m = some v) : itemsOf .rng2 [.int n, .int m] = some (v.map W.int) := by
  unfold rng2 at h
  split at h
  · cases h
    rename_i q
    simp only [itemsOf, q, if_true, List.map_map]
    rfl
  · cases h
theorem zipW_map (e1 : α → W) (e2 : β → W) : ∀ (xs : List α) (ys : List β), zipW (xs.map e1) (ys.map e2) = (zipL xs ys).map (eP2 e1 e2)
  | [], _ => by simp [zipW, zipL]
  | _ :: _, [] => by simp [zipW, zipL]
  | x :: xs, y :: ys => by rw [List.map_cons, List.map_cons, zipW, zipL, zipW_map e1 e2 xs ys]; rfl
theorem enumW_map (e : α → W) : ∀ (xs : List α) (n : Nat), enumW n (xs.map e) = (enumL n xs).map (eP2 W.int e)
  | [], _ => rfl
  | x :: xs, n => by rw [List.map_cons, enumW, enumL, enumW_map e xs (n + 1)]; rfl
theorem it_enT : itemsOf .enum [eT e xs] = some ((enumL 0 xs).map (eP2 W.int e)) := by rw [← enumW_map]; rfl
theorem it_enL : itemsOf .enum [eL e xs] = some ((enumL 0 xs).map (eP2 W.int e)) := by rw [← enumW_map]; rfl
theorem pf_tupd {ws : List W} (h : (decide (ws.length ≤ 1000)) = true := by rfl) : primF .tupd ws = some (.tup ws) := p_tupd (by have := size_big; have := of_decide_eq_true h; omega)
theorem pf_lstd {ws : List W} (h : (decide (ws.length ≤ 1000)) = true := by rfl) : primF .lstd ws = some (.lst ws) := p_lstd (by have := size_big; have := of_decide_eq_true h; omega)
theorem pf_all {bs : List Bool} : primF .all1 [eL W.bl bs] = some (.bl (bs.all id)) := by
  show (allBl (bs.map W.bl)).map _ = _
  have : ∀ bs : List Bool, allBl (bs.map W.bl) = some bs := fun bs => by
    induction bs with
    | nil => rfl
    | cons c bs ih => show (allBl (bs.map W.bl)).map (c :: ·) = _; rw [ih]; rfl
  rw [this]; rfl
theorem pf_any {bs : List Bool} : primF .any1 [eL W.bl bs] = some (.bl (bs.any id)) := by
  show (allBl (bs.map W.bl)).map _ = _
  have : ∀ bs : List Bool, allBl (bs.map W.bl) = some bs := fun bs => by
    induction bs with
    | nil => rfl
    | cons c bs ih => show (allBl (bs.map W.bl)).map (c :: ·) = _; rw [ih]; rfl
  rw [this]; rfl
theorem pf_sum {ns : List Int} : primF .sum1 [eL W.int ns] = some (.int ns.sum) := by
  show (allInt (ns.map W.int)).map _ = _
  rw [allInt_ns]; rfl
theorem pf_min {ns : List Int} {v : Int} (h : ns.min? = some v) : primF .min1 [eL W.int ns] = some (.int v) := by
  show (allInt (ns.map W.int)).bind (fun ns => ns.min?.map W.int) = _
  rw [allInt_ns, Option.bind_some, h]; rfl
theorem pf_max {ns : List Int} {v : Int} (h : ns.max? = some v) : primF .max1 [eL W.int ns] = some (.int v) := by
  show (allInt (ns.map W.int)).bind (fun ns => ns.max?.map W.int) = _
  rw [allInt_ns, Option.bind_some, h]; rfl
theorem pf_isN (ne : ∀ v, isNon (e v) = false) {v : Option α} : primF .isN [eO e v] = some (.bl v.isNone) := by
  rw [p_isN]
  cases v with
  | none => rfl
  | some x => rw [show eO e (some x) = e x from rfl, ne]; rfl
theorem pf_notN (ne : ∀ v, isNon (e v) = false) {v : Option α} : primF .notN [eO e v] = some (.bl v.isSome) := by
  rw [p_notN]
  cases v with
  | none => rfl
  | some x => rw [show eO e (some x) = e x from rfl, ne]; rfl
/-! ### ==, in -/
theorem Dt.bool : Dt W.bl 0 := ⟨fun _ => rfl, fun _ => by rw [show toD (.bl _) = PyData.bool _ from by rw [toD]]; rfl, fun x => by rw [show toD (.bl x) = PyData.bool x from by rw [toD]]; simp [PyData.depth], fun x y => by
  rw [show toD (.bl x) = PyData.bool x from by rw [toD], show toD (.bl y) = PyData.bool y from by rw [toD]]
  cases x <;> cases y <;> rfl⟩
theorem pf_eq [DecidableEq α] {k : Nat} (D : Dt e k) (hk : (decide (k ≤ 64)) = true) {x y : α} (h : pEq (e x) (e y) = if eqOk (e x) (e y) then some (PyData.eqv (toD (e x)) (toD (e y))) else none) : primF .eq [e x, e y] = some (.bl (decide (x = y))) := by
  show (pEq _ _).map W.bl = _
  rw [h, D.ok (of_decide_eq_true hk) x y, D.e x y]; rfl
theorem pf_ne [DecidableEq α] {k : Nat} (D : Dt e k) (hk : (decide (k ≤ 64)) = true) {x y : α} (h : pEq (e x) (e y) = if eqOk (e x) (e y) then some (PyData.eqv (toD (e x)) (toD (e y))) else none) : primF .ne [e x, e y] = some (.bl (!decide (x = y))) := by
  show (pEq _ _).map (fun c => W.bl (!c)) = _
  rw [h, D.ok (of_decide_eq_true hk) x y, D.e x y]; rfl
theorem y_flat : ∀ ns : List Int, (iv ns).all flatW = true
  | [] => rfl
  | n :: ns => y_flat ns
theorem y_any (x : Int) : ∀ ns : List Int, (iv ns).any (fun y => eqF y (.int x)) = decide (x ∈ ns)
  | [] => by simp
  | n :: ns => by
    show (W.int n :: iv ns).any (fun y => eqF y (.int x)) = _
    rw [List.any_cons, y_any x ns]
    have : eqF (.int n) (.int x) = decide (x = n) := by
      show (n == x) = _
      by_cases h : x = n
      · subst h; simp
      · simp [h, Ne.symm h]
    rw [this]
    by_cases h : x = n <;> simp [h]
theorem y_memF (x : Int) (ns : List Int) : pMemF (.int x) (iv ns) = some (decide (x ∈ ns)) := by
  unfold pMemF
  rw [y_flat, y_any]; rfl
theorem pf_memIL {x : Int} {ns : List Int} : primF .mem [.int x, eL W.int ns] = some (.bl (decide (x ∈ ns))) := by
  have : pMem (.int x) (.lst (iv ns)) = some (decide (x ∈ ns)) := by
    simp only [pMem, y_memF]
  show (pMem (.int x) (.lst (iv ns))).map W.bl = _
  rw [this]; rfl
theorem pf_memIT {x : Int} {ns : List Int} : primF .mem [.int x, eT W.int ns] = some (.bl (decide (x ∈ ns))) := by
  have : pMem (.int x) (.tup (iv ns)) = some (decide (x ∈ ns)) := by
    simp only [pMem, y_memF]
  show (pMem (.int x) (.tup (iv ns))).map W.bl = _
  rw [this]; rfl
theorem pf_nmem {x y : W} {c : Bool} (h : primF .mem [x, y] = some (.bl c)) : primF .nmem [x, y] = some (.bl (!c)) := by
  have h : (pMem x y).map W.bl = some (.bl c) := h
  show (pMem x y).map (fun c => W.bl (!c)) = _
  cases hm : pMem x y with
  | none => rw [hm] at h; cases h
  | some k => rw [hm] at h; cases h; rfl
theorem pf_memTL [DecidableEq α] {k : Nat} (D : Dt e k) (hk : (decide (k < 63)) = true) {x : List α} {l : List (List α)} : primF .mem [eT e x, eL (eT e) l] = some (.bl (decide (x ∈ l))) := by
  show (pMem _ _).map W.bl = _
  rw [show pMem (eT e x) (eL (eT e) l) = some (decide (x ∈ l)) from D.memT (of_decide_eq_true hk) x l]; rfl
end
/-! ### sorted, sets -/
theorem pf_sortIL {ns : List Int} : primF .sorted1 [eL W.int ns] = some (eL W.int (sortI ns)) := pSort_ints (x := .lst (ns.map W.int)) rfl
theorem pf_sortIT {ns : List Int} : primF .sorted1 [eT W.int ns] = some (eL W.int (sortI ns)) := pSort_ints (x := .tup (ns.map W.int)) rfl
theorem sortR_ok {rs v : List (List Int)} (h : sortR rs = some v) : ((∀ r ∈ rs, r ≠ []) ∨ rs.length ≤ 1) ∧ v = rs.mergeSort rowLe := by
  unfold sortR at h
  split at h
  · cases h
    rename_i q
    rw [Bool.or_eq_true] at q
    refine ⟨?_, rfl⟩
    rcases q with q | q
    · refine .inl fun r hr e => ?_
      have := List.all_eq_true.mp q r hr
      rw [e] at this
      cases this
    · exact .inr (of_decide_eq_true q)
  · cases h
theorem pf_sortRL {rs v : List (List Int)} (h : sortR rs = some v) : primF .sorted1 [eL row rs] = some (eL row v) := by
  obtain ⟨h1, rfl⟩ := sortR_ok h
  exact pSort_rows (x := .lst (rv rs)) rfl h1
theorem pf_sortRT {rs v : List (List Int)} (h : sortR rs = some v) : primF .sorted1 [eT row rs] = some (eL row v) := by
  obtain ⟨h1, rfl⟩ := sortR_ok h
  exact pSort_rows (x := .tup (rv rs)) rfl h1
theorem pf_ssetI {x : W} {ns v : List Int} (hx : items x = some (ns.map W.int)) (h : ssetI ns = some v) : primF .sset [x] = some (eL W.int v) := by
  unfold ssetI at h
  split at h
  · cases h
    exact pSset_ints hx (by assumption)
  · cases h
theorem pf_ssetR {x : W} {rs v : List (List Int)} (hx : items x = some (rs.map row)) (h : ssetR rs = some v) : primF .sset [x] = some (eL row v) := by
  unfold ssetR at h
  split at h
  · cases h
    rename_i q
    show (items x).bind _ = _
    rw [hx, Option.bind_some]
    cases rs with
    | nil => simp [allInt, sortRows, sortInts, uniq, rowsW]
    | cons r rs =>
      rw [show allInt ((r :: rs).map row) = none from rfl]
      show (rowsW (rv (r :: rs))).bind _ = _
      rw [rowsW_rv, Option.bind_some, if_pos q]
      rfl
  · cases h
theorem pf_lsetI {x : W} {ns : List Int} {v : Int} (hx : items x = some (ns.map W.int)) (h : lsetI ns = some v) : primF .lset [x] = some (.int v) := by
  unfold lsetI at h
  split at h
  · cases h
    rename_i q
    show (items x).bind _ = _
    rw [hx, Option.bind_some, allInt_ns]
    exact if_pos q
  · cases h
theorem pf_lsetR {x : W} {rs : List (List Int)} {v : Int} (hx : items x = some (rs.map row)) (h : lsetR rs = some v) : primF .lset [x] = some (.int v) := by
  unfold lsetR at h
  split at h
  · cases h
    rename_i q
    show (items x).bind _ = _
    rw [hx, Option.bind_some]
    cases rs with
    | nil => rfl
    | cons r rs =>
      rw [show allInt ((r :: rs).map row) = none from rfl]
      show (rowsW (rv (r :: rs))).bind _ = _
      rw [rowsW_rv, Option.bind_some]
      exact if_pos q
  · cases h
@[reducible] def eSet (rs : List (List Int)) : W := .set rs
theorem pf_setR {x : W} {rs v : List (List Int)} (hx : items x = some (rs.map row)) (h : setR rs = some v) : primF .set1 [x] = some (eSet v) := by
  unfold setR at h
  split at h
  · cases h
    rename_i q
    show (items x).bind _ = _
    rw [hx, Option.bind_some]
    show (rowsW (rv rs)).bind _ = _
    rw [rowsW_rv, Option.bind_some]
    exact if_pos q
  · cases h
theorem pf_memS {r : List Int} {rs : List (List Int)} : primF .mem [row r, eSet rs] = some (.bl (decide (r ∈ rs))) := by
  show (pMem (row r) (.set rs)).map W.bl = _
  have e : pMem (row r) (.set rs) = some (decide (r ∈ rs)) := by
    show (allInt (r.map W.int)).map (fun k => decide (k ∈ rs)) = _
    rw [allInt_ns]
    rfl
  rw [e]
  rfl
/-! ### values that are read as such -/
section
variable {I : DI δ} {b : Nat} {call : Nat → Nat → List W → Hp → R W} {G : List Slot} {e ei : Ex} {es : List Ex} {en : α → W}
theorem AJ.cast {m : M δ W} {d : W → Option α} (q : AJ I b call G e (fun w => .ex (eW w)) m) (hd : Dec d en) : AJ I b call G e (fun v => .ex (en v)) (m >>= fun w => M.lift (d w)) := .mk fun r h s l o => by
  have z := q r h s l o
  rw [M.bind_app]
  match hm : m s, z with
  | none, _ => trivial
  | some (.ex v, d'), z => exact z
  | some (.ok w, d'), z =>
    obtain ⟨u, h', e1, a1, x, k⟩ := z
    dsimp only
    cases hv : d w with
    | none => trivial
    | some v =>
      cases (show u = w from a1)
      exact ⟨_, h', e1, hd _ _ hv, x, k⟩
theorem AJ.castV {w : W} {d : W → Option α} (q : VJ I b call G e (.ex w)) (hd : Dec d en) : AJ I b call G e (fun v => .ex (en v)) (M.lift (d w)) := by
  have := AJ.cast (AJ.ofV (δ := δ) (pk := fun w => .ex (eW w)) (v := w) q) hd
  exact this
theorem AJ.inj {m : M δ α} (q : AJ I b call G e (fun v => .ex (en v)) m) : AJ I b call G e (fun w => .ex (eW w)) (m >>= fun v => pure (en v)) := .mk fun r h s l o => by
  have z := q r h s l o
  rw [M.bind_app]
  match hm : m s, z with
  | none, _ => trivial
  | some (.ex v, d'), z => exact z
  | some (.ok w, d'), z => exact z
/-- an item, a part of a value that is not looked into -/
def ixW (w : W) (i : Int) : Option W := if nref w then pIdx w (.int i) else none
def slW (w : W) (lo hi : Option Int) : Option W := match w with
  | .tup ws => some (.tup (cutW ws lo hi))
  | .lst ws => some (.lst (cutW ws lo hi))
  | _ => none
def lenW (w : W) : Option Int := if nref w then (seqLen w).map fun n => (n : Int) else none
@[simp] theorem ixW_tup (ws : List W) (i : Int) : ixW (.tup ws) i = atW ws i := rfl
@[simp] theorem ixW_lst (ws : List W) (i : Int) : ixW (.lst ws) i = atW ws i := rfl
@[simp] theorem slW_tup (ws : List W) (lo hi : Option Int) : slW (.tup ws) lo hi = some (.tup (cutW ws lo hi)) := rfl
@[simp] theorem slW_lst (ws : List W) (lo hi : Option Int) : slW (.lst ws) lo hi = some (.lst (cutW ws lo hi)) := rfl
theorem PrP.ofW {p : Prim} {ws : List W} {pas : List PA} {en : α → W} {o : Option α} (hp : pas = exs ws) (n : ∀ v, o = some v → ws.all nref = true) (e : ∀ v, o = some v → primF p ws = some (en v)) (hr : p.raw = false) : PrP (δ := δ) p (fun v => .ex (en v)) true pas (M.lift o) :=
  ⟨ws, o, hp, rfl, fun v ev => ⟨_, rfl, e v ev⟩⟩
theorem map_nref {h : Hp} : ∀ {ws : List W}, ws.all nref = true → ws.map (deref h) = ws
  | [], _ => rfl
  | w :: ws, q => by
    rw [List.all_cons, Bool.and_eq_true] at q
    rw [List.map_cons, deref_nref q.1, map_nref q.2]
/-- a primitive over values that are no refs where it has a result -/
theorem AJ.prW {p : Prim} {m : M δ α} (q : EsJ I b call G es (fun pas m => ∃ (ws : List W) (o : Option α), pas = exs ws ∧ m = M.lift o ∧ ∀ v, o = some v → ws.all nref = true ∧ primF p ws = some (en v)) m) (hr : p.raw = false := by rfl) : AJ I b call G (.pr false p es) (fun v => .ex (en v)) m := .mk fun r h d l o => by
  have z := q r h d l o
  match hm : m d, z with
  | none, _ => trivial
  | some (.ok v, d'), z =>
    rcases z with ⟨us, h', d'', m', pas, z1, z2, z3, z4, ⟨ws, o', rfl, z6, z7⟩, z8⟩ | ⟨x, h', z1, z2, z3, z4⟩
    · subst z6
      cases o' with
      | none => cases z8
      | some v' =>
        have e8 : (some (Rs.ok v', d'') : Option (Rs α × δ)) = some (.ok v, d') := z8
        cases e8
        obtain ⟨n1, e10⟩ := z7 v rfl
        refine ⟨_, h', ?_, rfl, z3, z4⟩
        rw [e_pr_, z1, R.bind_ok, rp_false, if_neg (by rw [hr]; decide), args_ex z2, map_nref n1, e10]
        rfl
    · cases z1
  | some (.ex v, d'), z =>
    rcases z with ⟨us, h', d'', m', pas, z1, z2, z3, z4, ⟨ws, o', rfl, z6, z7⟩, z8⟩ | ⟨x, h', z1, z2, z3, z4⟩
    · subst z6
      cases o' with
      | none => cases z8
      | some v' => cases z8
    · cases (show v = x by injection z1)
      exact ⟨h', by rw [e_pr_, z2]; rfl, z3, z4⟩
theorem pw_ix {w v : W} {i : Int} (h : ixW w i = some v) : [w, .int i].all nref = true ∧ primF .idx [w, .int i] = some (eW v) := by
  unfold ixW at h
  split at h
  · rename_i q
    exact ⟨by rw [List.all_cons, q]; rfl, h⟩
  · cases h
theorem pw_sl10 {w v : W} {i : Int} (h : slW w (some i) none = some v) : [w, .int i].all nref = true ∧ primF (.sl true false) [w, .int i] = some (eW v) := by
  cases w <;> first | (cases h; done) | (cases h; exact ⟨rfl, rfl⟩)
theorem pw_sl01 {w v : W} {i : Int} (h : slW w none (some i) = some v) : [w, .int i].all nref = true ∧ primF (.sl false true) [w, .int i] = some (eW v) := by
  cases w <;> first | (cases h; done) | (cases h; exact ⟨rfl, rfl⟩)
theorem pw_len {w : W} {v : Int} (h : lenW w = some v) : [w].all nref = true ∧ primF .len [w] = some (.int v) := by
  unfold lenW at h
  split at h
  · rename_i q
    refine ⟨by simp [q], ?_⟩
    show (seqLen w).map (fun n => W.int n) = _
    cases hs : seqLen w with
    | none => rw [hs] at h; cases h
    | some n => rw [hs] at h; cases h; rfl
  · cases h
/-- a value that a def hands back, not looked into -/
def retW (m : M δ W) : M δ W := m >>= fun w => M.chk (below 0 w) >>= fun _ => pure w
end
theorem CS.dfW {I : DI δ} {T : List Def} {N d k np nn : Nat} {pas : List PA} {body : List St} {m : M δ W} (i : Is T k np nn body) (hp : pas.length = np)
    (q : ∀ b, BJ I b (evC T N d) N (pas.map slotOf ++ List.replicate (nn - np) .no) body (fun v => .fe (eW v)) m) : CS I (evC T N (d + 1)) k pas (fun v => .ex (eW v)) (retW m) := .mk fun b h d0 us o a => by
  rw [i.run (by rw [a.len]; exact hp)]
  have z := q h.length _ h d0 (lay_args a (nn - np)) o
  have cut : ∀ h', BS I h.length h h' → ES I h (h'.take h.length) := fun h' x => ⟨by rw [List.length_take, Nat.min_eq_left x.len]; exact Nat.le_refl _, fun j hj n => by rw [List.getElem?_take_of_lt hj]; exact x.old j hj n⟩
  have cok : ∀ h' d', BS I h.length h h' → I.ok h' d' → I.ok (h'.take h.length) d' := fun h' d' x o' => I.loc o' fun j hj => by
    rw [List.getElem?_take_of_lt]
    have := I.inb o hj
    exact this
  unfold retW
  rw [M.bind_app]
  match hm : m d0, z with
  | none, _ => trivial
  | some (.ex x, d'), ⟨r', h', e1, x1, o1⟩ =>
    rw [e1]
    exact ⟨_, rfl, cut h' x1, cok h' d' x1 o1⟩
  | some (.ok v, d'), ⟨h', e1, x1, o1⟩ =>
    dsimp only
    cases hb : below 0 v with
    | false => trivial
    | true =>
      have fz : below h.length v = true := below_mono (Nat.zero_le _) v hb
      rcases e1 with e1 | ⟨e0, r', e1⟩
      · rw [e1, endB_r, end_val fz]
        exact ⟨_, _, rfl, rfl, cut h' x1, cok h' d' x1 o1⟩
      · rw [e1, endB_n, end_val rfl]
        exact ⟨_, _, rfl, e0.symm, cut h' x1, cok h' d' x1 o1⟩
/-! ### the terms that a program prints -/
theorem GLe.c {s' s : Slot} {r' r : List Slot} (h : SlLe s' s) (t : GLe r' r) : GLe (s' :: r') (s :: r) := ⟨h, t⟩
theorem GLe.e : GLe [] [] := trivial
end Ow

/-! Y6: the rules as a printed term uses them. -/
namespace Ow
open PySem SetF
variable {δ α β γ κ σ ρ : Type}
section
variable {I : DI δ} {b : Nat} {call : Nat → Nat → List W → Hp → R W} {N : Nat} {G : List Slot} {e a c : Ex} {es srcs : List Ex} {pk : α → PA} {m : M δ α} {w : W} {i : Nat} {p : Prim} {ws : List W} {pas : List PA} {en : α → W} {kk : ItK}
theorem V.pr (q : VsJ I b call G es pas) (e : primF p ws = some w) (hp : pas = los ws := by rfl) (hr : p.raw = false := by rfl) : VJ I b call G (.pr false p es) (.ex w) := VJ.pr q hp e hr
theorem V.prR (q : VsJ I b call G es pas) (e : primF p ws = some w) (hp : pas = exs ws := by rfl) (hr : p.raw = true := by rfl) : VJ I b call G (.pr false p es) (.ex w) := VJ.prR q hp e hr
theorem P.of {raw : Bool} {o : Option α} (e : ∀ v, o = some v → primF p ws = some (en v)) (hp : pas = (if raw then exs ws else los ws) := by rfl) : PrP (δ := δ) p (fun v => .ex (en v)) raw pas (M.lift o) := PrP.of hp e
theorem P.tot {raw : Bool} {v : α} (e : primF p ws = some (en v)) (hp : pas = (if raw then exs ws else los ws) := by rfl) : PrP (δ := δ) p (fun v => .ex (en v)) raw pas (pure v) := PrP.tot hp e
theorem P.wv {o : Option α} (e : ∀ v, o = some v → ws.all nref = true ∧ primF p ws = some (en v)) (hp : pas = exs ws := by rfl) : ∃ (ws : List W) (o' : Option α), pas = exs ws ∧ (M.lift o : M δ α) = M.lift o' ∧ ∀ v, o' = some v → ws.all nref = true ∧ primF p ws = some (en v) := ⟨ws, o, hp, rfl, e⟩
def unP : PA → W
  | .ex w => w
  | .lo w => w
  | .lb _ w => w
theorem V.tupd (q : VsJ I b call G es pas) (hl : (decide ((pas.map unP).length ≤ 1000)) = true := by rfl) (hp : pas = exs (pas.map unP) := by rfl) : VJ I b call G (.pr false .tupd es) (.ex (.tup (pas.map unP))) := VJ.prR q hp (pf_tupd hl)
theorem V.lstd (q : VsJ I b call G es pas) (hl : (decide ((pas.map unP).length ≤ 1000)) = true := by rfl) (hp : pas = exs (pas.map unP) := by rfl) : VJ I b call G (.pr false .lstd es) (.ex (.lst (pas.map unP))) := VJ.prR q hp (pf_lstd hl)
theorem P.tupd {v : α} (hv : en v = .tup (pas.map unP) := by rfl) (hl : (decide ((pas.map unP).length ≤ 1000)) = true := by rfl) (hp : pas = exs (pas.map unP) := by rfl) : PrP (δ := δ) .tupd (fun v => .ex (en v)) true pas (pure v) := PrP.tot hp (by rw [hv]; exact pf_tupd hl)
theorem P.lstd {v : α} (hv : en v = .lst (pas.map unP) := by rfl) (hl : (decide ((pas.map unP).length ≤ 1000)) = true := by rfl) (hp : pas = exs (pas.map unP) := by rfl) : PrP (δ := δ) .lstd (fun v => .ex (en v)) true pas (pure v) := PrP.tot hp (by rw [hv]; exact pf_lstd hl)
theorem S.tot {xs : List α} (e : itemsOf kk ws = some (xs.map en)) (hp : pas = los ws := by rfl) : SrP (δ := δ) kk en pas (pure xs) := SrP.tot hp e
theorem S.of {o : Option (List α)} (e : ∀ xs, o = some xs → itemsOf kk ws = some (xs.map en)) (hp : pas = los ws := by rfl) : SrP (δ := δ) kk en pas (M.lift o) := SrP.of hp e
theorem B.tot {xs : List α} (e : itemsOf kk ws = some (xs.map en)) (hp : pas = lbs b ws := by rfl) : SbP (δ := δ) b kk en pas (pure xs) := SbP.tot hp e
theorem B.of {o : Option (List α)} (e : ∀ xs, o = some xs → itemsOf kk ws = some (xs.map en)) (hp : pas = lbs b ws := by rfl) : SbP (δ := δ) b kk en pas (M.lift o) := SbP.of hp e
theorem AJ.map {eb : β → W} {f : α → β} (q : AJ I b call G e (fun v => .ex (en v)) m) (h : ∀ v, eb (f v) = en v) : AJ I b call G e (fun v => .ex (eb v)) (m >>= fun v => pure (f v)) := .mk fun r hh s l o => by
  have z := q r hh s l o
  rw [M.bind_app]
  match hm : m s, z with
  | none, _ => trivial
  | some (.ex v, d'), z => exact z
  | some (.ok w, d'), ⟨u, h', e1, a1, x, k⟩ => exact ⟨u, h', e1, (show u = en w from a1).trans (h w).symm, x, k⟩
theorem BJ.app {xs : List α} {ss : List St} {Fin : κ → En} {k : List α → M δ κ} (hi : sat G i = .ob (.lst (xs.map en))) (q : AJ I b call G e (fun v => .ex (en v)) m) (rest : ∀ ys, BJ I b call N (sup G i (.ob (.lst (ys.map en)))) ss Fin (k ys)) :
    BJ I b call N G (.exp (.mth .append (.var i) [e]) :: ss) Fin (m >>= fun v => M.chk (decide (xs.length < sizeLine)) >>= fun _ => k (xs ++ [v])) := BJ.append hi q fun v => rest (xs ++ [v])
end
/-! ### primitives by name -/
section
variable {e : α → W} {e1 : α → W} {e2 : β → W} {xs ys : List α} {i j : Int} {x y : Str} {c d : Bool}
theorem pf_add : primF .add [.int i, .int j] = some (.int (i + j)) := rfl
theorem pf_sub : primF .sub [.int i, .int j] = some (.int (i - j)) := rfl
theorem pf_neg : primF .neg [.int i] = some (.int (-i)) := rfl
theorem pf_lt : primF .lt [.int i, .int j] = some (.bl (decide (i < j))) := rfl
theorem pf_le : primF .le [.int i, .int j] = some (.bl (decide (i ≤ j))) := rfl
theorem pf_gt : primF .gt [.int i, .int j] = some (.bl (decide (j < i))) := rfl
theorem pf_ge : primF .ge [.int i, .int j] = some (.bl (decide (j ≤ i))) := rfl
theorem pf_eqI : primF .eq [.int i, .int j] = some (.bl (decide (i = j))) := p_eqi i j
theorem pf_neI : primF .ne [.int i, .int j] = some (.bl (!decide (i = j))) := p_nei i j
theorem pf_eqS : primF .eq [.str x, .str y] = some (.bl (decide (x = y))) := rfl
theorem pf_neS : primF .ne [.str x, .str y] = some (.bl (!decide (x = y))) := rfl
theorem pf_eqB : primF .eq [.bl c, .bl d] = some (.bl (decide (c = d))) := pf_eq Dt.bool rfl rfl
theorem pf_neB : primF .ne [.bl c, .bl d] = some (.bl (!decide (c = d))) := pf_ne Dt.bool rfl rfl
theorem pf_eqT [DecidableEq α] {k : Nat} (D : Dt e k) (hk : (decide (k < 64)) = true := by rfl) : primF .eq [eT e xs, eT e ys] = some (.bl (decide (xs = ys))) := D.eqT (of_decide_eq_true hk) xs ys
theorem pf_neT [DecidableEq α] {k : Nat} (D : Dt e k) (hk : (decide (k < 64)) = true := by rfl) : primF .ne [eT e xs, eT e ys] = some (.bl (!decide (xs = ys))) := D.neT (of_decide_eq_true hk) xs ys
theorem pf_eqL [DecidableEq α] {k : Nat} (D : Dt e k) (hk : (decide (k < 64)) = true := by rfl) : primF .eq [eL e xs, eL e ys] = some (.bl (decide (xs = ys))) := D.eqL (of_decide_eq_true hk) xs ys
theorem pf_neL [DecidableEq α] {k : Nat} (D : Dt e k) (hk : (decide (k < 64)) = true := by rfl) : primF .ne [eL e xs, eL e ys] = some (.bl (!decide (xs = ys))) := D.neL (of_decide_eq_true hk) xs ys
theorem pf_int : primF .int1 [.int i] = some (.int i) := rfl
theorem pf_intB : primF .int1 [.bl c] = some (.int (if c then 1 else 0)) := rfl
theorem pf_abs : primF .abs [.int i] = some (.int (if i < 0 then -i else i)) := rfl
theorem pf_listT : primF .list1 [eT e xs] = some (eL e xs) := rfl
theorem pf_listL : primF .list1 [eL e xs] = some (eL e xs) := rfl
theorem pf_listSL : primF .list1 [eSL e xs] = some (eL e xs) := rfl
theorem pf_tupT : primF .tuple1 [eT e xs] = some (eT e xs) := rfl
theorem pf_tupL : primF .tuple1 [eL e xs] = some (eT e xs) := rfl
theorem pf_min2 : primF .min2 [.int i, .int j] = some (.int (if j < i then j else i)) := rfl
theorem pf_max2 : primF .max2 [.int i, .int j] = some (.int (if j > i then j else i)) := rfl
theorem pf_isB : primF .isB [.bl c, .bl d] = some (.bl (decide (c = d))) := rfl
theorem pf_isNW {w : W} : primF .isN [w] = some (.bl (isNon w)) := rfl
theorem pf_notNW {w : W} : primF .notN [w] = some (.bl (!isNon w)) := rfl
theorem pf_memBL {bs : List Bool} : primF .mem [.bl c, eL W.bl bs] = some (.bl (decide (c ∈ bs))) := by
  have h1 : ∀ bs : List Bool, (bs.map W.bl).all flatW = true := fun bs => by
    induction bs with
    | nil => rfl
    | cons b bs ih => exact ih
  have h2 : ∀ bs : List Bool, (bs.map W.bl).any (fun y => eqF y (.bl c)) = decide (c ∈ bs) := fun bs => by
    induction bs with
    | nil => simp
    | cons b bs ih =>
      rw [List.map_cons, List.any_cons, ih]
      show (b == c || _) = _
      cases b <;> cases c <;> simp
  have : pMem (.bl c) (.lst (bs.map W.bl)) = some (decide (c ∈ bs)) := by
    have e : pMemF (.bl c) (bs.map W.bl) = some (decide (c ∈ bs)) := by
      unfold pMemF
      rw [h1, h2]; rfl
    simp only [pMem, e]
  show (pMem (.bl c) (.lst (bs.map W.bl))).map W.bl = _
  rw [this]; rfl
theorem it_T : itemsOf .seq [eT e xs] = some (xs.map e) := rfl
theorem it_L : itemsOf .seq [eL e xs] = some (xs.map e) := rfl
theorem it_SL : itemsOf .seq [eSL e xs] = some (xs.map e) := rfl
theorem pf_ssetIT {ns v : List Int} (h : ssetI ns = some v) : primF .sset [eT W.int ns] = some (eL W.int v) := pf_ssetI rfl h
theorem pf_ssetIL {ns v : List Int} (h : ssetI ns = some v) : primF .sset [eL W.int ns] = some (eL W.int v) := pf_ssetI rfl h
theorem pf_ssetRT {ns v : List (List Int)} (h : ssetR ns = some v) : primF .sset [eT row ns] = some (eL row v) := pf_ssetR rfl h
theorem pf_ssetRL {ns v : List (List Int)} (h : ssetR ns = some v) : primF .sset [eL row ns] = some (eL row v) := pf_ssetR rfl h
theorem pf_lsetIT {ns : List Int} {v : Int} (h : lsetI ns = some v) : primF .lset [eT W.int ns] = some (.int v) := pf_lsetI rfl h
theorem pf_lsetIL {ns : List Int} {v : Int} (h : lsetI ns = some v) : primF .lset [eL W.int ns] = some (.int v) := pf_lsetI rfl h
theorem pf_lsetRT {ns : List (List Int)} {v : Int} (h : lsetR ns = some v) : primF .lset [eT row ns] = some (.int v) := pf_lsetR rfl h
theorem pf_lsetRL {ns : List (List Int)} {v : Int} (h : lsetR ns = some v) : primF .lset [eL row ns] = some (.int v) := pf_lsetR rfl h
theorem pf_setRT {ns v : List (List Int)} (h : setR ns = some v) : primF .set1 [eT row ns] = some (eSet v) := pf_setR rfl h
theorem pf_setRL {ns v : List (List Int)} (h : setR ns = some v) : primF .set1 [eL row ns] = some (eSet v) := pf_setR rfl h
end
end Ow

/-! B1: the defs' bodies. -/
namespace Ow
open PySem
/-- words_of: 1 parameters, names 0 numbers 1 number -/
def P_words_of : List St := [.ret (.lc false (.nm 1) .seq [.var 0] [] (.pr false .str1 [.var 1]))]
/-- dependency_words: 1 parameters, names 0 dependency 1 words 2 part -/
def P_dependency_words (c_words_of : Nat) : List St := [.asg (.nm 1) (.pr false .lstd [.pr false .idx [.var 0, .cst (.int 0)], .pr false .str1 [.pr false .idx [.var 0, .cst (.int 1)]]]), .iff (.pr false .eq [.pr false .idx [.var 0, .cst (.int 0)], .cst (.str "joins")]) [.forr false (.nm 2) .seq [.pr false .idx [.var 0, .cst (.int 2)]] [2] [.asg (.nm 1) (.pr false .add [.pr false .add [.var 1, .pr false .lstd [.cst (.str "part")]], .call c_words_of [.var 2]])], .ret (.var 1)] [], .asg (.nm 1) (.pr false .add [.var 1, .call c_words_of [.pr false .idx [.var 0, .cst (.int 2)]]]), .iff (.pr false .eq [.pr false .idx [.var 0, .cst (.int 0)], .cst (.str "within")]) [.ret (.pr false .add [.pr false .add [.var 1, .pr false .lstd [.cst (.str "of"), .pr false .str1 [.pr false .idx [.var 0, .cst (.int 3)]]]], .call c_words_of [.pr false .idx [.var 0, .cst (.int 4)]]])] [], .ret (.pr false .add [.pr false .add [.var 1, .pr false .lstd [.cst (.str "to")]], .call c_words_of [.pr false .idx [.var 0, .cst (.int 3)]]])]
/-- write_book: 1 parameters, names 0 book 1 dependency -/
def P_write_book (c_dependency_words : Nat) : List St := [.ret (.mth .join (.cst (.str "")) [.lc false (.nm 1) .seq [.var 0] [] (.pr false .add [.mth .join (.cst (.str " ")) [.call c_dependency_words [.var 1]], .cst (.str "\n")])])]
/-- _law_draws: 2 parameters, names 0 script 1 many 2 cells 3 rest 4 draws_here 5 k 6 at 7 once 8 cell_here -/
def L_draws : List St := [.asg (.nm 2) (.lc true (.nm 8) .seq [.var 0] [] (.pr false .int1 [.var 8])), .iff (.pr false .eq [.pr false .len [.var 2], .cst (.int 0)]) [.exp (.mth .append (.var 2) [.cst (.int 0)])] [], .asg (.nm 3) (.pr true .list1 [.var 2]), .asg (.nm 4) (.pr true .lstd []), .forr false (.nm 5) .rng1 [.var 1] [5, 6, 7] [.asg (.nm 6) (.pr false .mod [.var 5, .pr false .len [.var 2]]), .iff (.pr false .ge [.pr false .idx [.var 2, .var 6], .pr false .pow [.cst (.int 10), .cst (.int 18)]]) [.exp (.mth .append (.var 4) [.pr false .mod [.pr false .int1 [.pr false .idx [.var 3, .var 6]], .cst (.int 1000)]]), .seti (.var 3) (.var 6) (.pr false .fdiv [.pr false .idx [.var 3, .var 6], .cst (.int 1000)])] [.asg (.nm 7) (.pr false .mod [.pr false .int1 [.pr false .add [.pr false .add [.pr false .mul [.pr false .idx [.var 2, .var 6], .cst (.int 48271)], .pr false .mul [.var 5, .cst (.int 69621)]], .cst (.int 11)]], .cst (.int 2147483647)]), .exp (.mth .append (.var 4) [.pr false .mod [.pr false .int1 [.pr false .add [.pr false .add [.pr false .mul [.var 7, .var 7], .pr false .mul [.cst (.int 3), .var 7]], .var 5]], .cst (.int 1000003)]])]], .exp (.mth .reverse (.var 4) []), .ret (.var 4)]
/-- _law_cell: 2 parameters, names 0 script 1 draws_here -/
def L_cell (c_take : Nat) : List St := [.iff (.pr false .eq [.pr false .len [.var 0], .cst (.int 0)]) [.ret (.cst (.int 0))] [], .ret (.pr false .int1 [.pr false .idx [.var 0, .call c_take [.var 1, .pr false .len [.var 0]]]])]
/-- _law_same: 2 parameters, names 0 actual 1 due 2 k -/
def L_same (c_same : Nat) : List St := [.iff (.or_ (.pr false (.isi .tup) [.var 1]) (.pr false (.isi .lst) [.var 1])) [.iff (.and_ (.pr false (.isi .tup) [.var 1]) (.not_ (.pr false (.isi .tup) [.var 0]))) [.ret (.cst (.bl false))] [], .iff (.and_ (.pr false (.isi .lst) [.var 1]) (.not_ (.pr false (.isi .lst) [.var 0]))) [.ret (.cst (.bl false))] [], .iff (.pr false .ne [.pr false .len [.var 0], .pr false .len [.var 1]]) [.ret (.cst (.bl false))] [], .forr false (.nm 2) .rng1 [.pr false .len [.var 1]] [2] [.iff (.not_ (.call c_same [.pr false .idx [.var 0, .var 2], .pr false .idx [.var 1, .var 2]])) [.ret (.cst (.bl false))] []], .ret (.cst (.bl true))] [], .iff (.pr false .isN [.var 1]) [.ret (.pr false .isN [.var 0])] [], .iff (.pr false (.isi .str) [.var 1]) [.ret (.and_ (.pr false (.isi .str) [.var 0]) (.pr false .eq [.var 0, .var 1]))] [], .iff (.pr false (.isi .bool) [.var 1]) [.ret (.and_ (.pr false (.isi .bool) [.var 0]) (.pr false .eq [.var 0, .var 1]))] [], .ret (.and_ (.pr false (.isi .int) [.var 0]) (.and_ (.not_ (.pr false (.isi .bool) [.var 0])) (.pr false .eq [.var 0, .var 1])))]
/-- _law_shuffled: 2 parameters, names 0 draws_here 1 row 2 found 3 item -/
def L_shuffled (c_take : Nat) : List St := [.asg (.nm 2) (.pr true .lstd []), .forr false (.nm 3) .seq [.var 1] [3] [.exp (.mth .insert (.var 2) [.call c_take [.var 0, .pr false .add [.pr false .len [.var 2], .cst (.int 1)]], .var 3])], .ret (.var 2)]
/-- _law_columns: 2 parameters, names 0 draws_here 1 width 2 share 3 column -/
def L_columns (c_take : Nat) : List St := [.asg (.nm 2) (.pr false .idx [.pr false .lstd [.cst (.int 2), .cst (.int 3), .cst (.int 4)], .call c_take [.var 0, .cst (.int 3)]]), .ret (.pr false .tuple1 [.lc false (.nm 3) .rng1 [.var 1] [.pr false .lt [.call c_take [.var 0, .cst (.int 6)], .var 2]] (.var 3)])]
/-- _law_scheme: 1 parameters, names 0 draws_here 1 many 2 widths 3 table -/
def L_scheme (c_take : Nat) : List St := [.asg (.nm 1) (.pr false .idx [.pr false .lstd [.cst (.int 1), .cst (.int 2), .cst (.int 2), .cst (.int 3)], .call c_take [.var 0, .cst (.int 4)]]), .asg (.nm 2) (.pr false .lstd [.cst (.int 3), .cst (.int 2), .cst (.int 4), .cst (.int 3), .cst (.int 1), .cst (.int 3)]), .iff (.pr false .eq [.call c_take [.var 0, .cst (.int 12)], .cst (.int 0)]) [.asg (.nm 1) (.cst (.int 6)), .asg (.nm 2) (.pr false .lstd [.cst (.int 7), .cst (.int 5), .cst (.int 3), .cst (.int 1), .cst (.int 2), .cst (.int 6)])] [], .ret (.pr false .tuple1 [.lc false (.nm 3) .rng1 [.var 1] [] (.pr false .idx [.var 2, .call c_take [.var 0, .cst (.int 6)]])])]
/-- _law_parts: 3 parameters, names 0 draws_here 1 width 2 most 3 many 4 rows 5 column 6 k 7 row -/
def L_parts (c_take : Nat) : List St := [.asg (.nm 3) (.pr false .add [.cst (.int 1), .call c_take [.var 0, .var 2]]), .asg (.nm 4) (.lc false (.nm 6) .rng1 [.var 3] [] (.lc true (.nm 5) .rng1 [.var 1] [.pr false .lt [.call c_take [.var 0, .cst (.int 5)], .cst (.int 2)]] (.var 5))), .forr false (.nm 5) .rng1 [.var 1] [] [.iff (.pr false .eq [.pr false .len [.lc false (.nm 7) .seq [.var 4] [.pr false .mem [.var 5, .var 7]] (.var 7)], .cst (.int 0)]) [.exp (.mth .append (.pr false .idx [.var 4, .call c_take [.var 0, .var 3]]) [.var 5])] []], .ret (.pr false .tuple1 [.lc false (.nm 7) .seq [.var 4] [.pr false .gt [.pr false .len [.var 7], .cst (.int 0)]] (.pr false .tuple1 [.pr false .sorted1 [.var 7]])])]
/-- _law_inclusion: 3 parameters, names 0 draws_here 1 scheme_here 2 order_here 3 first 4 table 5 other 6 many 7 columns_here 8 others 9 column -/
def L_inclusion (c_take c_shuffled : Nat) : List St := [.asg (.nm 3) (.call c_take [.var 0, .pr false .sub [.pr false .len [.var 2], .cst (.int 1)]]), .asg (.nm 4) (.pr false .idx [.var 2, .var 3]), .asg (.nm 5) (.pr false .idx [.var 2, .pr false .add [.pr false .add [.var 3, .cst (.int 1)], .call c_take [.var 0, .pr false .sub [.pr false .sub [.pr false .len [.var 2], .cst (.int 1)], .var 3]]]]), .asg (.nm 6) (.pr false .add [.cst (.int 1), .call c_take [.var 0, .pr false .min2 [.pr false .idx [.var 1, .var 4], .pr false .idx [.var 1, .var 5]]]]), .asg (.nm 7) (.pr false (.sl false true) [.call c_shuffled [.var 0, .lc false (.nm 9) .rng1 [.pr false .idx [.var 1, .var 4]] [] (.var 9)], .var 6]), .asg (.nm 8) (.pr false (.sl false true) [.call c_shuffled [.var 0, .lc false (.nm 9) .rng1 [.pr false .idx [.var 1, .var 5]] [] (.var 9)], .var 6]), .ret (.pr false .tupd [.cst (.str "within"), .var 4, .pr false .tuple1 [.var 7], .var 5, .pr false .tuple1 [.var 8]])]
/-- _law_dependency: 3 parameters, names 0 draws_here 1 scheme_here 2 order_here 3 kind 4 table -/
def L_dependency (c_take c_columns c_parts c_inclusion : Nat) : List St := [.asg (.nm 3) (.call c_take [.var 0, .cst (.int 9)]), .asg (.nm 4) (.call c_take [.var 0, .pr false .len [.var 1]]), .iff (.and_ (.pr false .lt [.var 3, .cst (.int 3)]) (.pr false .gt [.pr false .len [.var 1], .cst (.int 1)])) [.ret (.call c_inclusion [.var 0, .var 1, .var 2])] [], .iff (.pr false .lt [.var 3, .cst (.int 5)]) [.ret (.pr false .tupd [.cst (.str "joins"), .var 4, .call c_parts [.var 0, .pr false .idx [.var 1, .var 4], .cst (.int 4)]])] [], .iff (.pr false .lt [.var 3, .cst (.int 8)]) [.ret (.pr false .tupd [.cst (.str "deals"), .var 4, .call c_columns [.var 0, .pr false .idx [.var 1, .var 4]], .call c_columns [.var 0, .pr false .idx [.var 1, .var 4]]])] [], .ret (.pr false .tupd [.cst (.str "settles"), .var 4, .call c_columns [.var 0, .pr false .idx [.var 1, .var 4]], .call c_columns [.var 0, .pr false .idx [.var 1, .var 4]]])]
/-- _law_order: 2 parameters, names 0 draws_here 1 scheme_here 2 table -/
def L_order (c_shuffled : Nat) : List St := [.ret (.call c_shuffled [.var 0, .lc false (.nm 2) .rng1 [.pr false .len [.var 1]] [] (.var 2)])]
/-- _law_book: 3 parameters, names 0 draws_here 1 scheme_here 2 most 3 order_here 4 k -/
def L_book (c_take c_dependency c_order : Nat) : List St := [.asg (.nm 3) (.call c_order [.var 0, .var 1]), .ret (.pr false .tuple1 [.lc false (.nm 4) .rng1 [.call c_take [.var 0, .pr false .add [.var 2, .cst (.int 1)]]] [] (.call c_dependency [.var 0, .var 1, .var 3])])]
/-- _law_words: 1 parameters, names 0 dependency_here 1 words_here 2 part 3 column -/
def L_words : List St := [.asg (.nm 1) (.pr false .lstd [.pr false .idx [.var 0, .cst (.int 0)], .pr false .str1 [.pr false .idx [.var 0, .cst (.int 1)]]]), .iff (.pr false .eq [.pr false .idx [.var 0, .cst (.int 0)], .cst (.str "joins")]) [.forr false (.nm 2) .seq [.pr false .idx [.var 0, .cst (.int 2)]] [2] [.asg (.nm 1) (.pr false .add [.pr false .add [.var 1, .pr false .lstd [.cst (.str "part")]], .lc false (.nm 3) .seq [.var 2] [] (.pr false .str1 [.var 3])])], .ret (.var 1)] [], .asg (.nm 1) (.pr false .add [.var 1, .lc false (.nm 3) .seq [.pr false .idx [.var 0, .cst (.int 2)]] [] (.pr false .str1 [.var 3])]), .iff (.pr false .eq [.pr false .idx [.var 0, .cst (.int 0)], .cst (.str "within")]) [.ret (.pr false .add [.pr false .add [.var 1, .pr false .lstd [.cst (.str "of"), .pr false .str1 [.pr false .idx [.var 0, .cst (.int 3)]]]], .lc false (.nm 3) .seq [.pr false .idx [.var 0, .cst (.int 4)]] [] (.pr false .str1 [.var 3])])] [], .ret (.pr false .add [.pr false .add [.var 1, .pr false .lstd [.cst (.str "to")]], .lc false (.nm 3) .seq [.pr false .idx [.var 0, .cst (.int 3)]] [] (.pr false .str1 [.var 3])])]
/-- _law_lines: 1 parameters, names 0 book_here 1 dependency_here -/
def L_lines (c_words : Nat) : List St := [.ret (.lc false (.nm 1) .seq [.var 0] [] (.mth .join (.cst (.str " ")) [.call c_words [.var 1]]))]
/-- _law_large: 1 parameters, names 0 draws_here 1 scheme_here -/
def L_large (c_book : Nat) : List St := [.asg (.nm 1) (.pr false .mul [.pr false .tupd [.cst (.int 13)], .cst (.int 12)]), .ret (.pr false .lstd [.var 1, .call c_book [.var 0, .var 1, .cst (.int 30)]])]
/-- law: 1 parameters, names 0 script 1 draws_here 2 far 3 scheme_here 4 book_here 5 actual 6 line_of -/
def law_k05 (c_write_book c_draws c_take c_cell c_scheme c_book c_lines c_large : Nat) : List St := [.asg (.nm 1) (.call c_draws [.var 0, .cst (.int 1200)]), .asg (.nm 2) (.pr false .idx [.pr false .lstd [.pr false .add [.cst (.int 12), .pr false .mod [.pr false .int1 [.pr false .abs [.call c_cell [.var 0, .var 1]]], .pr false .pow [.cst (.int 10), .cst (.int 59)]]], .pr false .sub [.pr false .pow [.cst (.int 10), .cst (.int 60)], .cst (.int 2)]], .call c_take [.var 1, .cst (.int 2)]]), .asg (.nm 3) (.call c_scheme [.var 1]), .asg (.nm 4) (.call c_book [.var 1, .var 3, .cst (.int 6)]), .iff (.pr false .eq [.call c_take [.var 1, .cst (.int 6)], .cst (.int 0)]) [.asg (.nm 4) (.pr false .idx [.call c_large [.var 1], .cst (.int 1)])] [], .asg (.nm 4) (.pr false .add [.var 4, .pr false .tupd [.pr false .tupd [.cst (.str "deals"), .var 2, .pr false .tupd [.var 2], .pr false .tupd [.var 2, .pr false .add [.var 2, .cst (.int 1)]]], .pr false .tupd [.cst (.str "within"), .pr false .add [.var 2, .cst (.int 1)], .pr false .tupd [.var 2, .cst (.int 0)], .var 2, .pr false .tupd [.cst (.int 1), .var 2]]]]), .asg (.nm 5) (.call c_write_book [.var 4]), .iff (.or_ (.not_ (.pr false (.isi .str) [.var 5])) (.pr false .ne [.var 5, .mth .join (.cst (.str "")) [.lc false (.nm 6) .seq [.call c_lines [.var 4]] [] (.pr false .add [.var 6, .cst (.str "\n")])]])) [.ret (.cst (.bl false))] [], .ret (.and_ (.pr false .eq [.call c_write_book [.pr false .tupd []], .cst (.str "")]) (.pr false .eq [.call c_write_book [.pr false .tupd [.pr false .tupd [.cst (.str "deals"), .cst (.int 0), .pr false .tupd [], .pr false .tupd []]]], .cst (.str "deals 0 to\n")]))]

end Ow

/-! N4: the laws' helpers that draw. -/
namespace Ow
open PySem

abbrev nv (cs : List Nat) : List W := cs.map fun i => W.int (i : Nat)
@[simp] theorem belowL_nv {n : Nat} {cs : List Nat} : belowL n (cs.map fun i => W.int (i : Nat)) = true := belowL_map _ fun _ _ => (rfl)
@[simp] theorem belowL_nvs {n : Nat} {ps : List (List Nat)} : belowL n (ps.map fun p => W.tup (p.map fun i => W.int (i : Nat))) = true := belowL_map _ fun _ _ => belowL_nv
theorem nodup_len : ∀ (l D : List Nat), l.Nodup → (∀ x ∈ l, x ∈ D) → l.length ≤ D.length
  | [], _, _, _ => Nat.zero_le _
  | x :: l, D, hn, hs => by
    obtain ⟨h1, h2⟩ := List.nodup_cons.mp hn
    have hx : x ∈ D := hs x (List.mem_cons_self ..)
    have ih := nodup_len l (D.erase x) h2 fun y hy => by
      have hne : y ≠ x := fun e => h1 (e ▸ hy)
      exact (List.mem_erase_of_ne hne).2 (hs y (List.mem_cons_of_mem _ hy))
    have e := List.length_erase_of_mem hx
    have hp : 0 < D.length := List.length_pos_of_mem hx
    rw [List.length_cons]
    omega
theorem getI (l : List Int) (v : Nat) (h : (v : Int) < l.length) : ∃ s ∈ l, (l.map W.int)[v]? = some (.int s) :=
  ⟨l[v]'(by omega), List.getElem_mem _, by rw [List.getElem?_map, List.getElem?_eq_getElem (by omega)]; rfl⟩
theorem getN (l : List Nat) (v : Nat) (h : v < l.length) : ∃ s ∈ l, (nv l)[v]? = some (.int s) :=
  ⟨l[v], List.getElem_mem _, by rw [List.getElem?_map, List.getElem?_eq_getElem (by omega)]; rfl⟩
theorem getN2 (l : List Nat) (v : Nat) (h : v < l.length) : ∃ s ∈ l, (nv l)[v]? = some (.int s) ∧ l[v]? = some s :=
  ⟨l[v], List.getElem_mem _, by rw [List.getElem?_map, List.getElem?_eq_getElem (by omega)]; rfl, List.getElem?_eq_getElem h⟩
/-! ### data of whole numbers -/
theorem allInt_iv : ∀ ns : List Int, allInt (iv ns) = some ns
  | [] => rfl
  | n :: ns => by
    show (allInt (iv ns)).map (n :: ·) = _
    rw [allInt_iv ns]; rfl
theorem nv_iv (cs : List Nat) : nv cs = iv (cs.map fun c : Nat => (c : Int)) := by
  show _ = (cs.map fun c : Nat => (c : Int)).map W.int
  rw [List.map_map]; rfl
theorem p_sortI (ns : List Int) : primF .sorted1 [.lst (iv ns)] = some (.lst (iv (ns.mergeSort fun a b => decide (a ≤ b)))) := by
  show (pSort (iv ns)).map W.lst = _
  unfold pSort
  rw [allInt_iv]; rfl
theorem p_sortN (cs : List Nat) : primF .sorted1 [.lst (nv cs)] = some (.lst (nv (cs.mergeSort fun a b => decide (a ≤ b)))) := by
  rw [nv_iv, p_sortI, nv_iv]
  congr 3
  refine (List.map_mergeSort fun a _ b _ => ?_).symm
  simp
theorem all_flat : ∀ ns : List Int, (iv ns).all flatW = true
  | [] => rfl
  | n :: ns => by
    show (W.int n :: iv ns).all flatW = true
    rw [List.all_cons, all_flat ns]; rfl
theorem any_eqF (x : Int) : ∀ ns : List Int, (iv ns).any (fun y => eqF y (.int x)) = decide (x ∈ ns)
  | [] => by simp
  | n :: ns => by
    show (W.int n :: iv ns).any (fun y => eqF y (.int x)) = _
    rw [List.any_cons, any_eqF x ns]
    have : eqF (.int n) (.int x) = decide (x = n) := by
      show (n == x) = _
      by_cases h : x = n
      · subst h; simp
      · simp [h, Ne.symm h]
    rw [this]
    by_cases h : x = n <;> simp [h]
theorem memF (x : Int) (ns : List Int) : pMemF (.int x) (iv ns) = some (decide (x ∈ ns)) := by
  unfold pMemF
  rw [all_flat, any_eqF]; rfl
theorem p_memL (x : Int) (ns : List Int) : primF .mem [.int x, .lst (iv ns)] = some (.bl (decide (x ∈ ns))) := by
  have : pMem (.int x) (.lst (iv ns)) = some (decide (x ∈ ns)) := by
    simp only [pMem, memF]
  show (pMem (.int x) (.lst (iv ns))).map W.bl = _
  rw [this]; rfl
theorem p_memT (x : Int) (ns : List Int) : primF .mem [.int x, .tup (iv ns)] = some (.bl (decide (x ∈ ns))) := by
  have : pMem (.int x) (.tup (iv ns)) = some (decide (x ∈ ns)) := by
    simp only [pMem, memF]
  show (pMem (.int x) (.tup (iv ns))).map W.bl = _
  rw [this]; rfl
theorem mem_cast (x : Nat) (cs : List Nat) : ((x : Int) ∈ cs.map fun c : Nat => (c : Int)) ↔ x ∈ cs := by
  constructor
  · intro h
    obtain ⟨c, hc, e⟩ := List.mem_map.mp h
    have : c = x := by omega
    exact this ▸ hc
  · intro h
    exact List.mem_map.mpr ⟨x, h, rfl⟩
theorem p_memNL (x : Nat) (cs : List Nat) : primF .mem [.int x, .lst (nv cs)] = some (.bl (decide (x ∈ cs))) := by
  rw [nv_iv, p_memL]
  simp only [mem_cast]
theorem p_memNT (x : Nat) (cs : List Nat) : primF .mem [.int x, .tup (nv cs)] = some (.bl (decide (x ∈ cs))) := by
  rw [nv_iv, p_memT]
  simp only [mem_cast]

section
variable {T : List Def} {N d b k kt ks a n : Nat} {H : List Int → Hp}
theorem cell_run (it : Is T kt 2 2 L_take) (i : Is T k 2 2 (L_cell kt)) (hd : 2 ≤ d) (hH : Hd H a n) (ds : List Int) (ns : List Int) :
    ∃ (v : Int) (ds' : List Int), evC T N d b k [.slst (iv ns), .ref a] (H ds) = .ok (.int v) (H ds') := by
  obtain ⟨d, rfl⟩ : ∃ d', d = d' + 1 := ⟨d - 1, by omega⟩
  rw [i.run rfl]
  by_cases h0 : ns = []
  · subst h0
    exact ⟨0, ds, by simp [L_cell, hH.len, end_val, hH.take1]⟩
  · have hl : 0 < ns.length := List.length_pos_iff.mpr h0
    obtain ⟨v, d1, e1, h1⟩ := take_run (N := N) (b := n) it (by omega : 1 ≤ d) hH ds (m := ns.length) (by omega)
    obtain ⟨s, hs, es⟩ := getI ns v h1
    exact ⟨s, d1, by simp [L_cell, hH.len, e1, h0, es, end_val, hH.take1]⟩
theorem columns_run (it : Is T kt 2 2 L_take) (i : Is T k 2 4 (L_columns kt)) (hd : 2 ≤ d) (hH : Hd H a n) (ds : List Int) (w : Nat) (hw : w ≤ 1000) :
    ∃ (cs : List Nat) (ds' : List Int), evC T N d b k [.ref a, .int w] (H ds) = .ok (.tup (nv cs)) (H ds') ∧ cs.Sublist (List.range w) := by
  obtain ⟨d, rfl⟩ : ∃ d', d = d' + 1 := ⟨d - 1, by omega⟩
  rw [i.run rfl]
  obtain ⟨v, d1, e1, h1⟩ := take_run (N := N) (b := n) it (by omega : 1 ≤ d) hH ds (m := 3) (by omega)
  obtain ⟨s, hs, es⟩ := getI [2, 3, 4] v (by simpa using h1)
  simp only [List.map] at es
  simp [L_columns, hH.len, e1, es, it_rng1 (show w ≤ 100000000 by omega)]
  generalize hq : lcGo _ _ _ _ _ _ _ _ _ = q
  obtain ⟨cs, d2, rfl, h2⟩ := lc_drawF hq H d1 rfl (fun _ => by simp) (fun i : Nat => W.int i) (fun i : Nat => W.int i) (List.range w) rfl (fun x hx ds => by
    obtain ⟨v, d1, e1, h1⟩ := take_run (N := N) (b := n) it (by omega : 1 ≤ d) hH ds (m := 6) (by omega)
    refine ⟨d1, ?_⟩
    simp [lcB_m, e1]
    by_cases hv : (v : Int) < s <;> simp [hv]) (by simp; omega)
  refine ⟨cs, ⟨d2, ?_⟩, h2⟩
  simp [end_val, belowL_map, hH.take1]
theorem shuffled_run (it : Is T kt 2 2 L_take) (i : Is T k 2 4 (L_shuffled kt)) (hd : 2 ≤ d) (hH : Hd H a n) (ds : List Int) {row : W} {ws : List W} (hr : row = .lst ws ∨ row = .tup ws) (hw : belowL n ws = true) (hl : ws.length ≤ 1000) :
    ∃ (zs : List W) (ds' : List Int), evC T N d b k [.ref a, row] (H ds) = .ok (.ref n) (H ds' ++ [.lst zs]) ∧ zs.Perm ws := by
  obtain ⟨d, rfl⟩ : ∃ d', d = d' + 1 := ⟨d - 1, by omega⟩
  rw [i.run rfl]
  have e1 : itemsOf .seq [deref (H ds ++ [.lst []]) row] = some ws := by rcases hr with rfl | rfl <;> rfl
  have e2 : ∀ h h', sameAt h h' [row] := fun h h' => by rcases hr with rfl | rfl <;> trivial
  simp [L_shuffled, hH.len, -it_seq1, e1]
  generalize hq : forGo _ _ _ _ _ _ _ _ _ _ _ = q
  obtain ⟨⟨d1, zs⟩, rfl, h1⟩ := for_st hq id (fun _ : List Int × List W => [some (.ref a), some row, some (.ref n), none]) (fun s => H s.1 ++ [.lst s.2]) (fun i s => s.2.Perm (ws.take i)) ws (by simp) (ds, []) rfl (by simp) (by simp) (fun s i _ => e2 _ _) (fun i x s hx hI => by
    obtain ⟨ds, zs⟩ := s
    have hzl : zs.length ≤ ws.length := by
      have := hI.length_eq
      simp only [List.length_take] at this
      omega
    have hH1 := hH.app [.lst zs]
    obtain ⟨v, d1, e1, h1⟩ := take_run (N := N) (b := n) it (by omega : 1 ≤ d) hH1 ds (m := zs.length + 1) (by omega)
    have hz := size_big
    have hm : mayPut n n x = true := by simp [mayPut]
    refine ⟨(d1, zs.take v ++ x :: zs.drop v), ?_, ?_⟩
    · simp [forB_m, hH.at0, e1, hm]
      have c1 : zs.length < sizeLine := by omega
      have c2 : v ≤ zs.length := by omega
      simp [c1, c2, hH.st0]
    · refine (List.perm_middle).trans ?_
      rw [List.take_append_drop]
      have hx' : ws[i]? = some x := hx
      rw [List.take_succ, hx']
      exact (List.Perm.cons x hI).trans (List.perm_append_comm (l₁ := [x]))) 
  simp only [List.take_length] at h1
  refine ⟨zs, ⟨d1, ?_⟩, h1⟩
  have hb : belowL n zs = true := by
    have : ∀ ws : List W, belowL n ws = ws.all (below n) := fun ws => by
      induction ws with
      | nil => rfl
      | cons w ws ih => rw [belowL_cons, List.all_cons, ih]
    rw [this] at hw ⊢
    rw [List.all_eq_true] at hw ⊢
    exact fun x hx => hw x (h1.subset hx)
  simp [end_ref (Nat.le_refl n) (hH.at0 d1 [.lst zs]) hb, hH.take0]
end
end Ow

/-! N5: drawn schemes, parts, dependencies, books. -/
namespace Ow
open PySem

inductive Dep where
  | settles (t : Nat) (l r : List Nat)
  | deals (t : Nat) (l r : List Nat)
  | joins (t : Nat) (ps : List (List Nat))
  | within (t : Nat) (cs : List Nat) (o : Nat) (os : List Nat)
def Dep.w : Dep → W
  | .settles t l r => .tup [.str "settles", .int t, .tup (nv l), .tup (nv r)]
  | .deals t l r => .tup [.str "deals", .int t, .tup (nv l), .tup (nv r)]
  | .joins t ps => .tup [.str "joins", .int t, .tup (ps.map fun p => .tup (nv p))]
  | .within t cs o os => .tup [.str "within", .int t, .tup (nv cs), .int o, .tup (nv os)]
/-- parts that have every column together -/
structure PartsOk (w m : Nat) (ps : List (List Nat)) : Prop where
  len : ps.length ≤ m
  each : ∀ p ∈ ps, p ≠ [] ∧ p.Pairwise (· < ·) ∧ ∀ c ∈ p, c < w
  all : ∀ c, c < w → ∃ p ∈ ps, c ∈ p
structure SchemeOk (ws : List Nat) (many most : Nat) : Prop where
  ne : ws ≠ []
  len : ws.length ≤ many
  each : ∀ w ∈ ws, 1 ≤ w ∧ w ≤ most
def DepOk (ws : List Nat) (m : Nat) (order : List Nat) : Dep → Prop
  | .settles t l r => ∃ w, ws[t]? = some w ∧ l.Sublist (List.range w) ∧ r.Sublist (List.range w)
  | .deals t l r => ∃ w, ws[t]? = some w ∧ l.Sublist (List.range w) ∧ r.Sublist (List.range w)
  | .joins t ps => ∃ w, ws[t]? = some w ∧ PartsOk w m ps
  | .within t cs o os => ∃ w u, ws[t]? = some w ∧ ws[o]? = some u ∧ cs.Nodup ∧ (∀ c ∈ cs, c < w) ∧ os.Nodup ∧ (∀ c ∈ os, c < u) ∧ cs.length = os.length ∧ cs ≠ [] ∧ ∃ i j : Nat, i < j ∧ order[i]? = some t ∧ order[j]? = some o
@[simp] theorem Dep.below (n : Nat) : ∀ d : Dep, Ow.below n d.w = true
  | .settles _ _ _ => by simp [Dep.w, belowL_map]
  | .deals _ _ _ => by simp [Dep.w, belowL_map]
  | .joins _ _ => by simp [Dep.w, belowL_map]
  | .within _ _ _ _ => by simp [Dep.w, belowL_map]
section
variable {T : List Def} {N d b k kt ks a n : Nat} {H : List Int → Hp}
theorem scheme_run (it : Is T kt 2 2 L_take) (i : Is T k 1 4 (L_scheme kt)) (hd : 2 ≤ d) (hH : Hd H a n) (ds : List Int) :
    ∃ (ws : List Nat) (ds' : List Int), evC T N d b k [.ref a] (H ds) = .ok (.tup (nv ws)) (H ds') ∧ SchemeOk ws 6 7 := by
  obtain ⟨d, rfl⟩ : ∃ d', d = d' + 1 := ⟨d - 1, by omega⟩
  rw [i.run rfl]
  obtain ⟨v, d1, e1, h1⟩ := take_run (N := N) (b := n) it (by omega : 1 ≤ d) hH ds (m := 4) (by omega)
  obtain ⟨s, hs, es⟩ := getN [1, 2, 2, 3] v (by simp; omega)
  obtain ⟨u, d2, e2, h2⟩ := take_run (N := N) (b := n) it (by omega : 1 ≤ d) hH d1 (m := 12) (by omega)
  simp only [List.map, Int.cast_ofNat_Int] at es
  have key : ∀ (m : Nat) (l : List Nat) (lw : List W) (x y z : Option W) (us its : List W) (q : R (List W)), lcGo (evC T N d) n [some (.ref a), x, some (.lst lw), z] (.nm 3) [] (.pr false .idx [.var 2, .call kt [.var 0, .cst (.int 6)]]) us (H d2) its = q → us = [.int m] → lw = nv l → its = (List.range m).map (fun i => .int (i : Nat)) → 1 ≤ m → m ≤ 6 → l.length = 6 → (∀ w ∈ l, 1 ≤ w ∧ w ≤ 7) →
      ∃ (ws : List Nat) (ds' : List Int), q = .ok (nv ws) (H ds') ∧ SchemeOk ws 6 7 := by
    intro m l lw x y z us its q hq hus hlw hits hm hm2 hl hw
    subst hus hlw
    obtain ⟨ws, d2, rfl, h2, h3⟩ := lc_draw hq H d2 rfl (fun _ => by simp) (fun i : Nat => W.int i) (fun i : Nat => W.int i) (fun _ w => 1 ≤ w ∧ w ≤ 7) (List.range m) hits (fun x hx ds => by
      obtain ⟨v, d1, e1, h1⟩ := take_run (N := N) (b := n) it (by omega : 1 ≤ d) hH ds (m := 6) (by omega)
      obtain ⟨s, hs, es⟩ := getN l v (by omega)
      refine ⟨s, d1, ?_, hw s hs⟩
      simp only [lcB_m]
      simp [e1, es]) (by simp; omega)
    refine ⟨ws, d2, rfl, ?_, ?_, fun w hw => ?_⟩
    · rw [List.length_range] at h2
      intro e
      have h4 : ws.length = 0 := by rw [e]; rfl
      omega
    · rw [List.length_range] at h2
      omega
    · obtain ⟨x, _, hx⟩ := h3 w hw
      exact hx
  have hs2 : 1 ≤ s ∧ s ≤ 3 := by
    simp only [List.mem_cons, List.not_mem_nil, or_false] at hs
    omega
  by_cases h0 : u = 0
  · simp [L_scheme, hH.len, e1, es, e2, h0]
    generalize hq : lcGo _ _ _ _ _ _ _ _ _ = q
    obtain ⟨ws, d3, rfl, ok⟩ := key 6 [7, 5, 3, 1, 2, 6] _ _ none _ _ _ _ hq rfl rfl rfl (by omega) (by omega) rfl (by decide)
    exact ⟨ws, ⟨d3, by simp [end_val, belowL_map, hH.take1]⟩, ok⟩
  · simp [L_scheme, hH.len, e1, es, e2, h0, it_rng1 (show s ≤ 100000000 by omega)]
    generalize hq : lcGo _ _ _ _ _ _ _ _ _ = q
    obtain ⟨ws, d3, rfl, ok⟩ := key s [3, 2, 4, 3, 1, 3] _ _ none _ _ _ _ hq rfl rfl rfl (by omega) (by omega) rfl (by decide)
    exact ⟨ws, ⟨d3, by simp [end_val, belowL_map, hH.take1]⟩, ok⟩
theorem rows_at (hH : Hd H a n) (ds : List Int) (rows : List (List Nat)) (j : Nat) (hj : j < rows.length) : (H ds ++ rows.map fun r => Obj.lst (nv r))[n + j]? = some (.lst (nv (rows[j]?.getD []))) := by
  rw [hH.at, List.getElem?_map, List.getElem?_eq_getElem hj]
  rfl
theorem rows_set (hH : Hd H a n) (ds : List Int) (rows : List (List Nat)) (j : Nat) (r : List Nat) : (H ds ++ rows.map fun r => Obj.lst (nv r)).set (n + j) (.lst (nv r)) = H ds ++ (rows.set j r).map fun r => Obj.lst (nv r) := by
  rw [hH.st, List.map_set]
theorem getD_mem {rows : List (List Nat)} {j : Nat} (hj : j < rows.length) : rows[j]?.getD [] ∈ rows := by
  rw [List.getElem?_eq_getElem hj]
  exact List.getElem_mem hj
theorem mem_getD {rows : List (List Nat)} {r : List Nat} (hr : r ∈ rows) : ∃ j, j < rows.length ∧ rows[j]?.getD [] = r := by
  obtain ⟨j, hj, e⟩ := List.mem_iff_getElem.mp hr
  exact ⟨j, hj, by rw [List.getElem?_eq_getElem hj]; exact e⟩
theorem sort_lt {r : List Nat} (h : r.Nodup) : (r.mergeSort fun a b => decide (a ≤ b)).Pairwise (· < ·) := by
  have h1 := List.pairwise_mergeSort (le := fun a b : Nat => decide (a ≤ b)) (fun a b c => by simp; omega) (fun a b => by simp; omega) r
  have h2 : (r.mergeSort fun a b => decide (a ≤ b)).Nodup := (List.mergeSort_perm r _).nodup_iff.mpr h
  refine List.Pairwise.imp₂ (R := fun a b => decide (a ≤ b) = true) (S := fun a b => a ≠ b) (fun a b h1 h2 => ?_) h1 h2
  have := of_decide_eq_true h1
  omega
theorem parts_run (it : Is T kt 2 2 L_take) (i : Is T k 3 8 (L_parts kt)) (hd : 2 ≤ d) (hH : Hd H a n) (ds : List Int) (w m : Nat) (hw : 1 ≤ w ∧ w ≤ 1000) (hm : 1 ≤ m ∧ m ≤ 1000) :
    ∃ (ps : List (List Nat)) (ds' : List Int), evC T N d b k [.ref a, .int w, .int m] (H ds) = .ok (.tup (ps.map fun p => .tup (nv p))) (H ds') ∧ PartsOk w m ps := by
  obtain ⟨d, rfl⟩ : ∃ d', d = d' + 1 := ⟨d - 1, by omega⟩
  rw [i.run rfl]
  obtain ⟨v, d1, e1, h1⟩ := take_run (N := N) (b := n) it (by omega : 1 ≤ d) hH ds (m := m) (by omega)
  have e1v : (1 : Int) + (v : Int) = ((1 + v : Nat) : Int) := by omega
  have hv : 1 + v ≤ m := by omega
  generalize hmv : 1 + v = mv at e1v hv
  have hz := size_big
  simp [L_parts, hH.len, e1, e1v, it_rng1 (show mv ≤ 100000000 by omega)]
  generalize hq : lcGo _ _ _ _ _ _ _ _ _ = q
  obtain ⟨⟨d2, rows⟩, ys, rfl, ⟨hI1, hI2, hI3⟩, _⟩ := lc_st hq (fun i : Nat => W.int i) (fun s : List Int × List (List Nat) => H s.1 ++ s.2.map fun r => Obj.lst (nv r)) (fun i s acc => s.2.length = i ∧ acc = (List.range i).map (fun j => W.ref (n + j)) ∧ ∀ r ∈ s.2, r.Sublist (List.range w)) (List.range mv) rfl (d1, []) (by simp) ⟨rfl, rfl, fun r hr => by cases hr⟩ (fun s i acc _ => by simp) (fun i x s acc hx hI => by
    obtain ⟨ds, rows⟩ := s
    obtain ⟨hI1, hI2, hI3⟩ := hI
    simp only at hI1 hI2 hI3
    have hHr := hH.app (rows.map fun r => Obj.lst (nv r))
    simp [lcB_m, it_rng1 (show w ≤ 100000000 by omega)]
    generalize hq : lcGoM _ _ _ _ _ _ _ _ _ = q
    obtain ⟨r, d3, rfl, hs⟩ := lcM_drawF hq (fun ds => H ds ++ rows.map fun r => Obj.lst (nv r)) ds rfl (n := n + rows.length) (fun ds => by simp [hH.len]) (fun _ _ => by simp) (fun i : Nat => W.int i) (fun i : Nat => W.int i) (List.range w) rfl (fun x hx ds acc => by
      have hHa := hHr.app [.lst acc]
      obtain ⟨v, d1, e1, h1⟩ := take_run (N := N) (b := n) it (by omega : 1 ≤ d) hHa ds (m := 5) (by omega)
      refine ⟨d1, ?_⟩
      simp at e1
      simp [lcB_m, e1]
      by_cases hv : (v : Int) < 2 <;> simp [hv]) (by simp; omega)
    refine ⟨d3, rows ++ [r], ⟨some (.ref (n + rows.length)), ?_, ?_⟩⟩
    · simp
    · refine ⟨by simp [hI1], ?_, fun r' hr => ?_⟩
      · rw [hI2, List.range_succ]
        simp [hI1]
      · rcases List.mem_append.mp hr with hr | hr
        · exact hI3 r' hr
        · rw [List.mem_singleton.mp hr]
          exact hs) (by simp; omega)
  rw [List.length_range] at hI1 hI2
  simp only at hI1 hI2 hI3
  subst hI2
  have hItem : ∀ (ds : List Int) (rows : List (List Nat)), rows.length = mv → ∀ j, j < mv → (H ds ++ rows.map fun r => Obj.lst (nv r))[n + j]? = some (.lst (nv (rows[j]?.getD []))) := fun ds rows hl j hj => rows_at hH ds rows j (by omega)
  simp [it_rng1 (show w ≤ 100000000 by omega)]
  generalize hq : forGo _ _ _ _ _ _ _ _ _ _ _ = q
  obtain ⟨⟨d3, rows3, o3⟩, rfl, hJ1, hJ2, hJ3⟩ := for_st hq (fun i : Nat => W.int i) (fun s : List Int × List (List Nat) × Option W => [some (.ref a), some (.int w), some (.int m), some (.int mv), some (.lst ((List.range mv).map fun j => .ref (n + j))), s.2.2, none, none]) (fun s => H s.1 ++ s.2.1.map fun r => Obj.lst (nv r))
    (fun i s => s.2.1.length = mv ∧ (∀ r ∈ s.2.1, r.Nodup ∧ ∀ c ∈ r, c < w) ∧ ∀ c, c < i → ∃ r ∈ s.2.1, c ∈ r) (List.range w) rfl (d2, rows, none) rfl rfl
    ⟨hI1, fun r hr => ⟨(hI3 r hr).nodup List.nodup_range, fun c hc => List.mem_range.mp ((hI3 r hr).subset hc)⟩, fun c hc => by omega⟩ (fun s i _ => by simp) (fun i x s hx hI => by
    obtain ⟨ds, rows, o⟩ := s
    obtain ⟨hJ1, hJ2, hJ3⟩ := hI
    simp only at hJ1 hJ2 hJ3
    obtain ⟨hi, rfl⟩ : i < w ∧ i = x := by
      have := List.getElem?_eq_some_iff.mp hx
      obtain ⟨h1, h2⟩ := this
      rw [List.getElem_range] at h2
      rw [List.length_range] at h1
      exact ⟨h1, h2⟩
    have hat := hItem ds rows hJ1
    simp [forB_m, -Prod.exists]
    generalize hq : lcGo _ _ _ _ _ _ _ _ _ = q
    have e2 := lc_pureF hq (fun j : Nat => W.ref (n + j)) (fun j => decide (i ∈ rows[j]?.getD [])) (fun j : Nat => W.ref (n + j)) (List.range mv) rfl (fun j hj hp => by
      have hat' := hat j (List.mem_range.mp hj)
      simp only [decide_eq_true_eq] at hp
      simp only [lcB_m]
      simp [hat', p_memNL, hp]) (fun j hj hp => by
      have hat' := hat j (List.mem_range.mp hj)
      simp only [decide_eq_false_iff_not] at hp
      simp only [lcB_m]
      simp [hat', p_memNL, hp]) (by simp; omega)
    subst e2
    by_cases hc : ∃ r ∈ rows, i ∈ r
    · have hne : (List.range mv).filter (fun j => decide (i ∈ rows[j]?.getD [])) ≠ [] := by
        obtain ⟨r, hr, hir⟩ := hc
        obtain ⟨j, hj, e⟩ := mem_getD hr
        intro z
        have : j ∈ (List.range mv).filter (fun j => decide (i ∈ rows[j]?.getD [])) := List.mem_filter.mpr ⟨List.mem_range.mpr (by omega), by rw [e]; exact decide_eq_true hir⟩
        rw [z] at this
        cases this
      refine ⟨(ds, rows, some (.int i)), ?_, hJ1, hJ2, fun c hc' => ?_⟩
      · simp [hne]
      · by_cases e : c = i
        · rw [e]; exact hc
        · exact hJ3 c (by omega)
    · have he : (List.range mv).filter (fun j => decide (i ∈ rows[j]?.getD [])) = [] := by
        rw [List.filter_eq_nil_iff]
        intro j hj hp
        have hj' := List.mem_range.mp hj
        exact hc ⟨rows[j]?.getD [], getD_mem (by omega), of_decide_eq_true hp⟩
      have hHr := hH.app (rows.map fun r => Obj.lst (nv r))
      obtain ⟨u, d3, e3, h3⟩ := take_run (N := N) (b := n) it (by omega : 1 ≤ d) hHr ds (m := mv) (by omega)
      have hu : u < mv := by omega
      have hat2 := hItem d3 rows hJ1 u hu
      have hr3 := getD_mem (rows := rows) (j := u) (by omega)
      have hlen : (rows[u]?.getD []).length ≤ w := by
        have := (hJ2 _ hr3)
        have h4 := nodup_len _ (List.range w) this.1 fun c hc => List.mem_range.mpr (this.2 c hc)
        simpa using h4
      have hlt : (rows[u]?.getD []).length < sizeLine := by omega
      refine ⟨(d3, rows.set u (rows.getD u [] ++ [i]), some (.int i)), ?_, by simpa using hJ1, fun r hr => ?_, fun c hc' => ?_⟩
      · have hu2 : (List.range mv)[u]? = some u := by rw [List.getElem?_range hu]
        simp [he, e3, hu2, hat2, mayPut, hlt]
        rw [hH.st]
      · rcases List.mem_or_eq_of_mem_set hr with hr | hr
        · exact hJ2 r hr
        · obtain ⟨g1, g2⟩ := hJ2 _ hr3
          rw [hr]
          refine ⟨List.nodup_append.mpr ⟨g1, by simp, fun x hx y hy => ?_⟩, fun c hc' => ?_⟩
          · rw [List.mem_singleton.mp hy]
            intro e
            exact hc ⟨_, hr3, by rw [← e]; exact hx⟩
          · rcases List.mem_append.mp hc' with h | h
            · exact g2 c h
            · rw [List.mem_singleton.mp h]; exact hi
      · by_cases e : c = i
        · exact ⟨rows[u]?.getD [] ++ [i], List.mem_set (by omega) _, by rw [e]; simp⟩
        · obtain ⟨r, hr, hcr⟩ := hJ3 c (by omega)
          obtain ⟨j, hj, ej⟩ := mem_getD hr
          by_cases hju : j = u
          · exact ⟨rows[u]?.getD [] ++ [i], List.mem_set (by omega) _, by rw [← hju, ej]; exact List.mem_append_left _ hcr⟩
          · refine ⟨r, ?_, hcr⟩
            rw [List.mem_iff_getElem?]
            refine ⟨j, ?_⟩
            rw [List.getElem?_set_ne (Ne.symm hju), ← ej, List.getElem?_eq_getElem hj]
            rfl)
  rw [List.length_range] at hJ3
  simp only at hJ1 hJ2 hJ3
  have hat := hItem d3 rows3 hJ1
  simp
  generalize hq : lcGo _ _ _ _ _ _ _ _ _ = q
  have e2 := lc_pureF hq (fun j : Nat => W.ref (n + j)) (fun j => decide (0 < (rows3[j]?.getD []).length)) (fun j : Nat => W.tup (nv ((rows3[j]?.getD []).mergeSort fun a b => decide (a ≤ b)))) (List.range mv) rfl (fun j hj hp => by
      have hat' := hat j (List.mem_range.mp hj)
      simp only [decide_eq_true_eq] at hp
      simp only [lcB_m]
      simp [hat', hp, p_sortN]) (fun j hj hp => by
      have hat' := hat j (List.mem_range.mp hj)
      simp only [decide_eq_false_iff_not] at hp
      simp only [lcB_m]
      simp [hat', hp]) (by simp; omega)
  subst e2
  refine ⟨((List.range mv).filter fun j => decide (0 < (rows3[j]?.getD []).length)).map fun j => (rows3[j]?.getD []).mergeSort fun a b => decide (a ≤ b), ⟨d3, ?_⟩, ?_, fun p hp => ?_, fun c hc => ?_⟩
  · rw [List.map_map]
    simp [end_val, belowL_map, hH.take0]
  · rw [List.length_map]
    have := List.length_filter_le (fun j => decide (0 < (rows3[j]?.getD []).length)) (List.range mv)
    rw [List.length_range] at this
    omega
  · obtain ⟨j, hj, rfl⟩ := List.mem_map.mp hp
    obtain ⟨h3, h4⟩ := List.mem_filter.mp hj
    have h5 := of_decide_eq_true h4
    obtain ⟨g1, g2⟩ := hJ2 _ (getD_mem (rows := rows3) (j := j) (by have := List.mem_range.mp h3; omega))
    refine ⟨fun z => ?_, sort_lt g1, fun c hc => g2 c ((List.mergeSort_perm _ _).subset hc)⟩
    have := congrArg List.length z
    rw [List.length_mergeSort] at this
    simp at this
    rw [this] at h5
    simp at h5
  · obtain ⟨r, hr, hcr⟩ := hJ3 c hc
    obtain ⟨j, hj, e⟩ := mem_getD hr
    refine ⟨_, List.mem_map.mpr ⟨j, List.mem_filter.mpr ⟨List.mem_range.mpr (by omega), decide_eq_true ?_⟩, rfl⟩, ?_⟩
    · rw [e]
      exact List.length_pos_of_mem hcr
    · rw [e]
      exact (List.mergeSort_perm _ _).symm.subset hcr
end
end Ow

/-! N6: drawn dependencies, books. -/
namespace Ow
open PySem
section
variable {T : List Def} {N d b k kt ks kc kp ki a n m : Nat} {H : List Int → Hp}
theorem perm_nv {zs : List W} {cs : List Nat} (h : zs.Perm (nv cs)) : ∃ ds : List Nat, zs = nv ds ∧ ds.Perm cs := by
  have : ∀ z ∈ zs, ∃ c ∈ cs, z = W.int (c : Nat) := fun z hz => by
    obtain ⟨c, hc, e⟩ := List.mem_map.mp (h.subset hz)
    exact ⟨c, hc, e.symm⟩
  have key : ∀ zs : List W, (∀ z ∈ zs, ∃ c ∈ cs, z = W.int (c : Nat)) → ∃ ds : List Nat, zs = nv ds := by
    intro zs
    induction zs with
    | nil => intro _; exact ⟨[], rfl⟩
    | cons z zs ih =>
      intro hz
      obtain ⟨c, _, e⟩ := hz z (List.mem_cons_self ..)
      obtain ⟨ds, e2⟩ := ih fun y hy => hz y (List.mem_cons_of_mem _ hy)
      exact ⟨c :: ds, by rw [e, e2]; rfl⟩
  obtain ⟨ds, rfl⟩ := key zs this
  refine ⟨ds, rfl, ?_⟩
  have h2 := h.map (fun w => match w with | W.int i => i.toNat | _ => 0)
  simpa [nv, List.map_map, Function.comp_def] using h2
theorem take_nodup {ds cs : List Nat} (h : ds.Perm cs) (hc : cs.Nodup) (m : Nat) : (ds.take m).Nodup ∧ ∀ c ∈ ds.take m, c ∈ cs :=
  ⟨(List.take_sublist m ds).nodup (h.nodup_iff.mpr hc), fun c hc => h.subset ((List.take_sublist m ds).subset hc)⟩
theorem inclusion_run (it : Is T kt 2 2 L_take) (is : Is T ks 2 4 (L_shuffled kt)) (i : Is T k 3 10 (L_inclusion kt ks)) (hd : 3 ≤ d) (hH : Hd H a n) (ds : List Int) {ws order : List Nat} {many most : Nat} (hws : SchemeOk ws many most) (hmost : most ≤ 1000) (hwl : 2 ≤ ws.length)
    (ho : ∀ ds, (H ds)[m]? = some (.lst (nv order))) (hm : m < n) (hp : order.Perm (List.range ws.length)) :
    ∃ (t o : Nat) (cs os : List Nat) (ds' : List Int), evC T N d b k [.ref a, .tup (nv ws), .ref m] (H ds) = .ok (Dep.within t cs o os).w (H ds') ∧ DepOk ws 4 order (.within t cs o os) := by
  obtain ⟨d, rfl⟩ : ∃ d', d = d' + 1 := ⟨d - 1, by omega⟩
  rw [i.run rfl]
  have hol : order.length = ws.length := by simpa using hp.length_eq
  obtain ⟨f, d1, e1, h1⟩ := take_run (N := N) (b := n) it (by omega : 1 ≤ d) hH ds (m := (order.length : Int) - 1) (by omega)
  obtain ⟨t, ht, et, et'⟩ := getN2 order f (by omega)
  obtain ⟨g, d2, e2, h2⟩ := take_run (N := N) (b := n) it (by omega : 1 ≤ d) hH d1 (m := (order.length : Int) - 1 - f) (by omega)
  obtain ⟨fg, c1, hfg⟩ : ∃ fg : Nat, ((f : Int) + 1 + g) = (fg : Int) ∧ fg = f + 1 + g := ⟨f + 1 + g, by omega, rfl⟩
  obtain ⟨o, hoo, eo, eo'⟩ := getN2 order fg (by omega)
  have lt_of : ∀ x ∈ order, x < ws.length := fun x hx => List.mem_range.mp (hp.subset hx)
  have htl := lt_of t ht
  have hotl := lt_of o hoo
  obtain ⟨wt, hwt, ewt, ewt'⟩ := getN2 ws t htl
  obtain ⟨wo, hwo, ewo, ewo'⟩ := getN2 ws o hotl
  have w1 := hws.each wt hwt
  have w2 := hws.each wo hwo
  obtain ⟨mn, hmn, hm1, hm2, hm3⟩ : ∃ mn : Nat, (if wo < wt then (wo : Int) else (wt : Int)) = (mn : Int) ∧ 1 ≤ mn ∧ mn ≤ wt ∧ mn ≤ wo := by
    by_cases h : wo < wt
    · exact ⟨wo, by rw [if_pos h], by omega, by omega, by omega⟩
    · exact ⟨wt, by rw [if_neg h], by omega, by omega, by omega⟩
  obtain ⟨u, d3, e3, h3⟩ := take_run (N := N) (b := n) it (by omega : 1 ≤ d) hH d2 (m := mn) (by omega)
  obtain ⟨u1, c2, hu1⟩ : ∃ u1 : Nat, (1 : Int) + (u : Int) = (u1 : Int) ∧ u1 = 1 + u := ⟨1 + u, by omega, rfl⟩
  have hz := size_big
  simp only [L_inclusion]
  have r1 := it_rng1 (show wt ≤ 100000000 by omega)
  have r2 := it_rng1 (show wo ≤ 100000000 by omega)
  simp [hH.len, ho, e1, et, e2, c1, eo, ewt, ewo, hmn, e3, c2, r1]
  generalize hq : lcGo _ _ _ _ _ _ _ _ _ = q
  have q1 := lc_pure hq (fun i : Nat => W.int i) (fun i : Nat => W.int i) (List.range wt) rfl (fun x hx => by simp [lcB_m]) (by simp; omega)
  subst q1
  obtain ⟨zs, d4, e4, p4⟩ := shuffled_run (N := N) (b := n) it is (by omega : 2 ≤ d) hH d3 (row := .lst (nv (List.range wt))) (ws := nv (List.range wt)) (.inl rfl) (by simp) (by simp; omega)
  obtain ⟨cs, rfl, hcs⟩ := perm_nv p4
  have hH1 := hH.app [.lst (nv cs)]
  have ho1 : ∀ ds, (H ds ++ [Obj.lst (nv cs)])[m]? = some (.lst (nv order)) := fun ds => by
    rw [List.getElem?_append_left (by rw [hH.len]; exact hm)]
    exact ho ds
  simp [e4, hH.at0, ewo, r2]
  generalize hq : lcGo _ _ _ _ _ _ _ _ _ = q
  have q1 := lc_pure hq (fun i : Nat => W.int i) (fun i : Nat => W.int i) (List.range wo) rfl (fun x hx => by simp [lcB_m]) (by simp; omega)
  subst q1
  obtain ⟨zs, d5, e5, p5⟩ := shuffled_run (N := N) (b := n) it is (by omega : 2 ≤ d) hH1 d4 (row := .lst (nv (List.range wo))) (ws := nv (List.range wo)) (.inl rfl) (by simp) (by simp; omega)
  obtain ⟨os, rfl, hos⟩ := perm_nv p5
  simp at e5
  have hat : ((H d5 ++ [Obj.lst (nv cs)]) ++ [Obj.lst (nv os)])[n + 1]? = some (.lst (nv os)) := by
    rw [List.append_assoc, hH.at]; rfl
  have hcl : cs.length = wt := by simpa using hcs.length_eq
  have hos2 : os.length = wo := by simpa using hos.length_eq
  obtain ⟨n1, n2⟩ := take_nodup hcs List.nodup_range u1
  obtain ⟨n3, n4⟩ := take_nodup hos List.nodup_range u1
  simp at e5 hat
  refine ⟨t, o, cs.take u1, os.take u1, ⟨d5, ?_⟩, wt, wo, ?_, ?_, n1, fun c hc => List.mem_range.mp (n2 c hc), n3, fun c hc => List.mem_range.mp (n4 c hc), ?_, ?_, f, fg, by omega, ?_, ?_⟩
  · have hb : below n (Dep.within t (cs.take u1) o (os.take u1)).w = true := Dep.below n _
    simp [e5, hat]
    rw [← List.map_take, ← List.map_take]
    show endCall false n (Dep.within t (cs.take u1) o (os.take u1)).w _ = _
    rw [end_val hb, hH.take0]
  · exact ewt'
  · exact ewo'
  · simp [hcl, hos2]
    omega
  · intro z
    have := congrArg List.length z
    simp [hcl] at this
    omega
  · exact et'
  · exact eo'
theorem dependency_run (it : Is T kt 2 2 L_take) (is : Is T ks 2 4 (L_shuffled kt)) (ic : Is T kc 2 4 (L_columns kt)) (ip : Is T kp 3 8 (L_parts kt)) (ii : Is T ki 3 10 (L_inclusion kt ks)) (i : Is T k 3 5 (L_dependency kt kc kp ki)) (hd : 4 ≤ d) (hH : Hd H a n) (ds : List Int) {ws order : List Nat} {many most : Nat} (hws : SchemeOk ws many most) (hmost : most ≤ 1000)
    (ho : ∀ ds, (H ds)[m]? = some (.lst (nv order))) (hm : m < n) (hp : order.Perm (List.range ws.length)) :
    ∃ (dep : Dep) (ds' : List Int), evC T N d b k [.ref a, .tup (nv ws), .ref m] (H ds) = .ok dep.w (H ds') ∧ DepOk ws 4 order dep := by
  obtain ⟨d, rfl⟩ : ∃ d', d = d' + 1 := ⟨d - 1, by omega⟩
  rw [i.run rfl]
  obtain ⟨f, d1, e1, h1⟩ := take_run (N := N) (b := n) it (by omega : 1 ≤ d) hH ds (m := 9) (by omega)
  have hl : 0 < ws.length := List.length_pos_iff.mpr hws.ne
  obtain ⟨t, d2, e2, h2⟩ := take_run (N := N) (b := n) it (by omega : 1 ≤ d) hH d1 (m := ws.length) (by omega)
  obtain ⟨wt, hwt, ewt, ewt'⟩ := getN2 ws t (by omega)
  have w1 := hws.each wt hwt
  have fin : ∀ (dep : Dep) ds, endCall false n dep.w (H ds) = .ok dep.w (H ds) := fun dep ds => by rw [end_val (Dep.below n dep), hH.take1]
  by_cases c1 : f < 3 ∧ 1 < ws.length
  · obtain ⟨t, o, cs, os, d3, e3, h3⟩ := inclusion_run (N := N) (b := n) it is ii (by omega : 3 ≤ d) hH d2 hws hmost (by omega) ho hm hp
    have c2 : (f : Int) < 3 := by omega
    have c3 : (1 : Int) < ws.length := by omega
    refine ⟨_, d3, ?_, h3⟩
    simp [L_dependency, hH.len, e1, e2, c2, c3, e3, fin]
  · have pre : ∀ q : R W, endB n (kThen (evC T N d) N n
        [.iff (.pr false .lt [.var 3, .cst (.int 5)]) [.ret (.pr false .tupd [.cst (.str "joins"), .var 4, .call kp [.var 0, .pr false .idx [.var 1, .var 4], .cst (.int 4)]])] [], .iff (.pr false .lt [.var 3, .cst (.int 8)]) [.ret (.pr false .tupd [.cst (.str "deals"), .var 4, .call kc [.var 0, .pr false .idx [.var 1, .var 4]], .call kc [.var 0, .pr false .idx [.var 1, .var 4]]])] [], .ret (.pr false .tupd [.cst (.str "settles"), .var 4, .call kc [.var 0, .pr false .idx [.var 1, .var 4]], .call kc [.var 0, .pr false .idx [.var 1, .var 4]]])]
        (.nxt [some (.ref a), some (.tup (nv ws)), some (.ref m), some (.int f), some (.int t)] (H d2))) = q →
        endB n (evB (evC T N d) N n (L_dependency kt kc kp ki) [some (.ref a), some (.tup (nv ws)), some (.ref m), none, none] (H ds)) = q := fun q hq => by
      rw [← hq]
      by_cases c4 : f < 3
      · have c2 : (f : Int) < 3 := by omega
        have c6 : ¬ (1 : Int) < ws.length := fun z => c1 ⟨c4, by omega⟩
        simp only [L_dependency]
        simp [hH.len, e1, e2, c2, c6]
      · have c2 : ¬ (f : Int) < 3 := by omega
        simp only [L_dependency]
        simp [hH.len, e1, e2, c2]
    rw [hH.len]
    by_cases c3 : f < 5
    · obtain ⟨ps, d3, e3, h3⟩ := parts_run (N := N) (b := n) it ip (by omega : 2 ≤ d) hH d2 wt 4 (by omega) (by omega)
      refine ⟨.joins t ps, d3, pre _ ?_, wt, ewt', h3⟩
      have c5 : (f : Int) < 5 := by omega
      simp at e3
      simp [c5, ewt, e3]
      exact fin (.joins t ps) d3
    · obtain ⟨l, d3, e3, h3⟩ := columns_run (N := N) (b := n) it ic (by omega : 2 ≤ d) hH d2 wt (by omega)
      obtain ⟨r, d4, e4, h4⟩ := columns_run (N := N) (b := n) it ic (by omega : 2 ≤ d) hH d3 wt (by omega)
      have c5 : ¬ (f : Int) < 5 := by omega
      by_cases c6 : f < 8
      · refine ⟨.deals t l r, d4, pre _ ?_, wt, ewt', h3, h4⟩
        have c7 : (f : Int) < 8 := by omega
        simp [c5, c7, ewt, e3, e4]
        exact fin (.deals t l r) d4
      · refine ⟨.settles t l r, d4, pre _ ?_, wt, ewt', h3, h4⟩
        have c7 : ¬ (f : Int) < 8 := by omega
        simp [c5, c7, ewt, e3, e4]
        exact fin (.settles t l r) d4
theorem order_run {ws : List Nat} (it : Is T kt 2 2 L_take) (is : Is T ks 2 4 (L_shuffled kt)) (i : Is T k 2 3 (L_order ks)) (hd : 3 ≤ d) (hH : Hd H a n) (ds : List Int) (hw : ws.length ≤ 1000) :
    ∃ (order : List Nat) (ds' : List Int), evC T N d b k [.ref a, .tup (nv ws)] (H ds) = .ok (.ref n) (H ds' ++ [.lst (nv order)]) ∧ order.Perm (List.range ws.length) := by
  obtain ⟨d, rfl⟩ : ∃ d', d = d' + 1 := ⟨d - 1, by omega⟩
  rw [i.run rfl]
  simp [L_order, hH.len, it_rng1 (show ws.length ≤ 100000000 by omega)]
  generalize hq : lcGo _ _ _ _ _ _ _ _ _ = q
  have q1 := lc_pure hq (fun i : Nat => W.int i) (fun i : Nat => W.int i) (List.range ws.length) rfl (fun x hx => by simp [lcB_m]) (by simp; omega)
  subst q1
  obtain ⟨zs, d4, e4, p4⟩ := shuffled_run (N := N) (b := n) it is (by omega : 2 ≤ d) hH ds (row := .lst (nv (List.range ws.length))) (ws := nv (List.range ws.length)) (.inl rfl) (by simp) (by simp; omega)
  obtain ⟨cs, rfl, hcs⟩ := perm_nv p4
  refine ⟨cs, ⟨d4, ?_⟩, hcs⟩
  simp [e4]
  rw [end_ref (Nat.le_refl n) (by rw [hH.at0]; rfl) (by simp), hH.take0]
/-- a book's dependencies -/
theorem book_run {kd ko : Nat} (it : Is T kt 2 2 L_take) (is : Is T ks 2 4 (L_shuffled kt)) (ic : Is T kc 2 4 (L_columns kt)) (ip : Is T kp 3 8 (L_parts kt)) (ii : Is T ki 3 10 (L_inclusion kt ks)) (id_ : Is T kd 3 5 (L_dependency kt kc kp ki)) (io : Is T ko 2 3 (L_order ks)) (i : Is T k 3 5 (L_book kt kd ko)) (hd : 5 ≤ d) (hH : Hd H a n) (ds : List Int) {ws : List Nat} {many most mo : Nat} (hws : SchemeOk ws many most) (hmany : many ≤ 1000) (hmost : most ≤ 1000) (hmo : mo ≤ 1000) :
    ∃ (order : List Nat) (book : List Dep) (ds' : List Int), evC T N d b k [.ref a, .tup (nv ws), .int mo] (H ds) = .ok (.tup (book.map Dep.w)) (H ds') ∧ order.Perm (List.range ws.length) ∧ book.length ≤ mo ∧ ∀ dep ∈ book, DepOk ws 4 order dep := by
  obtain ⟨d, rfl⟩ : ∃ d', d = d' + 1 := ⟨d - 1, by omega⟩
  rw [i.run rfl]
  have hwl := hws.len
  obtain ⟨order, d1, e1, h1⟩ := order_run (N := N) (b := n) (ws := ws) it is io (by omega : 3 ≤ d) hH ds (by omega)
  have hH1 := hH.app [.lst (nv order)]
  obtain ⟨v, d2, e2, h2⟩ := take_run (N := N) (b := n) it (by omega : 1 ≤ d) hH1 d1 (m := (mo : Int) + 1) (by omega)
  simp [L_book, hH.len, e1, e2, it_rng1 (show v ≤ 100000000 by omega)]
  generalize hq : lcGo _ _ _ _ _ _ _ _ _ = q
  obtain ⟨book, d3, rfl, h3, h4⟩ := lc_draw hq (fun ds => H ds ++ [.lst (nv order)]) d2 rfl (fun _ => by simp) (fun i : Nat => W.int i) Dep.w (fun _ dep => DepOk ws 4 order dep) (List.range v) rfl (fun x hx ds => by
    obtain ⟨dep, d3, e3, h3⟩ := dependency_run (N := N) (b := n) (m := n) it is ic ip ii id_ (by omega : 4 ≤ d) hH1 ds hws hmost (fun ds => by rw [hH.at0]; rfl) (by simp) h1
    refine ⟨dep, d3, ?_, h3⟩
    simp [lcB_m, e3]) (by simp; omega)
  refine ⟨order, book, ⟨d3, ?_⟩, h1, ?_, fun dep hdep => ?_⟩
  · simp [end_val, belowL_map, hH.take0]
  · rw [h3, List.length_range]
    omega
  · obtain ⟨x, _, hx⟩ := h4 dep hdep
    exact hx
end
end Ow

/-! N7: the draws' list. -/
namespace Ow
open PySem
section
variable {T : List Def} {N d b k : Nat}
theorem hp_at {h : Hp} {X : List Obj} (i : Nat) : (h ++ X)[h.length + i]? = X[i]? := by
  rw [List.getElem?_append_right (by omega)]
  congr 1
  omega
theorem hp_at0 {h : Hp} {X : List Obj} : (h ++ X)[h.length]? = X[0]? := hp_at 0
theorem hp_st {h : Hp} {X : List Obj} (i : Nat) (o : Obj) : (h ++ X).set (h.length + i) o = h ++ X.set i o := by
  rw [List.set_append_right _ _ (by omega)]
  congr 2
  omega
theorem hp_st0 {h : Hp} {X : List Obj} (o : Obj) : (h ++ X).set h.length o = h ++ X.set 0 o := hp_st 0 o
/-- a copy of a list of numbers, as a list that may be changed -/
theorem lcM_copy {call : Nat → Nat → List W → Hp → R W} {b : Nat} {r : Ow.Env} {t : Tg} {tests : List Ex} {e : Ex} {ws its : List W} {h : Hp} {q : R W} (hq : lcGoM call b r t tests e ws h its = q) {α : Type} (en : α → W) (g : α → W) (xs : List α) (hits : its = xs.map en) (kp : ∀ acc, sameAt h (h ++ [.lst acc]) ws)
    (st : ∀ x ∈ xs, ∀ acc, lcB call b r t tests e (en x) (h ++ [.lst acc]) = .ok (some (g x)) (h ++ [.lst acc])) (z : xs.length ≤ 100000) : q = .ok (.ref h.length) (h ++ [.lst (xs.map g)]) := by
  subst hq hits
  have key : ∀ (xs : List α) (acc : List W), (∀ x ∈ xs, ∀ acc, lcB call b r t tests e (en x) (h ++ [.lst acc]) = .ok (some (g x)) (h ++ [.lst acc])) → acc.length + xs.length ≤ sizeLine →
      lcLoopM (lcB call b r t tests e) (fun h2 => sameAt h h2 ws) h.length (xs.map en) acc (h ++ [.lst acc]) = .ok (.ref h.length) (h ++ [.lst (acc ++ xs.map g)]) := by
    intro xs
    induction xs with
    | nil => intro acc _ _; rw [List.map_nil, lcM_nil, List.map_nil, List.append_nil]
    | cons x xs ih =>
      intro acc st z
      rw [List.length_cons] at z
      rw [List.map_cons, lcM_cons_some (st x (List.mem_cons_self ..) acc) (kp acc) (hp_at0) (by omega), hp_st0]
      have := ih (acc ++ [g x]) (fun y hy => st y (List.mem_cons_of_mem _ hy)) (by rw [List.length_append, List.length_singleton]; omega)
      rw [List.append_assoc] at this
      exact this
  have := key xs [] st (by have := size_big; simp; omega)
  rw [List.nil_append] at this
  exact this
theorem draws_run {h : Hp} {ns : List Int} {m : Nat} (i : Is T k 2 9 L_draws) (hd : 1 ≤ d) (hn : ns.length ≤ 1000) (hm : m ≤ 2000) :
    ∃ ds, evC T N d b k [.slst (iv ns), .int m] h = .ok (.ref h.length) (h ++ [.lst (iv ds)]) := by
  obtain ⟨d, rfl⟩ : ∃ d', d = d' + 1 := ⟨d - 1, by omega⟩
  rw [i.run rfl]
  simp only [L_draws]
  simp
  generalize hq : lcGoM _ _ _ _ _ _ _ _ _ = q
  have q1 := lcM_copy hq W.int W.int ns rfl (fun _ => by simp) (fun x _ acc => by simp [lcB_m]) (by omega)
  subst q1
  have hz := size_big
  obtain ⟨cs, hcs⟩ : ∃ cs : List Int, cs = if ns = [] then [0] else ns := ⟨_, rfl⟩
  have hc0 : 0 < cs.length := by
    rw [hcs]
    split
    · simp
    · exact List.length_pos_iff.mpr (by assumption)
  have hc1 : cs.length ≤ 1000 := by
    rw [hcs]
    split
    · simp
    · exact hn
  simp
  refine then_step (P := fun q => ∃ ds, q = .ok (.ref h.length) (h ++ [.lst (iv ds)])) (r := [some (.slst (iv ns)), some (.int m), some (.ref h.length), none, none, none, none, none, none]) (h := h ++ [.lst (iv cs)]) ?_ ?_
  · by_cases h0 : ns = []
    · simp only [h0] at hcs ⊢
      simp [hcs, hp_at0, hp_st0, mayPut]
      rw [if_pos (by omega)]
      simp
    · simp only [h0] at hcs
      simp [hcs, hp_at0, h0]
  simp [hp_at0, it_rng1 (show m ≤ 100000000 by omega)]
  generalize hq : forGo _ _ _ _ _ _ _ _ _ _ _ = q
  obtain ⟨⟨rs, ds⟩, rfl, hI1, hI2⟩ := for_st hq (fun i : Nat => W.int i) (fun s : List Int × List Int => [some (.slst (iv ns)), some (.int m), some (.ref h.length), some (.ref (h.length + 1)), some (.ref (h.length + 2)), none, none, none, none]) (fun s => h ++ [.lst (iv cs), .lst (iv s.1), .lst (iv s.2)]) (fun i s => s.1.length = cs.length ∧ s.2.length = i) (List.range m) rfl (cs, []) (by simp) rfl ⟨rfl, rfl⟩ (fun s i _ => by simp) (fun i x s hx hI => by
    obtain ⟨rs, ds⟩ := s
    obtain ⟨hI1, hI2⟩ := hI
    simp only at hI1 hI2
    obtain ⟨hi, rfl⟩ : i < m ∧ i = x := by
      obtain ⟨h1, h2⟩ := List.getElem?_eq_some_iff.mp hx
      rw [List.getElem_range] at h2
      rw [List.length_range] at h1
      exact ⟨h1, h2⟩
    obtain ⟨j, ej, hj⟩ : ∃ j : Nat, (i : Int).fmod cs.length = (j : Int) ∧ j < cs.length := by
      have := fmod_pos (a := (i : Int)) (m := (cs.length : Int)) (by omega)
      exact ⟨((i : Int).fmod cs.length).toNat, by omega, by omega⟩
    obtain ⟨cv, _, ec⟩ := getI cs j (by omega)
    have hjr : j < rs.length := by omega
    have er := iv_get (ds := rs) (i := j) hjr
    have c0 : ¬ (cs.length : Int) = 0 := by omega
    have c1 : ¬ cs = [] := fun z => by rw [z] at hc0; simp at hc0
    have c2 : ds.length < sizeLine := by omega
    have c3 : j < rs.length := by omega
    by_cases hb : 1000000000000000000 ≤ cv
    · refine ⟨(rs.set j ((rs[j]'hjr).fdiv 1000), ds ++ [(rs[j]'hjr).fmod 1000]), ?_, by simpa using hI1, by simp [hI2]⟩
      simp only [forB_m]
      simp [hp_at0, hp_at, hp_st, c0, c1, ej, ec, er, pow18, hb, mayPut, c2, c3, p_fdiv, List.map_set]
    · obtain ⟨v1, hv1⟩ : ∃ v, (cv * 48271 + (i : Int) * 69621 + 11).fmod 2147483647 = v := ⟨_, rfl⟩
      obtain ⟨k1, k2⟩ := fmod_pos (a := cv * 48271 + (i : Int) * 69621 + 11) (m := 2147483647) (by omega)
      rw [hv1] at k1 k2
      have s1 : small64 v1 = true := small64_ok ⟨by omega, by omega⟩
      refine ⟨(rs, ds ++ [(v1 * v1 + 3 * v1 + (i : Int)).fmod 1000003]), ?_, hI1, by simp [hI2]⟩
      simp only [forB_m]
      simp [hp_at0, hp_at, hp_st, c0, c1, ej, ec, er, pow18, hb, mayPut, c2, c3, hv1, s1])
  rw [List.length_range] at hI2
  refine ⟨ds.reverse, ?_⟩
  simp [hp_at, hp_st]
  rw [end_ref (us := iv ds.reverse) (by omega) (by rw [hp_at]; simp) belowL_iv]
  simp
end
end Ow

/-! Y7: draws, insert, reverse; what a run is said to do. -/
namespace Ow
open PySem SetF
variable {δ α β γ κ σ ρ : Type}
def insI (xs : List α) (i : Int) (x : α) : Option (List α) := if xs.length < sizeLine ∧ 0 ≤ i ∧ i ≤ xs.length then some (xs.take i.toNat ++ x :: xs.drop i.toNat) else none
section
variable {I : DI δ} {b : Nat} {call : Nat → Nat → List W → Hp → R W} {N : Nat} {G : List Slot} {e : Ex} {ss : List St} {Fin : κ → En} {i : Nat} {en : α → W}
theorem BJ.insert {xs : List α} {ix : Ex} {m : M δ α} {mi : M δ Int} {k : List α → M δ κ} (hi : sat G i = .ob (.lst (xs.map en))) (qi : AJ I b call G ix (fun v => .ex (.int v)) mi) (q : AJ I b call G e (fun v => .ex (en v)) m) (rest : ∀ ys, BJ I b call N (sup G i (.ob (.lst (ys.map en)))) ss Fin (k ys)) :
    BJ I b call N G (.exp (.mth .insert (.var i) [ix, e]) :: ss) Fin (mi >>= fun j => m >>= fun v => M.lift (insI xs j v) >>= k) := .mk fun r h d l o => by
  rw [b_cons_, s_exp_, e_mth_, e_var]
  have ql := l.sl i
  rw [hi] at ql
  obtain ⟨n, e1, e2, e3, e4⟩ := ql
  rw [e1, gv_s, R.bind_ok, if_pos (by rw [rc_insert, e2]; rfl), e_cons_]
  have z := qi r h d l o
  rw [M.bind_app]
  match hm : mi d, z with
  | none, _ => trivial
  | some (.ex v, d'), z =>
    obtain ⟨h', z1, x, k'⟩ := z
    rw [z1]
    exact ⟨r, h', rfl, x.bs l.hb, k'⟩
  | some (.ok j, d'), z =>
    obtain ⟨u, h1, z1, z2, x, k'⟩ := z
    cases (show u = .int j from z2)
    have l1 := l.ext x
    rw [z1, R.bind_ok, e_cons_]
    have y := q r h1 d' l1 k'
    dsimp only
    rw [M.bind_app]
    match hm2 : m d', y with
    | none, _ => trivial
    | some (.ex v, d2), y =>
      obtain ⟨h2, y1, x2, k2⟩ := y
      rw [y1]
      exact ⟨r, h2, rfl, (x.trans x2).bs l.hb, k2⟩
    | some (.ok v, d2), y =>
      obtain ⟨u, h2, y1, y2, x2, k2⟩ := y
      cases (show u = en v from y2)
      have l2 := l1.ext x2
      have hn2 := ((x.trans x2).old n (List.getElem?_eq_some_iff.mp e2).1 e4).trans e2
      rw [y1, R.bind_ok, e_nil, R.bind_ok, R.bind_ok, R.bind_ok]
      dsimp only
      unfold insI
      by_cases c : xs.length < sizeLine ∧ 0 ≤ j ∧ j ≤ xs.length
      · rw [if_pos c]
        have er : runMth b .insert (.ref n) [.int j, en v] h2 = .ok .non (h2.set n (.lst ((xs.take j.toNat ++ v :: xs.drop j.toNat).map en))) := by
          rw [m_ins, hn2, mIns_l, may_own e3]
          simp [c.1, c.2.1, c.2.2, List.map_append, List.map_take, List.map_drop]
        rw [er, ofR_ok, RS.andThen_nxt]
        have l3 := l2.put (o' := .lst ((xs.take j.toNat ++ v :: xs.drop j.toNat).map en)) hi e1 e3 e4 (List.getElem?_eq_some_iff.mp hn2).1
        exact (rest _ r _ d2 l3 (put_ok k2 e4)).later (((x.trans x2).bs l.hb).trans (put_bs e3))
      · rw [if_neg c]
        trivial
theorem BJ.reverse {xs : List α} {k : List α → M δ κ} (hi : sat G i = .ob (.lst (xs.map en))) (rest : ∀ ys, BJ I b call N (sup G i (.ob (.lst (ys.map en)))) ss Fin (k ys)) :
    BJ I b call N G (.exp (.mth .reverse (.var i) []) :: ss) Fin (pure xs.reverse >>= k) := .mk fun r h d l o => by
  rw [b_cons_, s_exp_, e_mth_, e_var]
  have ql := l.sl i
  rw [hi] at ql
  obtain ⟨n, e1, e2, e3, e4⟩ := ql
  rw [e1, gv_s, R.bind_ok, if_pos (by rw [rc_reverse, e2]; rfl), e_nil, R.bind_ok, m_rev, e2, mRev_l, ofR_ok, RS.andThen_nxt]
  have l2 := l.put (o' := .lst (xs.reverse.map en)) hi e1 e3 e4 (List.getElem?_eq_some_iff.mp e2).1
  rw [← List.map_reverse]
  exact (rest xs.reverse r _ d l2 (put_ok o e4)).later (put_bs e3)
end
/-! ### draws -/
def S_take (many : Int) : M (List Int) Int := fun ds => match ds.getLast? with
  | none => some (.ok 0, ds)
  | some x => if many = 0 then none else some (.ok (x.fmod many), ds.dropLast)
theorem S_take_nil (m : Int) : S_take m [] = some (.ok 0, []) := rfl
theorem S_take_app (m : Int) (ds : List Int) (c : Int) : S_take m (ds ++ [c]) = if m = 0 then none else some (.ok (c.fmod m), ds) := by
  simp [S_take]
theorem c_take {T : List Def} {N d k : Nat} {a : Nat} (i : Is T k 2 2 L_take) (m : Int) : CS (DI.drw a) (evC T N (d + 1)) k [.ex (.ref a), .ex (.int m)] (fun v => .ex (.int v)) (S_take m) := .mk fun b h ds us o ar => by
  obtain ⟨u1, r1, rfl, e1, u2, r2, rfl, e2, e3⟩ := ar
  cases (show r2 = [] from e3)
  cases (show u1 = .ref a from e1)
  cases (show u2 = .int m from e2)
  have ha : h[a]? = some (.lst (iv ds)) := o
  have hl := (List.getElem?_eq_some_iff.mp ha).1
  rw [i.run rfl]
  rcases List.eq_nil_or_concat ds with rfl | ⟨ds0, c, rfl⟩
  · rw [S_take_nil]
    refine ⟨.int 0, h, ?_, rfl, .refl, o⟩
    simp [L_take, ha, end_val]
  · rw [List.concat_eq_append] at o ha ⊢
    rw [S_take_app]
    by_cases hm : m = 0
    · rw [if_pos hm]; trivial
    · rw [if_neg hm]
      refine ⟨.int (c.fmod m), h.set a (.lst (iv ds0)), ?_, rfl, ⟨by simp, fun j hj n => List.getElem?_set_ne fun z => n z.symm⟩, List.getElem?_set_self hl⟩
      have h0 : ¬ ((ds0.length : Int) + 1 = 0) := by omega
      simp only [iv, List.map_append, List.map_cons, List.map_nil] at ha
      have ht : (h.set a (.lst (ds0.map W.int))).take h.length = h.set a (.lst (ds0.map W.int)) := List.take_of_length_le (by simp)
      simp [L_take, ha, h0, hm, end_val, mPop, ht]
/-- a run that is told to end with a value for which Q holds, whatever the state -/
def Ok (m : M δ α) (Q : α → Prop) : Prop := ∀ d, ∃ v d', m d = some (.ok v, d') ∧ Q v
theorem Ok.pure {v : α} {Q : α → Prop} (h : Q v) : Ok (δ := δ) (pure v) Q := fun d => ⟨v, d, rfl, h⟩
theorem Ok.bind {m : M δ α} {k : α → M δ β} {Q : α → Prop} {P : β → Prop} (h : Ok m Q) (h2 : ∀ v, Q v → Ok (k v) P) : Ok (m >>= k) P := fun d => by
  obtain ⟨v, d1, e1, q⟩ := h d
  obtain ⟨w, d2, e2, p⟩ := h2 v q d1
  exact ⟨w, d2, by rw [M.bind_app, e1]; exact e2, p⟩
theorem Ok.mono {m : M δ α} {Q P : α → Prop} (h : Ok m Q) (i : ∀ v, Q v → P v) : Ok m P := fun d => let ⟨v, d', e, q⟩ := h d; ⟨v, d', e, i v q⟩
theorem Ok.lift {o : Option α} {v : α} {Q : α → Prop} (e : o = some v) (h : Q v) : Ok (δ := δ) (M.lift o) Q := by subst e; exact .pure h
theorem Ok.chk {c : Bool} {Q : Unit → Prop} (e : c = true) (h : Q ()) : Ok (δ := δ) (M.chk c) Q := by subst e; exact .pure h
theorem Ok.ite {c : Bool} {m1 m2 : M δ α} {Q : α → Prop} (h1 : c = true → Ok m1 Q) (h2 : c = false → Ok m2 Q) : Ok (if c then m1 else m2) Q := by
  cases c
  · exact h2 rfl
  · exact h1 rfl
theorem Ok.nox {m : M δ α} {Q : α → Prop} (h : Ok m Q) : Ok (M.nox m) Q := fun d => by
  obtain ⟨v, d', e, q⟩ := h d
  exact ⟨v, d', by unfold M.nox; rw [e], q⟩
theorem Ok.take {m : Int} (h : 0 < m) : Ok (S_take m) fun v => 0 ≤ v ∧ v < m := fun ds => by
  rcases List.eq_nil_or_concat ds with rfl | ⟨ds0, c, rfl⟩
  · exact ⟨0, [], rfl, by omega, h⟩
  · rw [List.concat_eq_append, S_take_app, if_neg (by omega)]
    exact ⟨_, _, rfl, Int.fmod_nonneg_of_pos _ h, Int.fmod_lt_of_pos _ h⟩
/-- two lists, item by item -/
inductive All2 (R : α → β → Prop) : List α → List β → Prop
  | nil : All2 R [] []
  | cons {x y xs ys} : R x y → All2 R xs ys → All2 R (x :: xs) (y :: ys)
theorem All2.length {R : α → β → Prop} {xs : List α} {ys : List β} (h : All2 R xs ys) : ys.length = xs.length := by
  induction h with
  | nil => rfl
  | cons _ _ ih => simp [ih]
theorem All2.mem {R : α → β → Prop} {xs : List α} {ys : List β} (h : All2 R xs ys) : ∀ y ∈ ys, ∃ x ∈ xs, R x y := by
  induction h with
  | nil => intro y hy; cases hy
  | cons r _ ih =>
    intro y hy
    rcases List.mem_cons.mp hy with rfl | hy
    · exact ⟨_, List.mem_cons_self .., r⟩
    · obtain ⟨x, hx, q⟩ := ih y hy
      exact ⟨x, List.mem_cons_of_mem _ hx, q⟩
theorem All2.get {R : α → β → Prop} {xs : List α} {ys : List β} (h : All2 R xs ys) : ∀ (i : Nat) x y, xs[i]? = some x → ys[i]? = some y → R x y := by
  induction h with
  | nil => intro i x y hx; simp at hx
  | cons r _ ih =>
    intro i x y hx hy
    cases i with
    | zero => cases hx; cases hy; exact r
    | succ i => exact ih i x y (by simpa using hx) (by simpa using hy)
theorem All2.mono {R R' : α → β → Prop} {xs : List α} {ys : List β} (h : All2 R xs ys) (i : ∀ x y, R x y → R' x y) : All2 R' xs ys := by
  induction h with
  | nil => exact .nil
  | cons r _ ih => exact .cons (i _ _ r) ih
theorem Ok.lcG {f : α → M δ β} {R : α → β → Prop} : ∀ {xs : List α}, (∀ x ∈ xs, Ok (f x) (R x)) → Ok (Ow.lcG f xs) (All2 R xs)
  | [], _ => .pure .nil
  | x :: xs, h => (h x (List.mem_cons_self ..)).nox.bind fun y hy => (Ok.lcG fun z hz => h z (List.mem_cons_of_mem _ hz)).bind fun ys hys => .pure (.cons hy hys)
theorem Ok.lcM {f : α → M δ β} {R : α → β → Prop} {xs : List α} (hl : xs.length ≤ 100000) (h : ∀ x ∈ xs, Ok (f x) (R x)) : Ok (Ow.lcM f xs) (All2 R xs) := by
  unfold Ow.lcM
  rw [if_pos (by have := size_big; omega)]
  exact Ok.lcG h
/-- a comprehension with a test that draws: the items kept are some of the list's, in order -/
theorem Ok.lcGT {t : α → M δ Bool} {f : α → M δ β} {R : α → β → Prop} : ∀ {xs : List α}, (∀ x ∈ xs, Ok (t x) fun _ => True) → (∀ x ∈ xs, Ok (f x) (R x)) → Ok (Ow.lcGT t f xs) fun ys => ∃ zs, zs.Sublist xs ∧ All2 R zs ys
  | [], _, _ => .pure ⟨[], .slnil, .nil⟩
  | x :: xs, h, h2 => by
    have ih := Ok.lcGT (xs := xs) (fun z hz => h z (List.mem_cons_of_mem _ hz)) fun z hz => h2 z (List.mem_cons_of_mem _ hz)
    refine (h x (List.mem_cons_self ..)).nox.bind fun c _ => ?_
    cases c with
    | true => exact (h2 x (List.mem_cons_self ..)).nox.bind fun y hy => ih.bind fun ys ⟨zs, hz, ha⟩ => .pure ⟨x :: zs, hz.cons₂ x, .cons hy ha⟩
    | false => exact ih.mono fun ys ⟨zs, hz, ha⟩ => ⟨zs, hz.cons x, ha⟩
theorem Ok.lcT {t : α → M δ Bool} {f : α → M δ β} {R : α → β → Prop} {xs : List α} (hl : xs.length ≤ 100000) (h : ∀ x ∈ xs, Ok (t x) fun _ => True) (h2 : ∀ x ∈ xs, Ok (f x) (R x)) : Ok (Ow.lcT t f xs) fun ys => ∃ zs, zs.Sublist xs ∧ All2 R zs ys := by
  unfold Ow.lcT
  rw [if_pos (by have := size_big; omega)]
  exact Ok.lcGT h h2
theorem All2.eq {xs ys : List α} (h : All2 (fun x y => y = x) xs ys) : ys = xs := by
  induction h with
  | nil => rfl
  | cons e _ ih => rw [e, ih]
/-- a for: J holds ahead of each turn -/
theorem Ok.forG {g : α → σ → M δ σ} {J : Nat → σ → Prop} : ∀ (xs : List α) (n : Nat) (s : σ), (∀ i x, xs[i]? = some x → ∀ s, J (n + i) s → Ok (g x s) (J (n + i + 1))) → J n s → Ok (Ow.forG g xs s) (J (n + xs.length))
  | [], n, s, _, h0 => .pure h0
  | x :: xs, n, s, h, h0 => by
    refine (h 0 x rfl s h0).bind fun s1 h1 => ?_
    have := Ok.forG xs (n + 1) s1 (fun i y hy s hs => by
      have := h (i + 1) y (by simpa using hy) s (by rw [show n + (i + 1) = n + 1 + i by omega]; exact hs)
      rw [show n + (i + 1) + 1 = n + 1 + i + 1 by omega] at this
      exact this) h1
    rw [show n + (x :: xs).length = n + 1 + xs.length by simp; omega]
    exact this
theorem Ok.for0 {g : α → σ → M δ σ} {J : Nat → σ → Prop} {xs : List α} {s : σ} (h0 : J 0 s) (h : ∀ i x, xs[i]? = some x → ∀ s, J i s → Ok (g x s) (J (i + 1))) : Ok (Ow.forG g xs s) (J xs.length) := by
  have := Ok.forG (J := J) xs 0 s (fun i x hx s hs => by rw [Nat.zero_add] at hs ⊢; exact h i x hx s hs) h0
  rwa [Nat.zero_add] at this
/-- .. without places -/
theorem Ok.forI {g : α → σ → M δ σ} {J : σ → Prop} {xs : List α} {s : σ} (h0 : J s) (h : ∀ x ∈ xs, ∀ s, J s → Ok (g x s) J) : Ok (Ow.forG g xs s) J :=
  (Ok.for0 (J := fun _ => J) h0 fun i x hx s hs => h x (List.mem_of_getElem? hx) s hs)
/-! ### the law -/
theorem law_go {T : List Def} {N d k kdr nn : Nat} {m : Int} {rest : List St} {ml : M (List Int) Bool} {script ds : List Int} (i : Is T k 1 nn (.asg (.nm 1) (.call kdr [.var 0, .cst (.int m)]) :: rest)) (hn : 2 ≤ nn)
    (hd : evC T N d 0 kdr [.slst (iv script), .int m] [] = .ok (.ref 0) [.lst (iv ds)]) (q : BJ (DI.drw 0) 0 (evC T N d) N (.kn (eSL W.int script) :: .kn (.ref 0) :: List.replicate (nn - 2) .no) rest (fun v => .fe (.bl v)) ml)
    (ok : ∃ d', ml ds = some (.ok true, d')) : ∃ h', evC T N (d + 1) 0 k [.slst (iv script)] [] = .ok (.bl true) h' := by
  obtain ⟨n2, rfl⟩ : ∃ n2, nn = n2 + 2 := ⟨nn - 2, by omega⟩
  rw [i.run rfl]
  have l : Lay (DI.drw 0) 0 (.kn (eSL W.int script) :: .kn (.ref 0) :: List.replicate n2 .no) (some (.slst (iv script)) :: some (.ref 0) :: List.replicate n2 none) [.lst (iv ds)] := by
    have own : ∀ j, (sat (.kn (eSL W.int script) :: .kn (.ref 0) :: List.replicate n2 .no) j).own = false := fun j => by
      match j with
      | 0 => rfl
      | 1 => rfl
      | j + 2 =>
        have := sat_app [] n2 j
        simp only [List.nil_append] at this
        show (sat (List.replicate n2 .no) j).own = false
        rw [this]; rfl
    refine ⟨by simp, Nat.zero_le _, fun j => ?_, fun j k m ej => by rw [own j] at ej; cases ej⟩
    match j with
    | 0 => rfl
    | 1 => rfl
    | j + 2 =>
      have := sat_app [] n2 j
      simp only [List.nil_append] at this
      show SlotOk _ _ _ _ (sat (List.replicate n2 .no) j)
      rw [this]; trivial
  obtain ⟨d', e⟩ := ok
  have z := q _ [.lst (iv ds)] ds l rfl
  rw [e] at z
  obtain ⟨h', e1, _⟩ := z
  have er : evB (evC T N d) N 0 (.asg (.nm 1) (.call kdr [.var 0, .cst (.int m)]) :: rest) ([W.slst (iv script)].map some ++ List.replicate (n2 + 2 - 1) none) [] = evB (evC T N d) N 0 rest (some (.slst (iv script)) :: some (.ref 0) :: List.replicate n2 none) [.lst (iv ds)] := by
    rw [show n2 + 2 - 1 = n2 + 1 by omega, List.replicate_succ]
    simp [hd]
  show ∃ h', endB 0 (evB (evC T N d) N 0 (.asg (.nm 1) (.call kdr [.var 0, .cst (.int m)]) :: rest) ([W.slst (iv script)].map some ++ List.replicate (n2 + 2 - 1) none) []) = _
  rw [er]
  rcases e1 with e1 | ⟨e0, r', e1⟩
  · rw [e1, endB_r, end_val rfl]
    exact ⟨_, rfl⟩
  · cases e0
end Ow
namespace Ow
open PySem
variable {δ α β γ κ σ ρ : Type}
section
variable {I : DI δ} {b : Nat} {call : Nat → Nat → List W → Hp → R W} {N : Nat} {G : List Slot} {e : Ex} {srcs : List Ex} {ss : List St} {Fin : κ → En} {i : Nat} {t : Tg} {kk : ItK} {en : α → W} {eb : β → W}
theorem ES.set {h1 h : Hp} {n : Nat} {o : Obj} (x : ES I h1 h) (hn : h1.length ≤ n) : ES I h1 (h.set n o) := ⟨by rw [List.length_set]; exact x.len, fun j hj nf => by rw [List.getElem?_set_ne (by omega)]; exact x.old j hj nf⟩
theorem lcM_loop {body : W → Hp → R (Option W)} {us : List W} {h1 : Hp} {f : α → M δ β} {n : Nat} (hn : h1.length ≤ n) (nF : ¬ I.F n)
    (hr : ∀ u ∈ us, ∀ m, u = .ref m → m < h1.length ∧ ¬ I.F m)
    (hb : ∀ x h d, ES I h1 h → I.ok h d → (match M.nox (f x) d with
        | none => True
        | some (.ok y, d') => ∃ h', body (en x) h = .ok (some (eb y)) h' ∧ ES I h h' ∧ I.ok h' d'
        | some (.ex _, _) => True)) :
    ∀ (xs : List α) (acc : List W) (h : Hp) (d : δ), ES I h1 h → I.ok h d → h[n]? = some (.lst acc) → acc.length + xs.length ≤ sizeLine → ∀ p, lcG f xs d = some p →
      ∃ ys d' h', p = (.ok ys, d') ∧ lcLoopM body (fun h2 => sameAt h1 h2 us) n (xs.map en) acc h = .ok (.ref n) h' ∧ h'[n]? = some (.lst (acc ++ ys.map eb)) ∧ ES I h1 h' ∧ I.ok h' d' := by
  intro xs
  induction xs with
  | nil =>
    intro acc h d x o ho hl p e
    cases pure_some (show (pure [] : M δ (List β)) d = some p from e)
    exact ⟨[], d, h, rfl, by rw [List.map_nil, lcLoopM], by simpa using ho, x, o⟩
  | cons a xs ih =>
    intro acc h d x o ho hl p e
    have hl' : acc.length + (xs.length + 1) ≤ sizeLine := by simpa using hl
    have hba := hb a h d x o
    rcases bind_some (show (M.nox (f a) >>= fun y => lcG f xs >>= fun ys => pure (y :: ys)) d = some p from e) with ⟨y, d1, e1, e2⟩ | ⟨v, d1, e1, e2⟩
    · rw [e1] at hba
      obtain ⟨h2, q1, q2, q3⟩ := hba
      have hnl := (List.getElem?_eq_some_iff.mp ho).1
      have h2n : h2[n]? = some (.lst acc) := (q2.old n hnl nF).trans ho
      have h2l := (List.getElem?_eq_some_iff.mp h2n).1
      have same : sameAt h1 h2 us := sameAt_refs fun u hu m em => (x.trans q2).old m (hr u hu m em).1 (hr u hu m em).2
      have x3 : ES I h1 (h2.set n (.lst (acc ++ [eb y]))) := (x.trans q2).set hn
      have o3 : I.ok (h2.set n (.lst (acc ++ [eb y]))) d1 := put_ok q3 nF
      have step : lcLoopM body (fun h2 => sameAt h1 h2 us) n ((a :: xs).map en) acc h = lcLoopM body (fun h2 => sameAt h1 h2 us) n (xs.map en) (acc ++ [eb y]) (h2.set n (.lst (acc ++ [eb y]))) := by
        rw [List.map_cons, lcLoopM, q1]
        simp only
        rw [if_pos ⟨same, h2n⟩, if_pos (by omega)]
      rw [step]
      rcases bind_some e2 with ⟨ys, d2, e3, e4⟩ | ⟨v, d2, e3, e4⟩
      · cases pure_some e4
        obtain ⟨ys', d', h', r1, r2, r3, r4, r5⟩ := ih (acc ++ [eb y]) _ d1 x3 o3 (List.getElem?_set_self h2l) (by simp; omega) _ e3
        cases r1
        exact ⟨y :: ys, _, h', rfl, r2, by rw [r3]; simp, r4, r5⟩
      · obtain ⟨ys', d', h', r1, r2, r3, r4, r5⟩ := ih (acc ++ [eb y]) _ d1 x3 o3 (List.getElem?_set_self h2l) (by simp; omega) _ e3
        cases r1
    · obtain ⟨_, _, z, _⟩ := nox_some e1
      cases z
/-- x = [e for t in ..], a list that is changed later -/
theorem BJ.newLc {ms : M δ (List α)} {f : α → M δ β} {Gx : α → List Slot} {k : List β → M δ κ} (src : EsJ I b call G srcs (SrP kk en) ms) (tg : ∀ x, TgP I b (sups G t.names) t (en x) (Gx x)) (body : ∀ x, AJ I b call (Gx x) e (fun v => .ex (eb v)) (f x))
    (rest : ∀ v, BJ I b call N (sup G i (.ob (.lst (v.map eb)))) ss Fin (k v)) (hi : (decide (i < G.length)) = true := by rfl) :
    BJ I b call N G (.asg (.nm i) (.lc true t kk srcs [] e) :: ss) Fin ((ms >>= lcM f) >>= k) := .mk fun r h d l o => by
  rw [b_cons_, s_asg_, e_lcT_, bind_assoc, M.bind_app]
  have z := src.src r h d l o
  match hm : ms d, z with
  | none, _ => trivial
  | some (.ex v, d'), z =>
    obtain ⟨h', e1, x, k'⟩ := z
    rw [e1]
    exact ⟨r, h', rfl, x.bs l.hb, k'⟩
  | some (.ok xs, d'), z =>
    obtain ⟨us, h1, e1, e2, hr, x1, o1⟩ := z
    rw [e1, R.bind_ok, e2]
    dsimp only
    rw [M.bind_app]
    unfold lcM
    by_cases hl : xs.length ≤ sizeLine
    · rw [if_pos hl]
      cases hg : lcG f xs d' with
      | none => trivial
      | some p =>
        have nF : ¬ I.F h1.length := fun z => by have := I.inb o1 z; omega
        have l1 := l.ext x1
        obtain ⟨ys, d2, h2, rfl, q1, q2, q3, q4⟩ := lcM_loop (I := I) (en := en) (eb := eb) (body := lcB call b r t [] e) (f := f) (Nat.le_refl _) nF hr (fun x hh dd xx oo => by
          obtain ⟨r2, eb2, l2⟩ := tg x _ _ ((l1.ext xx).wiped r t)
          have := body_run (body x) l2 oo
          cases hm : M.nox (f x) dd with
          | none => trivial
          | some p =>
            rw [hm] at this
            obtain ⟨y, d3, rfl, _⟩ := nox_some hm
            obtain ⟨h', z1, z2, z3⟩ := this
            exact ⟨h', by rw [lcB_nil eb2, z1]; rfl, z2, z3⟩) xs [] (h1 ++ [.lst []]) d' new_es (ok_ext o1 fun j hj => List.getElem?_append_left hj) new_get (by simpa using hl) p hg
        rw [q1, ofR_ok, bind_nm, if_pos (by rw [l.len]; exact of_decide_eq_true hi), nx_s, RS.andThen_nxt]
        have l2 : Lay I b (sup G i (.ob (.lst (ys.map eb)))) (r.set i (some (.ref h1.length))) h2 := by
          refine (l1.ext q3).setO (by simpa using q2) l1.hb nF fun j hj ho e => ?_
          have q := l1.sl j
          cases hs : sat G j <;> rw [hs] at q ho <;> first | (cases ho; done) | skip
          · obtain ⟨m, q1, q2, _⟩ := q
            rw [e] at q1
            cases q1
            have := (List.getElem?_eq_some_iff.mp q2).1
            omega
          · obtain ⟨q1, q2, _⟩ := q
            rw [e] at q1
            cases q1
            have := (List.getElem?_eq_some_iff.mp q2).1
            omega
        exact (rest ys _ _ d2 l2 q4).later ((x1.trans q3).bs l.hb)
    · rw [if_neg hl]
      trivial
end
end Ow

/-! Y8: tools for what runs do: pure runs, loops, items. -/
namespace Ow
open PySem SetF
variable {δ α β γ κ σ ρ : Type}
theorem big : 100000 < sizeLine := size_big
theorem okLen_of {n : Nat} (h : n ≤ 100000) : okLen n = true := by unfold okLen; have := size_big; exact decide_eq_true (by omega)
@[simp] theorem cat_of {xs ys : List α} (h : xs.length + ys.length ≤ 100000) : cat xs ys = some (xs ++ ys) := by unfold cat; rw [okLen_of h]; rfl
theorem chk_of {c : Bool} (h : c = true) : (M.chk c : M δ Unit) = pure () := by subst h; rfl
theorem ixL_nat (xs : List α) (n : Nat) : ixL xs (n : Int) = xs[n]? := by
  unfold ixL L2.atI L2.ixN
  by_cases h : n < xs.length
  · rw [if_pos (by omega), if_pos (by omega)]
    simp
  · rw [if_pos (by omega), if_neg (by omega), List.getElem?_eq_none (by omega)]
    rfl
theorem ixL_of {xs : List α} {i : Int} (h0 : 0 ≤ i) : ixL xs i = xs[i.toNat]? := by
  have := ixL_nat xs i.toNat
  rwa [Int.toNat_of_nonneg h0] at this
theorem ixL_some {xs : List α} {i : Int} (h0 : 0 ≤ i) (h1 : i < xs.length) : ∃ v, ixL xs i = some v ∧ v ∈ xs ∧ xs[i.toNat]? = some v := by
  have h : i.toNat < xs.length := by omega
  exact ⟨xs[i.toNat], by rw [ixL_of h0, List.getElem?_eq_getElem h], List.getElem_mem _, List.getElem?_eq_getElem h⟩
/-- an item, or what stands for none -/
def gI [Inhabited α] (xs : List α) (i : Int) : α := xs[i.toNat]?.getD default
theorem ixL_g [Inhabited α] {xs : List α} {i : Int} (h0 : 0 ≤ i) (h1 : i < xs.length) : ixL xs i = some (gI xs i) := by
  have h : i.toNat < xs.length := by omega
  rw [ixL_of h0, gI, List.getElem?_eq_getElem h]
  rfl
theorem gI_mem [Inhabited α] {xs : List α} {i : Int} (h0 : 0 ≤ i) (h1 : i < xs.length) : gI xs i ∈ xs := by
  have h : i.toNat < xs.length := by omega
  rw [gI, List.getElem?_eq_getElem h]
  exact List.getElem_mem _
theorem Ok.ix {xs : List α} {i : Int} {Q : α → Prop} (h0 : 0 ≤ i) (h1 : i < xs.length) (h : ∀ v ∈ xs, xs[i.toNat]? = some v → Q v) : Ok (δ := δ) (M.lift (ixL xs i)) Q := by
  obtain ⟨v, e, hm, hg⟩ := ixL_some h0 h1
  exact .lift e (h v hm hg)
theorem rng_of {n : Int} (h0 : -1000000 ≤ n) (h1 : n ≤ 1000000) : rng n = some (rngN n) := by
  unfold rng inR
  rw [if_pos (decide_eq_true ⟨by omega, by omega⟩)]
theorem rng2_of {a b : Int} (h0 : -1000000 ≤ a) (h1 : a ≤ 1000000) (h2 : -1000000 ≤ b) (h3 : b ≤ 1000000) : rng2 a b = some ((List.range (b - a).toNat).map fun i : Nat => a + (i : Int)) := by
  unfold rng2 inR
  rw [if_pos (by rw [Bool.and_eq_true]; exact ⟨decide_eq_true ⟨by omega, by omega⟩, decide_eq_true ⟨by omega, by omega⟩⟩)]
theorem rngL_of {n : Int} (h0 : -1000000 ≤ n) (h1 : n ≤ 1000000) : rngL n = some (rngN n) := by
  unfold rngL
  rw [if_pos ⟨by omega, by omega⟩]
@[simp] theorem rngN_len (n : Int) : (rngN n).length = n.toNat := by simp [rngN]
theorem mem_rngN {n c : Int} : c ∈ rngN n ↔ 0 ≤ c ∧ c < n := by
  unfold rngN
  rw [List.mem_map]
  constructor
  · rintro ⟨i, hi, rfl⟩
    have := List.mem_range.mp hi
    omega
  · rintro ⟨h0, h1⟩
    exact ⟨c.toNat, List.mem_range.mpr (by omega), Int.toNat_of_nonneg h0⟩
theorem rngN_nodup (n : Int) : (rngN n).Nodup := by
  unfold rngN List.Nodup
  rw [List.pairwise_map]
  exact (List.nodup_range (n := n.toNat)).imp fun h e => h (by omega)
theorem rngN_get {n : Int} {i : Nat} (h : (i : Int) < n) : (rngN n)[i]? = some (i : Int) := by
  unfold rngN
  rw [List.getElem?_map, List.getElem?_range (by omega)]
  rfl
theorem rngN_pair (n : Int) : (rngN n).Pairwise (· < ·) := by
  unfold rngN
  rw [List.pairwise_map]
  exact List.pairwise_lt_range.imp fun h => by omega
/-! ### loops without draws -/
theorem forG_pure {g : α → σ → M δ σ} {f : α → σ → σ} : ∀ {xs : List α} {s : σ}, (∀ x ∈ xs, ∀ s, g x s = pure (f x s)) → Ow.forG g xs s = pure (xs.foldl (fun s x => f x s) s)
  | [], _, _ => rfl
  | x :: xs, s, h => by
    rw [Ow.forG, h x (List.mem_cons_self ..), pure_bind, forG_pure fun y hy => h y (List.mem_cons_of_mem _ hy)]
    rfl
/-- a for whose turns are told by a relation of their places -/
theorem forG_inv {g : α → σ → M δ σ} {J : Nat → σ → Prop} : ∀ (xs : List α) (n : Nat) (s : σ), J n s → (∀ i x, xs[i]? = some x → ∀ s, J (n + i) s → ∃ s', g x s = pure s' ∧ J (n + i + 1) s') → ∃ s', Ow.forG g xs s = pure s' ∧ J (n + xs.length) s'
  | [], n, s, h0, _ => ⟨s, rfl, h0⟩
  | x :: xs, n, s, h0, h => by
    obtain ⟨s1, e1, h1⟩ := h 0 x rfl s h0
    obtain ⟨s2, e2, h2⟩ := forG_inv xs (n + 1) s1 h1 (fun i y hy s hs => by
      have := h (i + 1) y (by simpa using hy) s (by rw [show n + (i + 1) = n + 1 + i by omega]; exact hs)
      rw [show n + (i + 1) + 1 = n + 1 + i + 1 by omega] at this
      exact this)
    refine ⟨s2, by rw [Ow.forG, e1, pure_bind, e2], ?_⟩
    rw [show n + (x :: xs).length = n + 1 + xs.length by simp; omega]
    exact h2
theorem forG_inv0 {g : α → σ → M δ σ} {J : Nat → σ → Prop} {xs : List α} {s : σ} (h0 : J 0 s) (h : ∀ i x, xs[i]? = some x → ∀ s, J i s → ∃ s', g x s = pure s' ∧ J (i + 1) s') : ∃ s', Ow.forG g xs s = pure s' ∧ J xs.length s' := by
  have := forG_inv (J := J) xs 0 s h0 fun i x hx s hs => by rw [Nat.zero_add] at hs ⊢; exact h i x hx s hs
  rwa [Nat.zero_add] at this
/-- the first place where a for returns -/
theorem forX_find {g : α → Unit → M δ (Ctl Unit ρ)} {p : α → Bool} {f : α → ρ} : ∀ {xs : List α}, (∀ x ∈ xs, g x () = pure (if p x then Ctl.rt (f x) else Ctl.nx ())) → Ow.forX g xs () = pure (match xs.find? p with
    | some x => Ctl.rt (f x)
    | none => Ctl.nx ())
  | [], _ => rfl
  | x :: xs, h => by
    rw [Ow.forX, h x (List.mem_cons_self ..), pure_bind]
    cases hp : p x with
    | true => rw [List.find?_cons_of_pos hp]; rfl
    | false =>
      rw [List.find?_cons_of_neg (by rw [hp]; decide)]
      exact forX_find fun y hy => h y (List.mem_cons_of_mem _ hy)
/-- a for with draws that never returns -/
theorem Ok.forX {g : α → σ → M δ (Ctl σ ρ)} {J : Nat → σ → Prop} {P : ρ → Prop} : ∀ (xs : List α) (n : Nat) (s : σ), (∀ i x, xs[i]? = some x → ∀ s, J (n + i) s → Ok (g x s) fun c => match c with
      | .nx s => J (n + i + 1) s
      | .br _ => False
      | .rt v => P v) → J n s → Ok (Ow.forX g xs s) fun c => match c with
      | .nx s => J (n + xs.length) s
      | .br _ => False
      | .rt v => P v
  | [], n, s, _, h0 => .pure h0
  | x :: xs, n, s, h, h0 => by
    refine (h 0 x rfl s h0).bind fun c hc => ?_
    cases c with
    | nx s1 =>
      have := Ok.forX (P := P) xs (n + 1) s1 (fun i y hy s hs => by
        have := h (i + 1) y (by simpa using hy) s (by rw [show n + (i + 1) = n + 1 + i by omega]; exact hs)
        rw [show n + (i + 1) + 1 = n + 1 + i + 1 by omega] at this
        exact this) hc
      rw [show n + (x :: xs).length = n + 1 + xs.length by simp; omega]
      exact this
    | br s1 => exact hc.elim
    | rt v => exact .pure hc
theorem Ok.forX0 {g : α → σ → M δ (Ctl σ ρ)} {J : σ → Prop} {P : ρ → Prop} {xs : List α} {s : σ} (h0 : J s) (h : ∀ x ∈ xs, ∀ s, J s → Ok (g x s) fun c => match c with
      | .nx s => J s
      | .br _ => False
      | .rt v => P v) : Ok (Ow.forX g xs s) fun c => match c with
      | .nx s => J s
      | .br _ => False
      | .rt v => P v :=
  Ok.forX (J := fun _ => J) xs 0 s (fun i x hx s hs => h x (List.mem_of_getElem? hx) s hs) h0
theorem Ok.eq {m : M δ α} {v : α} {Q : α → Prop} (e : m = Pure.pure v) (h : Q v) : Ok m Q := by rw [e]; exact .pure h
/-! ### comprehensions over a range -/
theorem All2.map_eq {xs : List α} {ys : List β} {f : α → β} (h : All2 (fun x y => y = f x) xs ys) : ys = xs.map f := by
  induction h with
  | nil => rfl
  | cons e _ ih => rw [e, ih]; rfl
theorem below_tup' {n : Nat} {ws : List W} : below n (.tup ws) = belowL n ws := by simp only [below]
end Ow

/-! typed defs of k24 (printed by mk.py) -/
namespace Ow
open PySem SetF
/-- picked: 2 parameters, names 0 row 1 columns 2 column -/
def P_picked : List St := [.ret (.pr false .tuple1 [.lc false (.nm 2) .seq [.var 1] [] (.pr false .idx [.var 0, .var 2])])]
/-- projected: 2 parameters, names 0 rows 1 columns 2 row -/
def P_projected (c_picked : Nat) : List St := [.ret (.pr false .tuple1 [.pr false .sset [.lc false (.nm 2) .seq [.var 0] [] (.call c_picked [.var 2, .var 1])]])]
/-- extended: 3 parameters, names 0 found 1 rows 2 part 3 longer 4 values 5 row 6 more 7 column 8 value -/
def P_extended : List St := [.opq, .opq, .opq]
/-- joined: 3 parameters, names 0 width 1 projections 2 parts 3 found 4 rows 5 part 6 values -/
def P_joined (c_picked c_extended : Nat) : List St := [.opq, .opq, .opq]
/-- agree: 3 parameters, names 0 one 1 other 2 columns -/
def P_agree (c_picked : Nat) : List St := [.ret (.pr false .eq [.call c_picked [.var 0, .var 2], .call c_picked [.var 1, .var 2]])]
/-- dealt_row: 4 parameters, names 0 one 1 other 2 left 3 right 4 column -/
def P_dealt_row : List St := [.ret (.pr false .tuple1 [.lc false (.nm 4) .rng1 [.pr false .len [.var 0]] [] (.ite (.or_ (.pr false .mem [.var 4, .var 2]) (.pr false .mem [.var 4, .var 3])) (.pr false .idx [.var 0, .var 4]) (.pr false .idx [.var 1, .var 4]))])]
/-- settles_breach: 3 parameters, names 0 rows 1 left 2 right 3 one 4 other -/
def P_settles_breach (c_agree : Nat) : List St := [.forr false (.nm 3) .seq [.var 0] [3, 4] [.forr false (.nm 4) .seq [.var 0] [4] [.iff (.and_ (.call c_agree [.var 3, .var 4, .var 1]) (.not_ (.call c_agree [.var 3, .var 4, .var 2]))) [.ret (.pr false .tupd [.var 3, .var 4])] []]], .ret (.cst .non)]
/-- deals_breach: 3 parameters, names 0 rows 1 left 2 right 3 known 4 one 5 other -/
def P_deals_breach (c_agree c_dealt_row : Nat) : List St := [.asg (.nm 3) (.pr false .set1 [.var 0]), .forr false (.nm 4) .seq [.var 0] [4, 5] [.forr false (.nm 5) .seq [.var 0] [5] [.iff (.and_ (.call c_agree [.var 4, .var 5, .var 1]) (.pr false .nmem [.call c_dealt_row [.var 4, .var 5, .var 1, .var 2], .var 3])) [.ret (.pr false .tupd [.var 4, .var 5])] []]], .ret (.cst .non)]
/-- joins_breach: 3 parameters, names 0 width 1 rows 2 parts 3 known 4 missing 5 chosen 6 part 7 told 8 least 9 row -/
def P_joins_breach (c_picked c_projected c_joined c_agree : Nat) : List St := [.asg (.nm 3) (.pr false .set1 [.var 1]), .asg (.nm 4) (.lc false (.nm 9) .seq [.call c_joined [.var 0, .lc false (.nm 6) .seq [.var 2] [] (.call c_projected [.var 1, .var 6]), .var 2]] [.pr false .nmem [.var 9, .var 3]] (.var 9)), .iff (.pr false .eq [.pr false .len [.var 4], .cst (.int 0)]) [.ret (.cst .non)] [], .asg (.nm 5) (.pr false .tupd []), .forr false (.nm 6) .seq [.var 2] [7, 8] [.asg (.nm 7) (.pr false .set1 [.lc false (.nm 9) .seq [.var 4] [] (.call c_picked [.var 9, .var 6])]), .asg (.nm 8) (.pr false .idx [.lc false (.nm 9) .seq [.var 1] [.pr false .mem [.call c_picked [.var 9, .var 6], .var 7]] (.var 9), .cst (.int 0)]), .asg (.nm 4) (.lc false (.nm 9) .seq [.var 4] [.call c_agree [.var 9, .var 8, .var 6]] (.var 9)), .asg (.nm 5) (.pr false .add [.var 5, .pr false .tupd [.var 8]])], .ret (.var 5)]
/-- within_breach: 4 parameters, names 0 rows 1 columns 2 others_rows 3 others 4 known 5 row -/
def P_within_breach (c_picked : Nat) : List St := [.asg (.nm 4) (.pr false .set1 [.lc false (.nm 5) .seq [.var 2] [] (.call c_picked [.var 5, .var 3])]), .forr false (.nm 5) .seq [.var 0] [] [.iff (.pr false .nmem [.call c_picked [.var 5, .var 1], .var 4]) [.ret (.pr false .tupd [.var 5])] []], .ret (.cst .non)]
/-- least_breach: 3 parameters, names 0 scheme 1 store 2 dependency 3 kind 4 table 5 rows -/
def P_least_breach (c_settles_breach c_deals_breach c_joins_breach c_within_breach : Nat) : List St := [.asg (.tp [.nm 3, .nm 4]) (.pr false (.sl false true) [.var 2, .cst (.int 2)]), .asg (.nm 5) (.pr false .idx [.var 1, .var 4]), .iff (.pr false .eq [.var 3, .cst (.str "settles")]) [.ret (.call c_settles_breach [.var 5, .pr false .idx [.var 2, .cst (.int 2)], .pr false .idx [.var 2, .cst (.int 3)]])] [], .iff (.pr false .eq [.var 3, .cst (.str "deals")]) [.ret (.call c_deals_breach [.var 5, .pr false .idx [.var 2, .cst (.int 2)], .pr false .idx [.var 2, .cst (.int 3)]])] [], .iff (.pr false .eq [.var 3, .cst (.str "joins")]) [.ret (.call c_joins_breach [.pr false .idx [.var 0, .var 4], .var 5, .pr false .idx [.var 2, .cst (.int 2)]])] [], .ret (.call c_within_breach [.var 5, .pr false .idx [.var 2, .cst (.int 2)], .pr false .idx [.var 1, .pr false .idx [.var 2, .cst (.int 3)]], .pr false .idx [.var 2, .cst (.int 4)]])]
/-- keeps: 3 parameters, names 0 scheme 1 store 2 dependency -/
def P_keeps (c_least_breach : Nat) : List St := [.ret (.pr false .isN [.call c_least_breach [.var 0, .var 1, .var 2]])]
/-- projection: 2 parameters, names 0 rows 1 columns -/
def P_projection (c_projected : Nat) : List St := [.ret (.call c_projected [.var 0, .var 1])]
/-- _law_shuffled: 2 parameters, names 0 draws_here 1 row 2 found 3 item -/
def L_shuffled_2 (c_take : Nat) : List St := [.asg (.nm 2) (.pr true .lstd []), .forr false (.nm 3) .seq [.var 1] [3] [.exp (.mth .insert (.var 2) [.call c_take [.var 0, .pr false .add [.pr false .len [.var 2], .cst (.int 1)]], .var 3])], .ret (.frz (.var 2))]
/-- _law_wide: 2 parameters, names 0 draws_here 1 cell_here 2 many 3 base 4 k -/
def L_wide (c_take : Nat) : List St := [.asg (.nm 2) (.pr false .idx [.pr false .lstd [.cst (.int 2), .cst (.int 2), .cst (.int 3), .cst (.int 5)], .call c_take [.var 0, .cst (.int 4)]]), .asg (.nm 3) (.pr false .idx [.pr false .lstd [.cst (.int 0), .cst (.int 0), .pr false .neg [.cst (.int 2)], .var 1], .call c_take [.var 0, .cst (.int 4)]]), .iff (.pr false .eq [.call c_take [.var 0, .cst (.int 5)], .cst (.int 0)]) [.ret (.pr false (.sl false true) [.pr false .lstd [.cst (.int 0), .cst (.int 11), .cst (.int 1), .cst (.int 111), .var 3], .var 2])] [], .ret (.lc false (.nm 4) .rng1 [.var 2] [] (.pr false .add [.var 3, .var 4]))]
/-- _law_rows: 4 parameters, names 0 draws_here 1 width 2 most 3 wide_here 4 rows_here 5 k 6 column -/
def L_rows (c_take : Nat) : List St := [.asg (.nm 4) (.pr true .lstd []), .forr false (.nm 5) .rng1 [.call c_take [.var 0, .pr false .add [.var 2, .cst (.int 1)]]] [5] [.exp (.mth .append (.var 4) [.pr false .tuple1 [.lc false (.nm 6) .rng1 [.var 1] [] (.pr false .idx [.var 3, .call c_take [.var 0, .pr false .len [.var 3]]])]])], .ret (.pr false .tuple1 [.pr false .sset [.var 4]])]
/-- _law_store: 4 parameters, names 0 draws_here 1 scheme_here 2 most 3 wide_here 4 width -/
def L_store (c_rows : Nat) : List St := [.ret (.pr false .tuple1 [.lc false (.nm 4) .seq [.var 1] [] (.call c_rows [.var 0, .var 4, .var 2, .var 3])])]
/-- _law_needed: 5 parameters, names 0 draws_here 1 store_here 2 dependency_here 3 widths 4 wide_here 5 rows_here 6 row 7 made 8 k 9 other 10 column -/
def L_needed (c_take : Nat) : List St := [.asg (.nm 5) (.pr true .lstd []), .forr false (.nm 6) .seq [.pr false .idx [.var 1, .pr false .idx [.var 2, .cst (.int 1)]]] [6, 7, 8] [.asg (.nm 7) (.lc true (.nm 10) .rng1 [.pr false .idx [.var 3, .pr false .idx [.var 2, .cst (.int 3)]]] [] (.pr false .idx [.var 4, .call c_take [.var 0, .pr false .len [.var 4]]])), .forr false (.nm 8) .rng1 [.pr false .len [.pr false .idx [.var 2, .cst (.int 2)]]] [8] [.seti (.var 7) (.pr false .idx [.pr false .idx [.var 2, .cst (.int 4)], .var 8]) (.pr false .idx [.var 6, .pr false .idx [.pr false .idx [.var 2, .cst (.int 2)], .var 8]])], .exp (.mth .append (.var 5) [.pr false .tuple1 [.var 7]])], .asg (.nm 9) (.pr false .idx [.var 2, .cst (.int 3)]), .ret (.pr false .add [.pr false .add [.pr false (.sl false true) [.var 1, .var 9], .pr false .tupd [.pr false .tuple1 [.pr false .sset [.pr false .add [.pr false .list1 [.pr false .idx [.var 1, .var 9]], .var 5]]]]], .pr false (.sl true false) [.var 1, .pr false .add [.var 9, .cst (.int 1)]]])]
/-- _law_some: 3 parameters, names 0 draws_here 1 dependency_here 2 keep 3 order_here 4 columns_here 5 k -/
def L_some_2 (c_take c_shuffled : Nat) : List St := [.asg (.nm 3) (.call c_shuffled [.var 0, .lc false (.nm 5) .rng1 [.pr false .len [.pr false .idx [.var 1, .cst (.int 2)]]] [] (.var 5)]), .iff (.not_ (.var 2)) [.asg (.nm 3) (.pr false (.sl false true) [.var 3, .pr false .add [.cst (.int 1), .call c_take [.var 0, .pr false .len [.var 3]]]])] [], .asg (.nm 4) (.pr false .tuple1 [.lc false (.nm 5) .seq [.var 3] [] (.pr false .idx [.pr false .idx [.var 1, .cst (.int 2)], .var 5])]), .ret (.pr false .tupd [.cst (.str "within"), .pr false .idx [.var 1, .cst (.int 1)], .var 4, .pr false .idx [.var 1, .cst (.int 3)], .pr false .tuple1 [.lc false (.nm 5) .seq [.var 3] [] (.pr false .idx [.pr false .idx [.var 1, .cst (.int 4)], .var 5])]])]
/-- _law_ascending: 1 parameters, names 0 dependency_here 1 pairs 2 k 3 pair -/
def L_ascending : List St := [.asg (.nm 1) (.pr false .sorted1 [.lc false (.nm 2) .rng1 [.pr false .len [.pr false .idx [.var 0, .cst (.int 2)]]] [] (.pr false .tupd [.pr false .idx [.pr false .idx [.var 0, .cst (.int 2)], .var 2], .pr false .idx [.pr false .idx [.var 0, .cst (.int 4)], .var 2]])]), .ret (.pr false .tupd [.cst (.str "within"), .pr false .idx [.var 0, .cst (.int 1)], .pr false .tuple1 [.lc false (.nm 3) .seq [.var 1] [] (.pr false .idx [.var 3, .cst (.int 0)])], .pr false .idx [.var 0, .cst (.int 3)], .pr false .tuple1 [.lc false (.nm 3) .seq [.var 1] [] (.pr false .idx [.var 3, .cst (.int 1)])]])]
/-- law: 1 parameters, names 0 script 1 draws_here 2 cell_here 3 scheme_here 4 wide_here 5 store_here 6 first 7 many 8 there 9 second 10 third 11 dependency_here 12 told 13 plain 14 values 15 table 16 row 17 column 18 one -/
def law_k24 (c_keeps c_projection c_draws c_take c_cell c_shuffled c_inclusion c_wide c_store c_needed c_some c_ascending : Nat) : List St := [.asg (.nm 1) (.call c_draws [.var 0, .cst (.int 300)]), .asg (.nm 2) (.call c_cell [.var 0, .var 1]), .asg (.nm 3) (.pr false .tuple1 [.lc false (.nm 15) .rng1 [.cst (.int 3)] [] (.pr false .add [.cst (.int 1), .call c_take [.var 1, .cst (.int 4)]])]), .asg (.nm 4) (.call c_wide [.var 1, .var 2]), .asg (.nm 5) (.call c_store [.var 1, .var 3, .cst (.int 5), .var 4]), .asg (.nm 6) (.call c_inclusion [.var 1, .var 3, .pr false .lstd [.cst (.int 0), .cst (.int 1)]]), .asg (.nm 7) (.pr false .min2 [.pr false .len [.pr false .idx [.var 6, .cst (.int 4)]], .pr false .idx [.var 3, .cst (.int 2)]]), .asg (.nm 8) (.pr false (.sl false true) [.call c_shuffled [.var 1, .lc false (.nm 17) .rng1 [.pr false .idx [.var 3, .cst (.int 2)]] [] (.var 17)], .var 7]), .asg (.nm 9) (.pr false .tupd [.cst (.str "within"), .cst (.int 1), .pr false (.sl false true) [.pr false .idx [.var 6, .cst (.int 4)], .var 7], .cst (.int 2), .pr false .tuple1 [.var 8]]), .asg (.nm 10) (.pr false .tupd [.cst (.str "within"), .cst (.int 0), .pr false (.sl false true) [.pr false .idx [.var 6, .cst (.int 2)], .var 7], .cst (.int 2), .pr false .tuple1 [.var 8]]), .iff (.pr false .eq [.call c_take [.var 1, .cst (.int 2)], .cst (.int 0)]) [.asg (.nm 5) (.call c_needed [.var 1, .call c_needed [.var 1, .var 5, .var 6, .var 3, .var 4], .var 9, .var 3, .var 4])] [], .forr false (.nm 11) .seq [.pr false .lstd [.var 6, .var 9, .var 10]] [11, 12, 13, 14] [.asg (.nm 12) (.call c_keeps [.var 3, .var 5, .var 11]), .asg (.nm 13) (.call c_ascending [.var 11]), .asg (.nm 14) (.lc false (.nm 16) .seq [.pr false .idx [.var 5, .pr false .idx [.var 13, .cst (.int 3)]]] [] (.pr false .tuple1 [.lc false (.nm 17) .seq [.pr false .idx [.var 13, .cst (.int 4)]] [] (.pr false .idx [.var 16, .var 17])])), .iff (.pr false .ne [.var 12, .pr false .nmem [.cst (.bl false), .lc false (.nm 18) .seq [.call c_projection [.pr false .idx [.var 5, .pr false .idx [.var 13, .cst (.int 1)]], .pr false .idx [.var 13, .cst (.int 2)]]] [] (.pr false .mem [.var 18, .var 14])]]) [.ret (.cst (.bl false))] [], .iff (.or_ (.pr false .ne [.call c_keeps [.var 3, .var 5, .var 13], .var 12]) (.pr false .ne [.call c_keeps [.var 3, .var 5, .call c_some [.var 1, .var 11, .cst (.bl true)]], .var 12])) [.ret (.cst (.bl false))] [], .iff (.and_ (.var 12) (.not_ (.call c_keeps [.var 3, .var 5, .call c_some [.var 1, .var 11, .cst (.bl false)]]))) [.ret (.cst (.bl false))] []], .iff (.and_ (.call c_keeps [.var 3, .var 5, .var 6]) (.call c_keeps [.var 3, .var 5, .var 9])) [.ret (.pr false .isB [.call c_keeps [.var 3, .var 5, .var 10], .cst (.bl true)])] [], .ret (.cst (.bl true))]
def S_P_picked {δ : Type} (row_ : List Int) (columns : List Int) : M δ (List Int) := (((pure columns) >>= lcM fun x1 => (M.lift (ixL row_ x1))) >>= fun x2 => (pure x2))
theorem c_P_picked {T : List Def} {N d k : Nat} {δ : Type} {I : DI δ}  (i : Is T k 2 3 P_picked) (row_ : List Int) (columns : List Int) : CS I (evC T N (d + 1)) k [.ex (row row_), .ex (row columns)] (fun v => .ex (row v)) (S_P_picked row_ columns) := by
  unfold S_P_picked
  exact CS.df i rfl (fun b => (BJ.retE (en := row) (AJ.pr (EsJ.consA (AJ.lo (AJ.lc (en := W.int) (eb := W.int) (EsJ.consV (VJ.lo (VJ.var rfl)) (EsJ.nil (S.tot (en := W.int) (it_T (e := W.int) (xs := columns))))) (fun x1 => (TgP.nm (i := 2) rfl)) (fun x1 => (AJ.pr (EsJ.consV (VJ.lo (VJ.var rfl)) (EsJ.consV (VJ.lo (VJ.var rfl)) (EsJ.nil (P.of (en := W.int) fun _ h => (pf_ixT (e := W.int) (xs := row_)) h)))))))) fun x2 => (EsJ.nil (P.tot (en := row) ((pf_tupL (e := W.int) (xs := x2))))))) fun _ => rfl)) (fzT fzI)
def S_P_projected {δ : Type} (rows : List (List Int)) (columns : List Int) : M δ (List (List Int)) := ((((pure rows) >>= lcM fun x1 => (S_P_picked x1 columns)) >>= fun x2 => (M.lift (ssetR x2))) >>= fun x3 => (pure x3))
theorem c_P_projected {T : List Def} {N d k : Nat} {c_picked : Nat} {δ : Type} {I : DI δ} (h_picked : ∀ (y0 : List Int) (y1 : List Int), CS I (evC T N d) c_picked [.ex (row y0), .ex (row y1)] (fun v => .ex (row v)) (S_P_picked y0 y1)) (i : Is T k 2 3 (P_projected c_picked)) (rows : List (List Int)) (columns : List Int) : CS I (evC T N (d + 1)) k [.ex ((eT row) rows), .ex (row columns)] (fun v => .ex ((eT row) v)) (S_P_projected rows columns) := by
  unfold S_P_projected
  exact CS.df i rfl (fun b => (BJ.retE (en := (eT row)) (AJ.pr (EsJ.consA (AJ.lo (AJ.pr (EsJ.consA (AJ.lo (AJ.lc (en := row) (eb := row) (EsJ.consV (VJ.lo (VJ.var rfl)) (EsJ.nil (S.tot (en := row) (it_T (e := row) (xs := rows))))) (fun x1 => (TgP.nm (i := 2) rfl)) (fun x1 => (AJ.cal (pk := fun v => .ex (row v)) (EsJ.consV (VJ.var rfl) (EsJ.consV (VJ.var rfl) (EsJ.nil (h_picked x1 columns)))))))) fun x2 => (EsJ.nil (P.of (en := (eL row)) fun _ h => pf_ssetRL h))))) fun x3 => (EsJ.nil (P.tot (en := (eT row)) ((pf_tupL (e := row) (xs := x3))))))) fun _ => rfl)) (fzT (fzT fzI))
def S_P_extended {δ : Type} (z0 : List W) (z1 : List (List Int)) (z2 : List Int) : M δ (List W) := M.fail
theorem c_P_extended {T : List Def} {N d k : Nat} {δ : Type} {I : DI δ}  (i : Is T k 3 9 P_extended) (z0 : List W) (z1 : List (List Int)) (z2 : List Int) : CS I (evC T N (d + 1)) k [.lo ((eL eW) z0), .ex ((eT row) z1), .ex (row z2)] (fun v => .ex ((eL eW) v)) (S_P_extended z0 z1 z2) :=
  .mk fun b h d us o a => trivial
def S_P_joined {δ : Type} (z0 : Int) (z1 : List (List (List Int))) (z2 : List (List Int)) : M δ (List (List Int)) := M.fail
theorem c_P_joined {T : List Def} {N d k : Nat} {c_picked : Nat} {c_extended : Nat} {δ : Type} {I : DI δ}  (i : Is T k 3 7 (P_joined c_picked c_extended)) (z0 : Int) (z1 : List (List (List Int))) (z2 : List (List Int)) : CS I (evC T N (d + 1)) k [.ex (W.int z0), .lo ((eL (eT row)) z1), .ex ((eT row) z2)] (fun v => .ex ((eT row) v)) (S_P_joined z0 z1 z2) :=
  .mk fun b h d us o a => trivial
def S_P_agree {δ : Type} (one : List Int) (other : List Int) (columns : List Int) : M δ Bool := ((S_P_picked one columns) >>= fun x1 => ((S_P_picked other columns) >>= fun x2 => (pure ((decide (x1 = x2))))))
theorem c_P_agree {T : List Def} {N d k : Nat} {c_picked : Nat} {δ : Type} {I : DI δ} (h_picked : ∀ (y0 : List Int) (y1 : List Int), CS I (evC T N d) c_picked [.ex (row y0), .ex (row y1)] (fun v => .ex (row v)) (S_P_picked y0 y1)) (i : Is T k 3 3 (P_agree c_picked)) (one : List Int) (other : List Int) (columns : List Int) : CS I (evC T N (d + 1)) k [.ex (row one), .ex (row other), .ex (row columns)] (fun v => .ex (W.bl v)) (S_P_agree one other columns) := by
  unfold S_P_agree
  exact CS.df i rfl (fun b => (BJ.retE (en := W.bl) (AJ.pr (EsJ.consA (AJ.lo (AJ.cal (pk := fun v => .ex (row v)) (EsJ.consV (VJ.var rfl) (EsJ.consV (VJ.var rfl) (EsJ.nil (h_picked one columns)))))) fun x1 => (EsJ.consA (AJ.lo (AJ.cal (pk := fun v => .ex (row v)) (EsJ.consV (VJ.var rfl) (EsJ.consV (VJ.var rfl) (EsJ.nil (h_picked other columns)))))) fun x2 => (EsJ.nil (P.tot (en := W.bl) ((pf_eqT (xs := x1) (ys := x2) Dt.int rfl))))))) fun _ => rfl)) fzB
def S_P_dealt_row {δ : Type} (one : List Int) (other : List Int) (left : List Int) (right : List Int) : M δ (List Int) := (((M.lift (rng ((one.length : Int)))) >>= lcM fun x1 => (if (((decide (x1 ∈ left))) || ((decide (x1 ∈ right)))) then (M.lift (ixL one x1)) else (M.lift (ixL other x1)))) >>= fun x2 => (pure x2))
theorem c_P_dealt_row {T : List Def} {N d k : Nat} {δ : Type} {I : DI δ}  (i : Is T k 4 5 P_dealt_row) (one : List Int) (other : List Int) (left : List Int) (right : List Int) : CS I (evC T N (d + 1)) k [.ex (row one), .ex (row other), .ex (row left), .ex (row right)] (fun v => .ex (row v)) (S_P_dealt_row one other left right) := by
  unfold S_P_dealt_row
  exact CS.df i rfl (fun b => (BJ.retE (en := row) (AJ.pr (EsJ.consA (AJ.lo (AJ.lc (en := W.int) (eb := W.int) (EsJ.consV (VJ.lo (V.pr (VsJ.cons (VJ.lo (VJ.var rfl)) VsJ.nil) ((pf_lenT (e := W.int) (xs := one))))) (EsJ.nil (S.of (en := W.int) fun _ h => it_rngI h))) (fun x1 => (TgP.nm (i := 4) rfl)) (fun x1 => (AJ.iteV (VJ.or (V.pr (VsJ.cons (VJ.lo (VJ.var rfl)) (VsJ.cons (VJ.lo (VJ.var rfl)) VsJ.nil)) pf_memIT) fun _ => (V.pr (VsJ.cons (VJ.lo (VJ.var rfl)) (VsJ.cons (VJ.lo (VJ.var rfl)) VsJ.nil)) pf_memIT)) (fun _ => (AJ.pr (EsJ.consV (VJ.lo (VJ.var rfl)) (EsJ.consV (VJ.lo (VJ.var rfl)) (EsJ.nil (P.of (en := W.int) fun _ h => (pf_ixT (e := W.int) (xs := one)) h)))))) fun _ => (AJ.pr (EsJ.consV (VJ.lo (VJ.var rfl)) (EsJ.consV (VJ.lo (VJ.var rfl)) (EsJ.nil (P.of (en := W.int) fun _ h => (pf_ixT (e := W.int) (xs := other)) h))))))))) fun x2 => (EsJ.nil (P.tot (en := row) ((pf_tupL (e := W.int) (xs := x2))))))) fun _ => rfl)) (fzT fzI)
def S_P_settles_breach {δ : Type} (rows : List (List Int)) (left : List Int) (right : List Int) : M δ (Option (List (List Int))) := ((pure rows) >>= fun xs => Ow.forX (σ := Unit) (ρ := Option (List (List Int))) (fun x2 s1 => ((pure rows) >>= fun xs => Ow.forX (σ := Unit) (ρ := Option (List (List Int))) (fun x4 s3 => (((S_P_agree x2 x4 left) >>= fun c => if c then ((S_P_agree x2 x4 right) >>= fun c => pure (!c)) else pure false) >>= fun c => if c then ((pure (some (([x2, x4] : List (List Int))))) >>= fun v => pure (Ctl.rt v)) else (pure ((Ctl.nx (())))))) xs (()) >>= fun c => c.go (fun (s3 : Unit) => (pure ((Ctl.nx (()))))) fun v => pure (Ctl.rt v))) xs (()) >>= fun c => c.go (fun (s1 : Unit) => (pure (none : Option (List (List Int))))) fun v => pure v)
theorem c_P_settles_breach {T : List Def} {N d k : Nat} {c_agree : Nat} {δ : Type} {I : DI δ} (h_agree : ∀ (y0 : List Int) (y1 : List Int) (y2 : List Int), CS I (evC T N d) c_agree [.ex (row y0), .ex (row y1), .ex (row y2)] (fun v => .ex (W.bl v)) (S_P_agree y0 y1 y2)) (i : Is T k 3 5 (P_settles_breach c_agree)) (rows : List (List Int)) (left : List Int) (right : List Int) : CS I (evC T N (d + 1)) k [.ex ((eT row) rows), .ex (row left), .ex (row right)] (fun v => .ex ((eO (eT row)) v)) (S_P_settles_breach rows left right) := by
  unfold S_P_settles_breach
  exact CS.df i rfl (fun b => (BJ.forX (σ := Unit) (ρ := Option (List (List Int))) (en := row) (er := (eO (eT row))) (cr := fun v => v) (s0 := ()) (Gs := fun (s1 : Unit) => [.kn ((eT row) rows), .kn (row left), .kn (row right), .no, .no]) (EsJ.consV (VJ.lb (VJ.var rfl)) (EsJ.nil (B.tot (en := row) (it_T (e := row) (xs := rows))))) (GLe.c (.same _) (GLe.c (.same _) (GLe.c (.same _) (GLe.c (.no _) (GLe.c (.no _) GLe.e))))) (fun _ => rfl) (fun x2 s1 => (TgP.nm (i := 3) rfl)) (fun x2 s1 => (BJ.forX (σ := Unit) (ρ := Option (List (List Int))) (en := row) (er := (eO (eT row))) (cr := fun v => Ctl.rt v) (s0 := ()) (Gs := fun (s3 : Unit) => [.kn ((eT row) rows), .kn (row left), .kn (row right), .kn (row x2), .no]) (EsJ.consV (VJ.lb (VJ.var rfl)) (EsJ.nil (B.tot (en := row) (it_T (e := row) (xs := rows))))) (GLe.c (.same _) (GLe.c (.same _) (GLe.c (.same _) (GLe.c (.same _) (GLe.c (.no _) GLe.e))))) (fun _ => rfl) (fun x4 s3 => (TgP.nm (i := 4) rfl)) (fun x4 s3 => (BJ.iffA (AJ.andA (AJ.cal (pk := fun v => .ex (W.bl v)) (EsJ.consV (VJ.var rfl) (EsJ.consV (VJ.var rfl) (EsJ.consV (VJ.var rfl) (EsJ.nil (h_agree x2 x4 left)))))) (AJ.not (AJ.cal (pk := fun v => .ex (W.bl v)) (EsJ.consV (VJ.var rfl) (EsJ.consV (VJ.var rfl) (EsJ.consV (VJ.var rfl) (EsJ.nil (h_agree x2 x4 right)))))))) (BJ.ret (en := (eO (eT row))) (cv := fun v => Ctl.rt v) (AJ.ofV (pk := fun v => .ex ((eO (eT row)) v)) (V.tupd (VsJ.cons (VJ.var rfl) (VsJ.cons (VJ.var rfl) VsJ.nil)))) fun _ => rfl) (BJ.nil (GLe.c (.same _) (GLe.c (.same _) (GLe.c (.same _) (GLe.c (.same _) (GLe.c (.no _) GLe.e)))))))) (fun s3 => (BJ.nil (GLe.c (.same _) (GLe.c (.same _) (GLe.c (.same _) (GLe.c (.no _) (GLe.c (.no _) GLe.e))))))) fun _ => rfl)) (fun s1 => (BJ.retE (en := (eO (eT row))) (AJ.ofV (pk := fun v => .ex ((eO (eT row)) v)) VJ.cst) fun _ => rfl)) fun _ => rfl)) (fzO (fzT (fzT fzI)))
def S_P_deals_breach {δ : Type} (rows : List (List Int)) (left : List Int) (right : List Int) : M δ (Option (List (List Int))) := ((M.lift (setR rows)) >>= fun known1 => ((pure rows) >>= fun xs => Ow.forX (σ := Unit) (ρ := Option (List (List Int))) (fun x3 s2 => ((pure rows) >>= fun xs => Ow.forX (σ := Unit) (ρ := Option (List (List Int))) (fun x5 s4 => (((S_P_agree x3 x5 left) >>= fun c => if c then ((S_P_dealt_row x3 x5 left right) >>= fun x6 => (pure ((!decide (x6 ∈ known1))))) else pure false) >>= fun c => if c then ((pure (some (([x3, x5] : List (List Int))))) >>= fun v => pure (Ctl.rt v)) else (pure ((Ctl.nx (())))))) xs (()) >>= fun c => c.go (fun (s4 : Unit) => (pure ((Ctl.nx (()))))) fun v => pure (Ctl.rt v))) xs (()) >>= fun c => c.go (fun (s2 : Unit) => (pure (none : Option (List (List Int))))) fun v => pure v))
theorem c_P_deals_breach {T : List Def} {N d k : Nat} {c_agree : Nat} {c_dealt_row : Nat} {δ : Type} {I : DI δ} (h_agree : ∀ (y0 : List Int) (y1 : List Int) (y2 : List Int), CS I (evC T N d) c_agree [.ex (row y0), .ex (row y1), .ex (row y2)] (fun v => .ex (W.bl v)) (S_P_agree y0 y1 y2)) (h_dealt_row : ∀ (y0 : List Int) (y1 : List Int) (y2 : List Int) (y3 : List Int), CS I (evC T N d) c_dealt_row [.ex (row y0), .ex (row y1), .ex (row y2), .ex (row y3)] (fun v => .ex (row v)) (S_P_dealt_row y0 y1 y2 y3)) (i : Is T k 3 6 (P_deals_breach c_agree c_dealt_row)) (rows : List (List Int)) (left : List Int) (right : List Int) : CS I (evC T N (d + 1)) k [.ex ((eT row) rows), .ex (row left), .ex (row right)] (fun v => .ex ((eO (eT row)) v)) (S_P_deals_breach rows left right) := by
  unfold S_P_deals_breach
  exact CS.df i rfl (fun b => (BJ.asg (i := 3) (en := eSet) (AJ.pr (EsJ.consV (VJ.lo (VJ.var rfl)) (EsJ.nil (P.of (en := eSet) fun _ h => pf_setRT h)))) fun known1 => (BJ.forX (σ := Unit) (ρ := Option (List (List Int))) (en := row) (er := (eO (eT row))) (cr := fun v => v) (s0 := ()) (Gs := fun (s2 : Unit) => [.kn ((eT row) rows), .kn (row left), .kn (row right), .kn (eSet known1), .no, .no]) (EsJ.consV (VJ.lb (VJ.var rfl)) (EsJ.nil (B.tot (en := row) (it_T (e := row) (xs := rows))))) (GLe.c (.same _) (GLe.c (.same _) (GLe.c (.same _) (GLe.c (.same _) (GLe.c (.no _) (GLe.c (.no _) GLe.e)))))) (fun _ => rfl) (fun x3 s2 => (TgP.nm (i := 4) rfl)) (fun x3 s2 => (BJ.forX (σ := Unit) (ρ := Option (List (List Int))) (en := row) (er := (eO (eT row))) (cr := fun v => Ctl.rt v) (s0 := ()) (Gs := fun (s4 : Unit) => [.kn ((eT row) rows), .kn (row left), .kn (row right), .kn (eSet known1), .kn (row x3), .no]) (EsJ.consV (VJ.lb (VJ.var rfl)) (EsJ.nil (B.tot (en := row) (it_T (e := row) (xs := rows))))) (GLe.c (.same _) (GLe.c (.same _) (GLe.c (.same _) (GLe.c (.same _) (GLe.c (.same _) (GLe.c (.no _) GLe.e)))))) (fun _ => rfl) (fun x5 s4 => (TgP.nm (i := 5) rfl)) (fun x5 s4 => (BJ.iffA (AJ.andA (AJ.cal (pk := fun v => .ex (W.bl v)) (EsJ.consV (VJ.var rfl) (EsJ.consV (VJ.var rfl) (EsJ.consV (VJ.var rfl) (EsJ.nil (h_agree x3 x5 left)))))) (AJ.pr (EsJ.consA (AJ.lo (AJ.cal (pk := fun v => .ex (row v)) (EsJ.consV (VJ.var rfl) (EsJ.consV (VJ.var rfl) (EsJ.consV (VJ.var rfl) (EsJ.consV (VJ.var rfl) (EsJ.nil (h_dealt_row x3 x5 left right)))))))) fun x6 => (EsJ.consV (VJ.lo (VJ.var rfl)) (EsJ.nil (P.tot (en := W.bl) ((pf_nmem pf_memS)))))))) (BJ.ret (en := (eO (eT row))) (cv := fun v => Ctl.rt v) (AJ.ofV (pk := fun v => .ex ((eO (eT row)) v)) (V.tupd (VsJ.cons (VJ.var rfl) (VsJ.cons (VJ.var rfl) VsJ.nil)))) fun _ => rfl) (BJ.nil (GLe.c (.same _) (GLe.c (.same _) (GLe.c (.same _) (GLe.c (.same _) (GLe.c (.same _) (GLe.c (.no _) GLe.e))))))))) (fun s4 => (BJ.nil (GLe.c (.same _) (GLe.c (.same _) (GLe.c (.same _) (GLe.c (.same _) (GLe.c (.no _) (GLe.c (.no _) GLe.e)))))))) fun _ => rfl)) (fun s2 => (BJ.retE (en := (eO (eT row))) (AJ.ofV (pk := fun v => .ex ((eO (eT row)) v)) VJ.cst) fun _ => rfl)) fun _ => rfl))) (fzO (fzT (fzT fzI)))
def S_P_joins_breach {δ : Type} (width : Int) (rows : List (List Int)) (parts : List (List Int)) : M δ (Option (List (List Int))) := ((M.lift (setR rows)) >>= fun known1 => ((((((pure parts) >>= lcM fun x2 => (S_P_projected rows x2)) >>= fun x3 => (S_P_joined width x3 parts)) >>= fun x4 => (pure x4)) >>= Ow.lcT (fun x5 => (pure (!decide (x5 ∈ known1)))) fun x5 => (pure x5)) >>= fun missing6 => (if (decide (((missing6.length : Int)) = 0)) then (pure (none : Option (List (List Int)))) else ((pure ([] : List (List Int))) >>= fun chosen7 => ((pure parts) >>= fun xs => Ow.forG (σ := (List (List Int)) × (List (List Int))) (fun x9 s8 => ((((pure s8.1) >>= lcM fun x10 => (S_P_picked x10 x9)) >>= fun x11 => (M.lift (setR x11))) >>= fun told12 => ((((pure rows) >>= Ow.lcT (fun x13 => ((S_P_picked x13 x9) >>= fun x14 => (pure ((decide (x14 ∈ told12)))))) fun x13 => (pure x13)) >>= fun x15 => (M.lift (ixL x15 0))) >>= fun least16 => (((pure s8.1) >>= Ow.lcT (fun x17 => (S_P_agree x17 least16 x9)) fun x17 => (pure x17)) >>= fun missing18 => ((M.lift (cat s8.2 (([least16] : List (List Int))))) >>= fun chosen19 => (pure ((missing18, chosen19)))))))) xs ((missing6, chosen7)) >>= fun (s8 : (List (List Int)) × (List (List Int))) => (pure (some s8.2)))))))
theorem c_P_joins_breach {T : List Def} {N d k : Nat} {c_picked : Nat} {c_projected : Nat} {c_joined : Nat} {c_agree : Nat} {δ : Type} {I : DI δ} (h_projected : ∀ (y0 : List (List Int)) (y1 : List Int), CS I (evC T N d) c_projected [.ex ((eT row) y0), .ex (row y1)] (fun v => .ex ((eT row) v)) (S_P_projected y0 y1)) (h_joined : ∀ (y0 : Int) (y1 : List (List (List Int))) (y2 : List (List Int)), CS I (evC T N d) c_joined [.ex (W.int y0), .lo ((eL (eT row)) y1), .ex ((eT row) y2)] (fun v => .ex ((eT row) v)) (S_P_joined y0 y1 y2)) (h_picked : ∀ (y0 : List Int) (y1 : List Int), CS I (evC T N d) c_picked [.ex (row y0), .ex (row y1)] (fun v => .ex (row v)) (S_P_picked y0 y1)) (h_agree : ∀ (y0 : List Int) (y1 : List Int) (y2 : List Int), CS I (evC T N d) c_agree [.ex (row y0), .ex (row y1), .ex (row y2)] (fun v => .ex (W.bl v)) (S_P_agree y0 y1 y2)) (i : Is T k 3 10 (P_joins_breach c_picked c_projected c_joined c_agree)) (width : Int) (rows : List (List Int)) (parts : List (List Int)) : CS I (evC T N (d + 1)) k [.ex (W.int width), .ex ((eT row) rows), .ex ((eT row) parts)] (fun v => .ex ((eO (eT row)) v)) (S_P_joins_breach width rows parts) := by
  unfold S_P_joins_breach
  exact CS.df i rfl (fun b => (BJ.asg (i := 3) (en := eSet) (AJ.pr (EsJ.consV (VJ.lo (VJ.var rfl)) (EsJ.nil (P.of (en := eSet) fun _ h => pf_setRT h)))) fun known1 => (BJ.asg (i := 4) (en := (eL row)) (AJ.lcT (en := row) (eb := row) (EsJ.consA (AJ.lo (AJ.cal (pk := fun v => .ex ((eT row) v)) (EsJ.consV (VJ.var rfl) (EsJ.consA (AJ.lo (AJ.lc (en := row) (eb := (eT row)) (EsJ.consV (VJ.lo (VJ.var rfl)) (EsJ.nil (S.tot (en := row) (it_T (e := row) (xs := parts))))) (fun x2 => (TgP.nm (i := 6) rfl)) (fun x2 => (AJ.cal (pk := fun v => .ex ((eT row) v)) (EsJ.consV (VJ.var rfl) (EsJ.consV (VJ.var rfl) (EsJ.nil (h_projected rows x2)))))))) fun x3 => (EsJ.consV (VJ.var rfl) (EsJ.nil (h_joined width x3 parts))))))) fun x4 => (EsJ.nil (S.tot (en := row) (it_T (e := row) (xs := x4))))) (fun x5 => (TgP.nm (i := 9) rfl)) (fun x5 => (AJ.ofV (pk := fun v => .ex (W.bl v)) (V.pr (VsJ.cons (VJ.lo (VJ.var rfl)) (VsJ.cons (VJ.lo (VJ.var rfl)) VsJ.nil)) ((pf_nmem pf_memS))))) (fun x5 => (AJ.ofV (pk := fun v => .ex (row v)) (VJ.var rfl)))) fun missing6 => (BJ.iffV (V.pr (VsJ.cons (VJ.lo (V.pr (VsJ.cons (VJ.lo (VJ.var rfl)) VsJ.nil) ((pf_lenL (e := row) (xs := missing6))))) (VsJ.cons (VJ.lo VJ.cst) VsJ.nil)) pf_eqI) (BJ.retE (en := (eO (eT row))) (AJ.ofV (pk := fun v => .ex ((eO (eT row)) v)) VJ.cst) fun _ => rfl) (BJ.asg (i := 5) (en := (eT row)) (AJ.ofV (pk := fun v => .ex ((eT row) v)) (V.tupd VsJ.nil)) fun chosen7 => (BJ.forG (σ := (List (List Int)) × (List (List Int))) (en := row) (s0 := (missing6, chosen7)) (Gs := fun (s8 : (List (List Int)) × (List (List Int))) => [.kn (W.int width), .kn ((eT row) rows), .kn ((eT row) parts), .kn (eSet known1), .kn ((eL row) s8.1), .kn ((eT row) s8.2), .no, .no, .no, .no]) (EsJ.consV (VJ.lb (VJ.var rfl)) (EsJ.nil (B.tot (en := row) (it_T (e := row) (xs := parts))))) (GLe.c (.same _) (GLe.c (.same _) (GLe.c (.same _) (GLe.c (.same _) (GLe.c (.same _) (GLe.c (.same _) (GLe.c (.no _) (GLe.c (.no _) (GLe.c (.no _) (GLe.c (.no _) GLe.e)))))))))) (fun _ => rfl) (fun x9 s8 => (TgP.nm (i := 6) rfl)) (fun x9 s8 => (BJ.asg (i := 7) (en := eSet) (AJ.pr (EsJ.consA (AJ.lo (AJ.lc (en := row) (eb := row) (EsJ.consV (VJ.lo (VJ.var rfl)) (EsJ.nil (S.tot (en := row) (it_L (e := row) (xs := s8.1))))) (fun x10 => (TgP.nm (i := 9) rfl)) (fun x10 => (AJ.cal (pk := fun v => .ex (row v)) (EsJ.consV (VJ.var rfl) (EsJ.consV (VJ.var rfl) (EsJ.nil (h_picked x10 x9)))))))) fun x11 => (EsJ.nil (P.of (en := eSet) fun _ h => pf_setRL h)))) fun told12 => (BJ.asg (i := 8) (en := row) (AJ.pr (EsJ.consA (AJ.lo (AJ.lcT (en := row) (eb := row) (EsJ.consV (VJ.lo (VJ.var rfl)) (EsJ.nil (S.tot (en := row) (it_T (e := row) (xs := rows))))) (fun x13 => (TgP.nm (i := 9) rfl)) (fun x13 => (AJ.pr (EsJ.consA (AJ.lo (AJ.cal (pk := fun v => .ex (row v)) (EsJ.consV (VJ.var rfl) (EsJ.consV (VJ.var rfl) (EsJ.nil (h_picked x13 x9)))))) fun x14 => (EsJ.consV (VJ.lo (VJ.var rfl)) (EsJ.nil (P.tot (en := W.bl) pf_memS)))))) (fun x13 => (AJ.ofV (pk := fun v => .ex (row v)) (VJ.var rfl))))) fun x15 => (EsJ.consV (VJ.lo VJ.cst) (EsJ.nil (P.of (en := row) fun _ h => (pf_ixL (e := row) (xs := x15)) h))))) fun least16 => (BJ.asg (i := 4) (en := (eL row)) (AJ.lcT (en := row) (eb := row) (EsJ.consV (VJ.lo (VJ.var rfl)) (EsJ.nil (S.tot (en := row) (it_L (e := row) (xs := s8.1))))) (fun x17 => (TgP.nm (i := 9) rfl)) (fun x17 => (AJ.cal (pk := fun v => .ex (W.bl v)) (EsJ.consV (VJ.var rfl) (EsJ.consV (VJ.var rfl) (EsJ.consV (VJ.var rfl) (EsJ.nil (h_agree x17 least16 x9))))))) (fun x17 => (AJ.ofV (pk := fun v => .ex (row v)) (VJ.var rfl)))) fun missing18 => (BJ.asg (i := 5) (en := (eT row)) (AJ.pr (EsJ.consV (VJ.lo (VJ.var rfl)) (EsJ.consV (VJ.lo (V.tupd (VsJ.cons (VJ.var rfl) VsJ.nil))) (EsJ.nil (P.of (en := (eT row)) fun _ h => (pf_catT (e := row) (xs := s8.2) (ys := (([least16] : List (List Int))))) h))))) fun chosen19 => (BJ.nil (GLe.c (.same _) (GLe.c (.same _) (GLe.c (.same _) (GLe.c (.same _) (GLe.c (.same _) (GLe.c (.same _) (GLe.c (.no _) (GLe.c (.no _) (GLe.c (.no _) (GLe.c (.no _) GLe.e)))))))))))))))) (fun s8 => (BJ.retE (en := (eO (eT row))) (AJ.ofV (pk := fun v => .ex ((eO (eT row)) v)) (VJ.var rfl)) fun _ => rfl)))))))) (fzO (fzT (fzT fzI)))
def S_P_within_breach {δ : Type} (rows : List (List Int)) (columns : List Int) (others_rows : List (List Int)) (others : List Int) : M δ (Option (List (List Int))) := ((((pure others_rows) >>= lcM fun x1 => (S_P_picked x1 others)) >>= fun x2 => (M.lift (setR x2))) >>= fun known3 => ((pure rows) >>= fun xs => Ow.forX (σ := Unit) (ρ := Option (List (List Int))) (fun x5 s4 => (((S_P_picked x5 columns) >>= fun x6 => (pure ((!decide (x6 ∈ known3))))) >>= fun c => if c then ((pure (some (([x5] : List (List Int))))) >>= fun v => pure (Ctl.rt v)) else (pure ((Ctl.nx (())))))) xs (()) >>= fun c => c.go (fun (s4 : Unit) => (pure (none : Option (List (List Int))))) fun v => pure v))
theorem c_P_within_breach {T : List Def} {N d k : Nat} {c_picked : Nat} {δ : Type} {I : DI δ} (h_picked : ∀ (y0 : List Int) (y1 : List Int), CS I (evC T N d) c_picked [.ex (row y0), .ex (row y1)] (fun v => .ex (row v)) (S_P_picked y0 y1)) (i : Is T k 4 6 (P_within_breach c_picked)) (rows : List (List Int)) (columns : List Int) (others_rows : List (List Int)) (others : List Int) : CS I (evC T N (d + 1)) k [.ex ((eT row) rows), .ex (row columns), .ex ((eT row) others_rows), .ex (row others)] (fun v => .ex ((eO (eT row)) v)) (S_P_within_breach rows columns others_rows others) := by
  unfold S_P_within_breach
  exact CS.df i rfl (fun b => (BJ.asg (i := 4) (en := eSet) (AJ.pr (EsJ.consA (AJ.lo (AJ.lc (en := row) (eb := row) (EsJ.consV (VJ.lo (VJ.var rfl)) (EsJ.nil (S.tot (en := row) (it_T (e := row) (xs := others_rows))))) (fun x1 => (TgP.nm (i := 5) rfl)) (fun x1 => (AJ.cal (pk := fun v => .ex (row v)) (EsJ.consV (VJ.var rfl) (EsJ.consV (VJ.var rfl) (EsJ.nil (h_picked x1 others)))))))) fun x2 => (EsJ.nil (P.of (en := eSet) fun _ h => pf_setRL h)))) fun known3 => (BJ.forX (σ := Unit) (ρ := Option (List (List Int))) (en := row) (er := (eO (eT row))) (cr := fun v => v) (s0 := ()) (Gs := fun (s4 : Unit) => [.kn ((eT row) rows), .kn (row columns), .kn ((eT row) others_rows), .kn (row others), .kn (eSet known3), .no]) (EsJ.consV (VJ.lb (VJ.var rfl)) (EsJ.nil (B.tot (en := row) (it_T (e := row) (xs := rows))))) (GLe.c (.same _) (GLe.c (.same _) (GLe.c (.same _) (GLe.c (.same _) (GLe.c (.same _) (GLe.c (.no _) GLe.e)))))) (fun _ => rfl) (fun x5 s4 => (TgP.nm (i := 5) rfl)) (fun x5 s4 => (BJ.iffA (AJ.pr (EsJ.consA (AJ.lo (AJ.cal (pk := fun v => .ex (row v)) (EsJ.consV (VJ.var rfl) (EsJ.consV (VJ.var rfl) (EsJ.nil (h_picked x5 columns)))))) fun x6 => (EsJ.consV (VJ.lo (VJ.var rfl)) (EsJ.nil (P.tot (en := W.bl) ((pf_nmem pf_memS))))))) (BJ.ret (en := (eO (eT row))) (cv := fun v => Ctl.rt v) (AJ.ofV (pk := fun v => .ex ((eO (eT row)) v)) (V.tupd (VsJ.cons (VJ.var rfl) VsJ.nil))) fun _ => rfl) (BJ.nil (GLe.c (.same _) (GLe.c (.same _) (GLe.c (.same _) (GLe.c (.same _) (GLe.c (.same _) (GLe.c (.no _) GLe.e))))))))) (fun s4 => (BJ.retE (en := (eO (eT row))) (AJ.ofV (pk := fun v => .ex ((eO (eT row)) v)) VJ.cst) fun _ => rfl)) fun _ => rfl))) (fzO (fzT (fzT fzI)))
def S_P_least_breach {δ : Type} (scheme : List Int) (store : List (List (List Int))) (dependency : W) : M δ (Option (List (List Int))) := (((M.lift ((slW dependency none (some 2)))) >>= fun w => M.lift ((dP2 dW dW) w)) >>= fun p1 => (((M.lift (dI p1.2)) >>= fun x2 => (M.lift (ixL store x2))) >>= fun rows3 => (((M.lift (dS p1.1)) >>= fun x4 => (pure ((decide (x4 = (("settles" : Str))))))) >>= fun c => if c then (((M.lift (ixW dependency 2)) >>= fun w => M.lift ((dT dI) w)) >>= fun x5 => (((M.lift (ixW dependency 3)) >>= fun w => M.lift ((dT dI) w)) >>= fun x6 => (S_P_settles_breach rows3 x5 x6))) else (((M.lift (dS p1.1)) >>= fun x7 => (pure ((decide (x7 = (("deals" : Str))))))) >>= fun c => if c then (((M.lift (ixW dependency 2)) >>= fun w => M.lift ((dT dI) w)) >>= fun x8 => (((M.lift (ixW dependency 3)) >>= fun w => M.lift ((dT dI) w)) >>= fun x9 => (S_P_deals_breach rows3 x8 x9))) else (((M.lift (dS p1.1)) >>= fun x10 => (pure ((decide (x10 = (("joins" : Str))))))) >>= fun c => if c then (((M.lift (dI p1.2)) >>= fun x11 => (M.lift (ixL scheme x11))) >>= fun x12 => (((M.lift (ixW dependency 2)) >>= fun w => M.lift ((dT (dT dI)) w)) >>= fun x13 => (S_P_joins_breach x12 rows3 x13))) else (((M.lift (ixW dependency 2)) >>= fun w => M.lift ((dT dI) w)) >>= fun x15 => ((((M.lift (ixW dependency 3)) >>= fun w => M.lift (dI w)) >>= fun x14 => (M.lift (ixL store x14))) >>= fun x16 => (((M.lift (ixW dependency 4)) >>= fun w => M.lift ((dT dI) w)) >>= fun x17 => (S_P_within_breach rows3 x15 x16 x17)))))))))
theorem c_P_least_breach {T : List Def} {N d k : Nat} {c_settles_breach : Nat} {c_deals_breach : Nat} {c_joins_breach : Nat} {c_within_breach : Nat} {δ : Type} {I : DI δ} (h_settles_breach : ∀ (y0 : List (List Int)) (y1 : List Int) (y2 : List Int), CS I (evC T N d) c_settles_breach [.ex ((eT row) y0), .ex (row y1), .ex (row y2)] (fun v => .ex ((eO (eT row)) v)) (S_P_settles_breach y0 y1 y2)) (h_deals_breach : ∀ (y0 : List (List Int)) (y1 : List Int) (y2 : List Int), CS I (evC T N d) c_deals_breach [.ex ((eT row) y0), .ex (row y1), .ex (row y2)] (fun v => .ex ((eO (eT row)) v)) (S_P_deals_breach y0 y1 y2)) (h_joins_breach : ∀ (y0 : Int) (y1 : List (List Int)) (y2 : List (List Int)), CS I (evC T N d) c_joins_breach [.ex (W.int y0), .ex ((eT row) y1), .ex ((eT row) y2)] (fun v => .ex ((eO (eT row)) v)) (S_P_joins_breach y0 y1 y2)) (h_within_breach : ∀ (y0 : List (List Int)) (y1 : List Int) (y2 : List (List Int)) (y3 : List Int), CS I (evC T N d) c_within_breach [.ex ((eT row) y0), .ex (row y1), .ex ((eT row) y2), .ex (row y3)] (fun v => .ex ((eO (eT row)) v)) (S_P_within_breach y0 y1 y2 y3)) (i : Is T k 3 6 (P_least_breach c_settles_breach c_deals_breach c_joins_breach c_within_breach)) (scheme : List Int) (store : List (List (List Int))) (dependency : W) : CS I (evC T N (d + 1)) k [.ex (row scheme), .ex ((eT (eT row)) store), .ex (eW dependency)] (fun v => .ex ((eO (eT row)) v)) (S_P_least_breach scheme store dependency) := by
  unfold S_P_least_breach
  exact CS.df i rfl (fun b => (BJ.asgT (en := (eP2 eW eW)) (AJ.cast (AJ.prW (EsJ.consV (VJ.var rfl) (EsJ.consV VJ.cst (EsJ.nil (P.wv (en := eW) fun _ h => pw_sl01 h))))) (decP2 decW decW)) (fun p1 => (TgP.tp (TgsP.cons (TgP.nm (i := 3) rfl) (TgsP.cons (TgP.nm (i := 4) rfl) TgsP.nil)))) fun p1 => (BJ.asg (i := 5) (en := (eT row)) (AJ.pr (EsJ.consV (VJ.lo (VJ.var rfl)) (EsJ.consA (AJ.lo (AJ.castV (VJ.var rfl) decI)) fun x2 => (EsJ.nil (P.of (en := (eT row)) fun _ h => (pf_ixT (e := (eT row)) (xs := store)) h))))) fun rows3 => (BJ.iffA (AJ.pr (EsJ.consA (AJ.lo (AJ.castV (VJ.var rfl) decS)) fun x4 => (EsJ.consV (VJ.lo VJ.cst) (EsJ.nil (P.tot (en := W.bl) pf_eqS))))) (BJ.retE (en := (eO (eT row))) (AJ.cal (pk := fun v => .ex ((eO (eT row)) v)) (EsJ.consV (VJ.var rfl) (EsJ.consA (AJ.cast (AJ.prW (EsJ.consV (VJ.var rfl) (EsJ.consV VJ.cst (EsJ.nil (P.wv (en := eW) fun _ h => pw_ix h))))) (decT decI)) fun x5 => (EsJ.consA (AJ.cast (AJ.prW (EsJ.consV (VJ.var rfl) (EsJ.consV VJ.cst (EsJ.nil (P.wv (en := eW) fun _ h => pw_ix h))))) (decT decI)) fun x6 => (EsJ.nil (h_settles_breach rows3 x5 x6)))))) fun _ => rfl) (BJ.iffA (AJ.pr (EsJ.consA (AJ.lo (AJ.castV (VJ.var rfl) decS)) fun x7 => (EsJ.consV (VJ.lo VJ.cst) (EsJ.nil (P.tot (en := W.bl) pf_eqS))))) (BJ.retE (en := (eO (eT row))) (AJ.cal (pk := fun v => .ex ((eO (eT row)) v)) (EsJ.consV (VJ.var rfl) (EsJ.consA (AJ.cast (AJ.prW (EsJ.consV (VJ.var rfl) (EsJ.consV VJ.cst (EsJ.nil (P.wv (en := eW) fun _ h => pw_ix h))))) (decT decI)) fun x8 => (EsJ.consA (AJ.cast (AJ.prW (EsJ.consV (VJ.var rfl) (EsJ.consV VJ.cst (EsJ.nil (P.wv (en := eW) fun _ h => pw_ix h))))) (decT decI)) fun x9 => (EsJ.nil (h_deals_breach rows3 x8 x9)))))) fun _ => rfl) (BJ.iffA (AJ.pr (EsJ.consA (AJ.lo (AJ.castV (VJ.var rfl) decS)) fun x10 => (EsJ.consV (VJ.lo VJ.cst) (EsJ.nil (P.tot (en := W.bl) pf_eqS))))) (BJ.retE (en := (eO (eT row))) (AJ.cal (pk := fun v => .ex ((eO (eT row)) v)) (EsJ.consA (AJ.pr (EsJ.consV (VJ.lo (VJ.var rfl)) (EsJ.consA (AJ.lo (AJ.castV (VJ.var rfl) decI)) fun x11 => (EsJ.nil (P.of (en := W.int) fun _ h => (pf_ixT (e := W.int) (xs := scheme)) h))))) fun x12 => (EsJ.consV (VJ.var rfl) (EsJ.consA (AJ.cast (AJ.prW (EsJ.consV (VJ.var rfl) (EsJ.consV VJ.cst (EsJ.nil (P.wv (en := eW) fun _ h => pw_ix h))))) (decT (decT decI))) fun x13 => (EsJ.nil (h_joins_breach x12 rows3 x13)))))) fun _ => rfl) (BJ.retE (en := (eO (eT row))) (AJ.cal (pk := fun v => .ex ((eO (eT row)) v)) (EsJ.consV (VJ.var rfl) (EsJ.consA (AJ.cast (AJ.prW (EsJ.consV (VJ.var rfl) (EsJ.consV VJ.cst (EsJ.nil (P.wv (en := eW) fun _ h => pw_ix h))))) (decT decI)) fun x15 => (EsJ.consA (AJ.pr (EsJ.consV (VJ.lo (VJ.var rfl)) (EsJ.consA (AJ.lo (AJ.cast (AJ.prW (EsJ.consV (VJ.var rfl) (EsJ.consV VJ.cst (EsJ.nil (P.wv (en := eW) fun _ h => pw_ix h))))) decI)) fun x14 => (EsJ.nil (P.of (en := (eT row)) fun _ h => (pf_ixT (e := (eT row)) (xs := store)) h))))) fun x16 => (EsJ.consA (AJ.cast (AJ.prW (EsJ.consV (VJ.var rfl) (EsJ.consV VJ.cst (EsJ.nil (P.wv (en := eW) fun _ h => pw_ix h))))) (decT decI)) fun x17 => (EsJ.nil (h_within_breach rows3 x15 x16 x17))))))) fun _ => rfl))))))) (fzO (fzT (fzT fzI)))
def S_P_keeps {δ : Type} (scheme : List Int) (store : List (List (List Int))) (dependency : W) : M δ Bool := ((S_P_least_breach scheme store dependency) >>= fun x1 => (pure x1.isNone))
theorem c_P_keeps {T : List Def} {N d k : Nat} {c_least_breach : Nat} {δ : Type} {I : DI δ} (h_least_breach : ∀ (y0 : List Int) (y1 : List (List (List Int))) (y2 : W), CS I (evC T N d) c_least_breach [.ex (row y0), .ex ((eT (eT row)) y1), .ex (eW y2)] (fun v => .ex ((eO (eT row)) v)) (S_P_least_breach y0 y1 y2)) (i : Is T k 3 3 (P_keeps c_least_breach)) (scheme : List Int) (store : List (List (List Int))) (dependency : W) : CS I (evC T N (d + 1)) k [.ex (row scheme), .ex ((eT (eT row)) store), .ex (eW dependency)] (fun v => .ex (W.bl v)) (S_P_keeps scheme store dependency) := by
  unfold S_P_keeps
  exact CS.df i rfl (fun b => (BJ.retE (en := W.bl) (AJ.pr (EsJ.consA (AJ.cal (pk := fun v => .ex ((eO (eT row)) v)) (EsJ.consV (VJ.var rfl) (EsJ.consV (VJ.var rfl) (EsJ.consV (VJ.var rfl) (EsJ.nil (h_least_breach scheme store dependency)))))) fun x1 => (EsJ.nil (P.tot (en := W.bl) ((pf_isN (e := (eT row)) fun _ => rfl)))))) fun _ => rfl)) fzB
def S_P_projection {δ : Type} (rows : List (List Int)) (columns : List Int) : M δ (List (List Int)) := (S_P_projected rows columns)
theorem c_P_projection {T : List Def} {N d k : Nat} {c_projected : Nat} {δ : Type} {I : DI δ} (h_projected : ∀ (y0 : List (List Int)) (y1 : List Int), CS I (evC T N d) c_projected [.ex ((eT row) y0), .ex (row y1)] (fun v => .ex ((eT row) v)) (S_P_projected y0 y1)) (i : Is T k 2 2 (P_projection c_projected)) (rows : List (List Int)) (columns : List Int) : CS I (evC T N (d + 1)) k [.ex ((eT row) rows), .ex (row columns)] (fun v => .ex ((eT row) v)) (S_P_projection rows columns) := by
  unfold S_P_projection
  exact CS.df i rfl (fun b => (BJ.retE (en := (eT row)) (AJ.cal (pk := fun v => .ex ((eT row) v)) (EsJ.consV (VJ.var rfl) (EsJ.consV (VJ.var rfl) (EsJ.nil (h_projected rows columns))))) fun _ => rfl)) (fzT (fzT fzI))
def S_L_cell (script : List Int) : M (List Int) Int := (if (decide (((script.length : Int)) = 0)) then (pure 0) else (((S_take ((script.length : Int))) >>= fun x1 => (M.lift (ixL script x1))) >>= fun x2 => (pure x2)))
theorem c_L_cell {T : List Def} {N d k : Nat} {c_take : Nat} {a : Nat} (h_take : ∀ (y0 : Int), CS (DI.drw a) (evC T N d) c_take [.ex (.ref a), .ex (W.int y0)] (fun v => .ex (W.int v)) (S_take y0)) (i : Is T k 2 2 (L_cell c_take)) (script : List Int) : CS (DI.drw a) (evC T N (d + 1)) k [.ex ((eSL W.int) script), .ex (.ref a)] (fun v => .ex (W.int v)) (S_L_cell script) := by
  unfold S_L_cell
  exact CS.df i rfl (fun b => (BJ.iffV (V.pr (VsJ.cons (VJ.lo (V.pr (VsJ.cons (VJ.lo (VJ.var rfl)) VsJ.nil) ((pf_lenSL (e := W.int) (xs := script))))) (VsJ.cons (VJ.lo VJ.cst) VsJ.nil)) pf_eqI) (BJ.retE (en := W.int) (AJ.ofV (pk := fun v => .ex (W.int v)) VJ.cst) fun _ => rfl) (BJ.retE (en := W.int) (AJ.pr (EsJ.consA (AJ.lo (AJ.pr (EsJ.consV (VJ.lo (VJ.var rfl)) (EsJ.consA (AJ.lo (AJ.cal (pk := fun v => .ex (W.int v)) (EsJ.consV (VJ.var rfl) (EsJ.consV (V.pr (VsJ.cons (VJ.lo (VJ.var rfl)) VsJ.nil) ((pf_lenSL (e := W.int) (xs := script)))) (EsJ.nil (h_take ((script.length : Int)))))))) fun x1 => (EsJ.nil (P.of (en := W.int) fun _ h => (pf_ixSL (e := W.int) (xs := script)) h)))))) fun x2 => (EsJ.nil (P.tot (en := W.int) pf_int)))) fun _ => rfl))) fzI
def S_L_shuffled_2 (row_ : List Int) : M (List Int) (List Int) := ((pure ([] : List Int)) >>= fun found1 => ((pure row_) >>= fun xs => Ow.forG (σ := (List Int)) (fun x3 s2 => ((S_take ((((s2.length : Int)) + 1))) >>= fun x5 => (pure x3) >>= fun x6 => M.lift (insI s2 x5 x6) >>= fun found4 => (pure found4))) xs found1 >>= fun (s2 : (List Int)) => (pure s2)))
theorem c_L_shuffled_2 {T : List Def} {N d k : Nat} {c_take : Nat} {a : Nat} (h_take : ∀ (y0 : Int), CS (DI.drw a) (evC T N d) c_take [.ex (.ref a), .ex (W.int y0)] (fun v => .ex (W.int v)) (S_take y0)) (i : Is T k 2 4 (L_shuffled_2 c_take)) (row_ : List Int) : CS (DI.drw a) (evC T N (d + 1)) k [.ex (.ref a), .lo ((eL W.int) row_)] (fun v => .ex ((eL W.int) v)) (S_L_shuffled_2 row_) := by
  unfold S_L_shuffled_2
  exact CS.df i rfl (fun b => (BJ.newL (i := 2) (en := W.int) (EsJ.nil (P.lstd (en := (eL W.int)))) fun found1 => (BJ.forG (σ := (List Int)) (en := W.int) (s0 := found1) (Gs := fun (s2 : (List Int)) => [.kn (.ref a), .rd ((eL W.int) row_), .ob (.lst (s2.map W.int)), .no]) (EsJ.consV (VJ.rdb rfl) (EsJ.nil (B.tot (en := W.int) (it_L (e := W.int) (xs := row_))))) (GLe.c (.same _) (GLe.c (.same _) (GLe.c (.same _) (GLe.c (.no _) GLe.e)))) (fun _ => rfl) (fun x3 s2 => (TgP.nm (i := 3) rfl)) (fun x3 s2 => (BJ.insert (i := 2) (en := W.int) (k := fun found4 => (pure found4)) rfl (AJ.cal (pk := fun v => .ex (W.int v)) (EsJ.consV (VJ.var rfl) (EsJ.consV (V.pr (VsJ.cons (VJ.lo (V.pr (VsJ.cons (VJ.ob rfl) VsJ.nil) ((pf_lenL (e := W.int) (xs := s2))))) (VsJ.cons (VJ.lo VJ.cst) VsJ.nil)) pf_add) (EsJ.nil (h_take ((((s2.length : Int)) + 1))))))) (AJ.ofV (pk := fun v => .ex (W.int v)) (VJ.var rfl)) fun found4 => (BJ.nil (GLe.c (.same _) (GLe.c (.same _) (GLe.c (.same _) (GLe.c (.no _) GLe.e))))))) (fun s2 => (BJ.retF rfl rfl))))) (fzL fzI)
def S_L_inclusion (scheme_here : List Int) (order_here : List Int) : M (List Int) W := (retW ((S_take ((((order_here.length : Int)) - 1))) >>= fun first1 => ((M.lift (ixL order_here first1)) >>= fun table2 => ((((S_take ((((((order_here.length : Int)) - 1)) - first1))) >>= fun x3 => (pure ((((first1 + 1)) + x3)))) >>= fun x4 => (M.lift (ixL order_here x4))) >>= fun other5 => (((((M.lift (ixL scheme_here table2)) >>= fun x6 => ((M.lift (ixL scheme_here other5)) >>= fun x7 => (pure ((if x7 < x6 then x7 else x6))))) >>= fun x8 => (S_take x8)) >>= fun x9 => (pure ((1 + x9)))) >>= fun many10 => ((((((M.lift (ixL scheme_here table2)) >>= fun x11 => (M.lift (rng x11))) >>= lcM fun x12 => (pure x12)) >>= fun x13 => (S_L_shuffled_2 x13)) >>= fun x14 => (pure ((cut x14 none (some many10))))) >>= fun columns_here15 => ((((((M.lift (ixL scheme_here other5)) >>= fun x16 => (M.lift (rng x16))) >>= lcM fun x17 => (pure x17)) >>= fun x18 => (S_L_shuffled_2 x18)) >>= fun x19 => (pure ((cut x19 none (some many10))))) >>= fun others20 => (pure (W.tup [((W.str (("within" : Str)))), ((W.int table2)), ((row columns_here15)), ((W.int other5)), ((row others20))])))))))))
theorem c_L_inclusion {T : List Def} {N d k : Nat} {c_take : Nat} {c_shuffled : Nat} {a : Nat} (h_take : ∀ (y0 : Int), CS (DI.drw a) (evC T N d) c_take [.ex (.ref a), .ex (W.int y0)] (fun v => .ex (W.int v)) (S_take y0)) (h_shuffled : ∀ (y0 : List Int), CS (DI.drw a) (evC T N d) c_shuffled [.ex (.ref a), .lo ((eL W.int) y0)] (fun v => .ex ((eL W.int) v)) (S_L_shuffled_2 y0)) (i : Is T k 3 10 (L_inclusion c_take c_shuffled)) (scheme_here : List Int) (order_here : List Int) : CS (DI.drw a) (evC T N (d + 1)) k [.ex (.ref a), .ex (row scheme_here), .lo ((eL W.int) order_here)] (fun v => .ex (eW v)) (S_L_inclusion scheme_here order_here) := by
  unfold S_L_inclusion
  exact CS.dfW i rfl fun b => (BJ.asg (i := 3) (en := W.int) (AJ.cal (pk := fun v => .ex (W.int v)) (EsJ.consV (VJ.var rfl) (EsJ.consV (V.pr (VsJ.cons (VJ.lo (V.pr (VsJ.cons (VJ.rd rfl) VsJ.nil) ((pf_lenL (e := W.int) (xs := order_here))))) (VsJ.cons (VJ.lo VJ.cst) VsJ.nil)) pf_sub) (EsJ.nil (h_take ((((order_here.length : Int)) - 1))))))) fun first1 => (BJ.asg (i := 4) (en := W.int) (AJ.pr (EsJ.consV (VJ.rd rfl) (EsJ.consV (VJ.lo (VJ.var rfl)) (EsJ.nil (P.of (en := W.int) fun _ h => (pf_ixL (e := W.int) (xs := order_here)) h))))) fun table2 => (BJ.asg (i := 5) (en := W.int) (AJ.pr (EsJ.consV (VJ.rd rfl) (EsJ.consA (AJ.lo (AJ.pr (EsJ.consV (VJ.lo (V.pr (VsJ.cons (VJ.lo (VJ.var rfl)) (VsJ.cons (VJ.lo VJ.cst) VsJ.nil)) pf_add)) (EsJ.consA (AJ.lo (AJ.cal (pk := fun v => .ex (W.int v)) (EsJ.consV (VJ.var rfl) (EsJ.consV (V.pr (VsJ.cons (VJ.lo (V.pr (VsJ.cons (VJ.lo (V.pr (VsJ.cons (VJ.rd rfl) VsJ.nil) ((pf_lenL (e := W.int) (xs := order_here))))) (VsJ.cons (VJ.lo VJ.cst) VsJ.nil)) pf_sub)) (VsJ.cons (VJ.lo (VJ.var rfl)) VsJ.nil)) pf_sub) (EsJ.nil (h_take ((((((order_here.length : Int)) - 1)) - first1)))))))) fun x3 => (EsJ.nil (P.tot (en := W.int) pf_add)))))) fun x4 => (EsJ.nil (P.of (en := W.int) fun _ h => (pf_ixL (e := W.int) (xs := order_here)) h))))) fun other5 => (BJ.asg (i := 6) (en := W.int) (AJ.pr (EsJ.consV (VJ.lo VJ.cst) (EsJ.consA (AJ.lo (AJ.cal (pk := fun v => .ex (W.int v)) (EsJ.consV (VJ.var rfl) (EsJ.consA (AJ.pr (EsJ.consA (AJ.lo (AJ.pr (EsJ.consV (VJ.lo (VJ.var rfl)) (EsJ.consV (VJ.lo (VJ.var rfl)) (EsJ.nil (P.of (en := W.int) fun _ h => (pf_ixT (e := W.int) (xs := scheme_here)) h)))))) fun x6 => (EsJ.consA (AJ.lo (AJ.pr (EsJ.consV (VJ.lo (VJ.var rfl)) (EsJ.consV (VJ.lo (VJ.var rfl)) (EsJ.nil (P.of (en := W.int) fun _ h => (pf_ixT (e := W.int) (xs := scheme_here)) h)))))) fun x7 => (EsJ.nil (P.tot (en := W.int) pf_min2))))) fun x8 => (EsJ.nil (h_take x8)))))) fun x9 => (EsJ.nil (P.tot (en := W.int) pf_add))))) fun many10 => (BJ.asg (i := 7) (en := (eL W.int)) (AJ.pr (EsJ.consA (AJ.lo (AJ.cal (pk := fun v => .ex ((eL W.int) v)) (EsJ.consV (VJ.var rfl) (EsJ.consA (AJ.lo (AJ.lc (en := W.int) (eb := W.int) (EsJ.consA (AJ.lo (AJ.pr (EsJ.consV (VJ.lo (VJ.var rfl)) (EsJ.consV (VJ.lo (VJ.var rfl)) (EsJ.nil (P.of (en := W.int) fun _ h => (pf_ixT (e := W.int) (xs := scheme_here)) h)))))) fun x11 => (EsJ.nil (S.of (en := W.int) fun _ h => it_rngI h))) (fun x12 => (TgP.nm (i := 9) rfl)) (fun x12 => (AJ.ofV (pk := fun v => .ex (W.int v)) (VJ.var rfl))))) fun x13 => (EsJ.nil (h_shuffled x13)))))) fun x14 => (EsJ.consV (VJ.lo (VJ.var rfl)) (EsJ.nil (P.tot (en := (eL W.int)) ((pf_slL01 (e := W.int) (xs := x14)))))))) fun columns_here15 => (BJ.asg (i := 8) (en := (eL W.int)) (AJ.pr (EsJ.consA (AJ.lo (AJ.cal (pk := fun v => .ex ((eL W.int) v)) (EsJ.consV (VJ.var rfl) (EsJ.consA (AJ.lo (AJ.lc (en := W.int) (eb := W.int) (EsJ.consA (AJ.lo (AJ.pr (EsJ.consV (VJ.lo (VJ.var rfl)) (EsJ.consV (VJ.lo (VJ.var rfl)) (EsJ.nil (P.of (en := W.int) fun _ h => (pf_ixT (e := W.int) (xs := scheme_here)) h)))))) fun x16 => (EsJ.nil (S.of (en := W.int) fun _ h => it_rngI h))) (fun x17 => (TgP.nm (i := 9) rfl)) (fun x17 => (AJ.ofV (pk := fun v => .ex (W.int v)) (VJ.var rfl))))) fun x18 => (EsJ.nil (h_shuffled x18)))))) fun x19 => (EsJ.consV (VJ.lo (VJ.var rfl)) (EsJ.nil (P.tot (en := (eL W.int)) ((pf_slL01 (e := W.int) (xs := x19)))))))) fun others20 => (BJ.retE (en := eW) (AJ.ofV (pk := fun v => .ex (eW v)) (V.tupd (VsJ.cons VJ.cst (VsJ.cons (VJ.var rfl) (VsJ.cons (V.pr (VsJ.cons (VJ.lo (VJ.var rfl)) VsJ.nil) ((pf_tupL (e := W.int) (xs := columns_here15)))) (VsJ.cons (VJ.var rfl) (VsJ.cons (V.pr (VsJ.cons (VJ.lo (VJ.var rfl)) VsJ.nil) ((pf_tupL (e := W.int) (xs := others20)))) VsJ.nil))))))) fun _ => rfl)))))))
def S_L_wide (cell_here : Int) : M (List Int) (List Int) := (((S_take 4) >>= fun x1 => (M.lift (ixL (([2, 2, 3, 5] : List Int)) x1))) >>= fun many2 => (((S_take 4) >>= fun x3 => (M.lift (ixL (([0, 0, ((-2)), cell_here] : List Int)) x3))) >>= fun base4 => (((S_take 5) >>= fun x5 => (pure ((decide (x5 = 0))))) >>= fun c => if c then (pure (cut (([0, 11, 1, 111, base4] : List Int)) none (some many2))) else ((M.lift (rng many2)) >>= lcM fun x6 => (pure (base4 + x6))))))
theorem c_L_wide {T : List Def} {N d k : Nat} {c_take : Nat} {a : Nat} (h_take : ∀ (y0 : Int), CS (DI.drw a) (evC T N d) c_take [.ex (.ref a), .ex (W.int y0)] (fun v => .ex (W.int v)) (S_take y0)) (i : Is T k 2 5 (L_wide c_take)) (cell_here : Int) : CS (DI.drw a) (evC T N (d + 1)) k [.ex (.ref a), .ex (W.int cell_here)] (fun v => .ex ((eL W.int) v)) (S_L_wide cell_here) := by
  unfold S_L_wide
  exact CS.df i rfl (fun b => (BJ.asg (i := 2) (en := W.int) (AJ.pr (EsJ.consV (VJ.lo (V.lstd (VsJ.cons VJ.cst (VsJ.cons VJ.cst (VsJ.cons VJ.cst (VsJ.cons VJ.cst VsJ.nil)))))) (EsJ.consA (AJ.lo (AJ.cal (pk := fun v => .ex (W.int v)) (EsJ.consV (VJ.var rfl) (EsJ.consV VJ.cst (EsJ.nil (h_take 4)))))) fun x1 => (EsJ.nil (P.of (en := W.int) fun _ h => (pf_ixL (e := W.int) (xs := (([2, 2, 3, 5] : List Int)))) h))))) fun many2 => (BJ.asg (i := 3) (en := W.int) (AJ.pr (EsJ.consV (VJ.lo (V.lstd (VsJ.cons VJ.cst (VsJ.cons VJ.cst (VsJ.cons (V.pr (VsJ.cons (VJ.lo VJ.cst) VsJ.nil) pf_neg) (VsJ.cons (VJ.var rfl) VsJ.nil)))))) (EsJ.consA (AJ.lo (AJ.cal (pk := fun v => .ex (W.int v)) (EsJ.consV (VJ.var rfl) (EsJ.consV VJ.cst (EsJ.nil (h_take 4)))))) fun x3 => (EsJ.nil (P.of (en := W.int) fun _ h => (pf_ixL (e := W.int) (xs := (([0, 0, ((-2)), cell_here] : List Int)))) h))))) fun base4 => (BJ.iffA (AJ.pr (EsJ.consA (AJ.lo (AJ.cal (pk := fun v => .ex (W.int v)) (EsJ.consV (VJ.var rfl) (EsJ.consV VJ.cst (EsJ.nil (h_take 5)))))) fun x5 => (EsJ.consV (VJ.lo VJ.cst) (EsJ.nil (P.tot (en := W.bl) pf_eqI))))) (BJ.retE (en := (eL W.int)) (AJ.ofV (pk := fun v => .ex ((eL W.int) v)) (V.pr (VsJ.cons (VJ.lo (V.lstd (VsJ.cons VJ.cst (VsJ.cons VJ.cst (VsJ.cons VJ.cst (VsJ.cons VJ.cst (VsJ.cons (VJ.var rfl) VsJ.nil))))))) (VsJ.cons (VJ.lo (VJ.var rfl)) VsJ.nil)) ((pf_slL01 (e := W.int) (xs := (([0, 11, 1, 111, base4] : List Int))))))) fun _ => rfl) (BJ.retE (en := (eL W.int)) (AJ.lc (en := W.int) (eb := W.int) (EsJ.consV (VJ.lo (VJ.var rfl)) (EsJ.nil (S.of (en := W.int) fun _ h => it_rngI h))) (fun x6 => (TgP.nm (i := 4) rfl)) (fun x6 => (AJ.ofV (pk := fun v => .ex (W.int v)) (V.pr (VsJ.cons (VJ.lo (VJ.var rfl)) (VsJ.cons (VJ.lo (VJ.var rfl)) VsJ.nil)) pf_add)))) fun _ => rfl))))) (fzL fzI)
def S_L_rows (width : Int) (most : Int) (wide_here : List Int) : M (List Int) (List (List Int)) := ((pure ([] : List (List Int))) >>= fun rows_here1 => (((S_take ((most + 1))) >>= fun x2 => (M.lift (rng x2))) >>= fun xs => Ow.forG (σ := (List (List Int))) (fun x4 s3 => ((((M.lift (rng width)) >>= lcM fun x5 => ((S_take ((wide_here.length : Int))) >>= fun x6 => (M.lift (ixL wide_here x6)))) >>= fun x7 => (pure x7)) >>= fun x8 => M.chk (decide (s3.length < sizeLine)) >>= fun _ => (fun rows_here9 => (pure rows_here9)) (s3 ++ [x8]))) xs rows_here1 >>= fun (s3 : (List (List Int))) => ((M.lift (ssetR s3)) >>= fun x10 => (pure x10))))
theorem c_L_rows {T : List Def} {N d k : Nat} {c_take : Nat} {a : Nat} (h_take : ∀ (y0 : Int), CS (DI.drw a) (evC T N d) c_take [.ex (.ref a), .ex (W.int y0)] (fun v => .ex (W.int v)) (S_take y0)) (i : Is T k 4 7 (L_rows c_take)) (width : Int) (most : Int) (wide_here : List Int) : CS (DI.drw a) (evC T N (d + 1)) k [.ex (.ref a), .ex (W.int width), .ex (W.int most), .lo ((eL W.int) wide_here)] (fun v => .ex ((eT row) v)) (S_L_rows width most wide_here) := by
  unfold S_L_rows
  exact CS.df i rfl (fun b => (BJ.newL (i := 4) (en := row) (EsJ.nil (P.lstd (en := (eL row)))) fun rows_here1 => (BJ.forG (σ := (List (List Int))) (en := W.int) (s0 := rows_here1) (Gs := fun (s3 : (List (List Int))) => [.kn (.ref a), .kn (W.int width), .kn (W.int most), .rd ((eL W.int) wide_here), .ob (.lst (s3.map row)), .no, .no]) (EsJ.consA (AJ.lb (AJ.cal (pk := fun v => .ex (W.int v)) (EsJ.consV (VJ.var rfl) (EsJ.consV (V.pr (VsJ.cons (VJ.lo (VJ.var rfl)) (VsJ.cons (VJ.lo VJ.cst) VsJ.nil)) pf_add) (EsJ.nil (h_take ((most + 1)))))))) fun x2 => (EsJ.nil (B.of (en := W.int) fun _ h => it_rngI h))) (GLe.c (.same _) (GLe.c (.same _) (GLe.c (.same _) (GLe.c (.same _) (GLe.c (.same _) (GLe.c (.no _) (GLe.c (.no _) GLe.e))))))) (fun _ => rfl) (fun x4 s3 => (TgP.nm (i := 5) rfl)) (fun x4 s3 => (BJ.app (i := 4) (en := row) (k := fun rows_here9 => (pure rows_here9)) rfl (AJ.pr (EsJ.consA (AJ.lo (AJ.lc (en := W.int) (eb := W.int) (EsJ.consV (VJ.lo (VJ.var rfl)) (EsJ.nil (S.of (en := W.int) fun _ h => it_rngI h))) (fun x5 => (TgP.nm (i := 6) rfl)) (fun x5 => (AJ.pr (EsJ.consV (VJ.rd rfl) (EsJ.consA (AJ.lo (AJ.cal (pk := fun v => .ex (W.int v)) (EsJ.consV (VJ.var rfl) (EsJ.consV (V.pr (VsJ.cons (VJ.rd rfl) VsJ.nil) ((pf_lenL (e := W.int) (xs := wide_here)))) (EsJ.nil (h_take ((wide_here.length : Int)))))))) fun x6 => (EsJ.nil (P.of (en := W.int) fun _ h => (pf_ixL (e := W.int) (xs := wide_here)) h)))))))) fun x7 => (EsJ.nil (P.tot (en := row) ((pf_tupL (e := W.int) (xs := x7))))))) fun rows_here9 => (BJ.nil (GLe.c (.same _) (GLe.c (.same _) (GLe.c (.same _) (GLe.c (.same _) (GLe.c (.same _) (GLe.c (.no _) (GLe.c (.no _) GLe.e)))))))))) (fun s3 => (BJ.retE (en := (eT row)) (AJ.pr (EsJ.consA (AJ.lo (AJ.pr (EsJ.consV (VJ.ob rfl) (EsJ.nil (P.of (en := (eL row)) fun _ h => pf_ssetRL h))))) fun x10 => (EsJ.nil (P.tot (en := (eT row)) ((pf_tupL (e := row) (xs := x10))))))) fun _ => rfl))))) (fzT (fzT fzI))
def S_L_store (scheme_here : List Int) (most : Int) (wide_here : List Int) : M (List Int) (List (List (List Int))) := (((pure scheme_here) >>= lcM fun x1 => (S_L_rows x1 most wide_here)) >>= fun x2 => (pure x2))
theorem c_L_store {T : List Def} {N d k : Nat} {c_rows : Nat} {a : Nat} (h_rows : ∀ (y0 : Int) (y1 : Int) (y2 : List Int), CS (DI.drw a) (evC T N d) c_rows [.ex (.ref a), .ex (W.int y0), .ex (W.int y1), .lo ((eL W.int) y2)] (fun v => .ex ((eT row) v)) (S_L_rows y0 y1 y2)) (i : Is T k 4 5 (L_store c_rows)) (scheme_here : List Int) (most : Int) (wide_here : List Int) : CS (DI.drw a) (evC T N (d + 1)) k [.ex (.ref a), .ex (row scheme_here), .ex (W.int most), .lo ((eL W.int) wide_here)] (fun v => .ex ((eT (eT row)) v)) (S_L_store scheme_here most wide_here) := by
  unfold S_L_store
  exact CS.df i rfl (fun b => (BJ.retE (en := (eT (eT row))) (AJ.pr (EsJ.consA (AJ.lo (AJ.lc (en := W.int) (eb := (eT row)) (EsJ.consV (VJ.lo (VJ.var rfl)) (EsJ.nil (S.tot (en := W.int) (it_T (e := W.int) (xs := scheme_here))))) (fun x1 => (TgP.nm (i := 4) rfl)) (fun x1 => (AJ.cal (pk := fun v => .ex ((eT row) v)) (EsJ.consV (VJ.var rfl) (EsJ.consV (VJ.var rfl) (EsJ.consV (VJ.var rfl) (EsJ.consV (VJ.rd rfl) (EsJ.nil (h_rows x1 most wide_here)))))))))) fun x2 => (EsJ.nil (P.tot (en := (eT (eT row))) ((pf_tupL (e := (eT row)) (xs := x2))))))) fun _ => rfl)) (fzT (fzT (fzT fzI)))
def S_L_needed (store_here : List (List (List Int))) (dependency_here : W) (widths : List Int) (wide_here : List Int) : M (List Int) (List (List (List Int))) := ((pure ([] : List (List Int))) >>= fun rows_here1 => (((((M.lift (ixW dependency_here 1)) >>= fun w => M.lift (dI w)) >>= fun x2 => (M.lift (ixL store_here x2))) >>= fun x3 => (pure x3)) >>= fun xs => Ow.forG (σ := (List (List Int))) (fun x5 s4 => ((((((M.lift (ixW dependency_here 3)) >>= fun w => M.lift (dI w)) >>= fun x6 => (M.lift (ixL widths x6))) >>= fun x7 => (M.lift (rng x7))) >>= lcM fun x8 => ((S_take ((wide_here.length : Int))) >>= fun x9 => (M.lift (ixL wide_here x9)))) >>= fun made10 => ((((M.lift (ixW dependency_here 2)) >>= fun x11 => (M.lift (lenW x11))) >>= fun x12 => (M.lift (rng x12))) >>= fun xs => Ow.forG (σ := (List Int)) (fun x14 s13 => (((((M.lift (ixW dependency_here 2)) >>= fun x15 => (M.lift (ixW x15 x14))) >>= fun w => M.lift (dI w)) >>= fun x16 => (M.lift (ixL x5 x16))) >>= fun x19 => (((M.lift (ixW dependency_here 4)) >>= fun x17 => (M.lift (ixW x17 x14))) >>= fun w => M.lift (dI w)) >>= fun x20 => M.lift (setI s13 x20 x19) >>= fun made18 => (pure made18))) xs made10 >>= fun (s13 : (List Int)) => ((pure s13) >>= fun x21 => M.chk (decide (s4.length < sizeLine)) >>= fun _ => (fun rows_here22 => (pure rows_here22)) (s4 ++ [x21]))))) xs rows_here1 >>= fun (s4 : (List (List Int))) => ((M.lift (ixW dependency_here 3)) >>= fun other23 => ((((M.lift (dI other23)) >>= fun x24 => (pure ((cut store_here none (some x24))))) >>= fun x31 => ((((((((M.lift (dI other23)) >>= fun x25 => (M.lift (ixL store_here x25))) >>= fun x26 => (pure x26)) >>= fun x27 => (M.lift (cat x27 s4))) >>= fun x28 => (M.lift (ssetR x28))) >>= fun x29 => (pure x29)) >>= fun x30 => (pure (([x30] : List (List (List Int)))))) >>= fun x32 => (M.lift (cat x31 x32)))) >>= fun x35 => ((((M.lift (dI other23)) >>= fun x33 => (pure ((x33 + 1)))) >>= fun x34 => (pure ((cut store_here (some x34) none)))) >>= fun x36 => (M.lift (cat x35 x36)))))))
theorem c_L_needed {T : List Def} {N d k : Nat} {c_take : Nat} {a : Nat} (h_take : ∀ (y0 : Int), CS (DI.drw a) (evC T N d) c_take [.ex (.ref a), .ex (W.int y0)] (fun v => .ex (W.int v)) (S_take y0)) (i : Is T k 5 11 (L_needed c_take)) (store_here : List (List (List Int))) (dependency_here : W) (widths : List Int) (wide_here : List Int) : CS (DI.drw a) (evC T N (d + 1)) k [.ex (.ref a), .ex ((eT (eT row)) store_here), .ex (eW dependency_here), .ex (row widths), .lo ((eL W.int) wide_here)] (fun v => .ex ((eT (eT row)) v)) (S_L_needed store_here dependency_here widths wide_here) := by
  unfold S_L_needed
  exact CS.df i rfl (fun b => (BJ.newL (i := 5) (en := row) (EsJ.nil (P.lstd (en := (eL row)))) fun rows_here1 => (BJ.forG (σ := (List (List Int))) (en := row) (s0 := rows_here1) (Gs := fun (s4 : (List (List Int))) => [.kn (.ref a), .kn ((eT (eT row)) store_here), .kn (eW dependency_here), .kn (row widths), .rd ((eL W.int) wide_here), .ob (.lst (s4.map row)), .no, .no, .no, .no, .no]) (EsJ.consA (AJ.lb (AJ.pr (EsJ.consV (VJ.lo (VJ.var rfl)) (EsJ.consA (AJ.lo (AJ.cast (AJ.prW (EsJ.consV (VJ.var rfl) (EsJ.consV VJ.cst (EsJ.nil (P.wv (en := eW) fun _ h => pw_ix h))))) decI)) fun x2 => (EsJ.nil (P.of (en := (eT row)) fun _ h => (pf_ixT (e := (eT row)) (xs := store_here)) h)))))) fun x3 => (EsJ.nil (B.tot (en := row) (it_T (e := row) (xs := x3))))) (GLe.c (.same _) (GLe.c (.same _) (GLe.c (.same _) (GLe.c (.same _) (GLe.c (.same _) (GLe.c (.same _) (GLe.c (.no _) (GLe.c (.no _) (GLe.c (.no _) (GLe.c (.no _) (GLe.c (.no _) GLe.e))))))))))) (fun _ => rfl) (fun x5 s4 => (TgP.nm (i := 6) rfl)) (fun x5 s4 => (BJ.newLc (i := 7) (en := W.int) (eb := W.int) (EsJ.consA (AJ.lo (AJ.pr (EsJ.consV (VJ.lo (VJ.var rfl)) (EsJ.consA (AJ.lo (AJ.cast (AJ.prW (EsJ.consV (VJ.var rfl) (EsJ.consV VJ.cst (EsJ.nil (P.wv (en := eW) fun _ h => pw_ix h))))) decI)) fun x6 => (EsJ.nil (P.of (en := W.int) fun _ h => (pf_ixT (e := W.int) (xs := widths)) h)))))) fun x7 => (EsJ.nil (S.of (en := W.int) fun _ h => it_rngI h))) (fun x8 => (TgP.nm (i := 10) rfl)) (fun x8 => (AJ.pr (EsJ.consV (VJ.rd rfl) (EsJ.consA (AJ.lo (AJ.cal (pk := fun v => .ex (W.int v)) (EsJ.consV (VJ.var rfl) (EsJ.consV (V.pr (VsJ.cons (VJ.rd rfl) VsJ.nil) ((pf_lenL (e := W.int) (xs := wide_here)))) (EsJ.nil (h_take ((wide_here.length : Int)))))))) fun x9 => (EsJ.nil (P.of (en := W.int) fun _ h => (pf_ixL (e := W.int) (xs := wide_here)) h)))))) fun made10 => (BJ.forG (σ := (List Int)) (en := W.int) (s0 := made10) (Gs := fun (s13 : (List Int)) => [.kn (.ref a), .kn ((eT (eT row)) store_here), .kn (eW dependency_here), .kn (row widths), .rd ((eL W.int) wide_here), .ob (.lst (s4.map row)), .kn (row x5), .ob (.lst (s13.map W.int)), .no, .no, .no]) (EsJ.consA (AJ.lb (AJ.prW (EsJ.consA (AJ.prW (EsJ.consV (VJ.var rfl) (EsJ.consV VJ.cst (EsJ.nil (P.wv (en := eW) fun _ h => pw_ix h))))) fun x11 => (EsJ.nil (P.wv (en := W.int) fun _ h => pw_len h))))) fun x12 => (EsJ.nil (B.of (en := W.int) fun _ h => it_rngI h))) (GLe.c (.same _) (GLe.c (.same _) (GLe.c (.same _) (GLe.c (.same _) (GLe.c (.same _) (GLe.c (.same _) (GLe.c (.same _) (GLe.c (.same _) (GLe.c (.no _) (GLe.c (.no _) (GLe.c (.no _) GLe.e))))))))))) (fun _ => rfl) (fun x14 s13 => (TgP.nm (i := 8) rfl)) (fun x14 s13 => (BJ.seti (i := 7) (en := W.int) (k := fun made18 => (pure made18)) rfl (AJ.pr (EsJ.consV (VJ.lo (VJ.var rfl)) (EsJ.consA (AJ.lo (AJ.cast (AJ.prW (EsJ.consA (AJ.prW (EsJ.consV (VJ.var rfl) (EsJ.consV VJ.cst (EsJ.nil (P.wv (en := eW) fun _ h => pw_ix h))))) fun x15 => (EsJ.consV (VJ.var rfl) (EsJ.nil (P.wv (en := eW) fun _ h => pw_ix h))))) decI)) fun x16 => (EsJ.nil (P.of (en := W.int) fun _ h => (pf_ixT (e := W.int) (xs := x5)) h))))) (AJ.cast (AJ.prW (EsJ.consA (AJ.prW (EsJ.consV (VJ.var rfl) (EsJ.consV VJ.cst (EsJ.nil (P.wv (en := eW) fun _ h => pw_ix h))))) fun x17 => (EsJ.consV (VJ.var rfl) (EsJ.nil (P.wv (en := eW) fun _ h => pw_ix h))))) decI) fun made18 => (BJ.nil (GLe.c (.same _) (GLe.c (.same _) (GLe.c (.same _) (GLe.c (.same _) (GLe.c (.same _) (GLe.c (.same _) (GLe.c (.same _) (GLe.c (.same _) (GLe.c (.no _) (GLe.c (.no _) (GLe.c (.no _) GLe.e)))))))))))))) (fun s13 => (BJ.app (i := 5) (en := row) (k := fun rows_here22 => (pure rows_here22)) rfl (AJ.ofV (pk := fun v => .ex (row v)) (V.pr (VsJ.cons (VJ.ob rfl) VsJ.nil) ((pf_tupL (e := W.int) (xs := s13))))) fun rows_here22 => (BJ.nil (GLe.c (.same _) (GLe.c (.same _) (GLe.c (.same _) (GLe.c (.same _) (GLe.c (.same _) (GLe.c (.same _) (GLe.c (.no _) (GLe.c (.no _) (GLe.c (.no _) (GLe.c (.no _) (GLe.c (.no _) GLe.e))))))))))))))))) (fun s4 => (BJ.asg (i := 9) (en := eW) (AJ.prW (EsJ.consV (VJ.var rfl) (EsJ.consV VJ.cst (EsJ.nil (P.wv (en := eW) fun _ h => pw_ix h))))) fun other23 => (BJ.retE (en := (eT (eT row))) (AJ.pr (EsJ.consA (AJ.lo (AJ.pr (EsJ.consA (AJ.lo (AJ.pr (EsJ.consV (VJ.lo (VJ.var rfl)) (EsJ.consA (AJ.lo (AJ.castV (VJ.var rfl) decI)) fun x24 => (EsJ.nil (P.tot (en := (eT (eT row))) ((pf_slT01 (e := (eT row)) (xs := store_here))))))))) fun x31 => (EsJ.consA (AJ.lo (AJ.pr (EsJ.consA (AJ.pr (EsJ.consA (AJ.lo (AJ.pr (EsJ.consA (AJ.lo (AJ.pr (EsJ.consA (AJ.lo (AJ.pr (EsJ.consA (AJ.lo (AJ.pr (EsJ.consV (VJ.lo (VJ.var rfl)) (EsJ.consA (AJ.lo (AJ.castV (VJ.var rfl) decI)) fun x25 => (EsJ.nil (P.of (en := (eT row)) fun _ h => (pf_ixT (e := (eT row)) (xs := store_here)) h)))))) fun x26 => (EsJ.nil (P.tot (en := (eL row)) ((pf_listT (e := row) (xs := x26)))))))) fun x27 => (EsJ.consV (VJ.ob rfl) (EsJ.nil (P.of (en := (eL row)) fun _ h => (pf_catL (e := row) (xs := x27) (ys := s4)) h)))))) fun x28 => (EsJ.nil (P.of (en := (eL row)) fun _ h => pf_ssetRL h))))) fun x29 => (EsJ.nil (P.tot (en := (eT row)) ((pf_tupL (e := row) (xs := x29))))))) fun x30 => (EsJ.nil (P.tupd (en := (eT (eT row)))))))) fun x32 => (EsJ.nil (P.of (en := (eT (eT row))) fun _ h => (pf_catT (e := (eT row)) (xs := x31) (ys := x32)) h)))))) fun x35 => (EsJ.consA (AJ.lo (AJ.pr (EsJ.consV (VJ.lo (VJ.var rfl)) (EsJ.consA (AJ.lo (AJ.pr (EsJ.consA (AJ.lo (AJ.castV (VJ.var rfl) decI)) fun x33 => (EsJ.consV (VJ.lo VJ.cst) (EsJ.nil (P.tot (en := W.int) pf_add)))))) fun x34 => (EsJ.nil (P.tot (en := (eT (eT row))) ((pf_slT10 (e := (eT row)) (xs := store_here))))))))) fun x36 => (EsJ.nil (P.of (en := (eT (eT row))) fun _ h => (pf_catT (e := (eT row)) (xs := x35) (ys := x36)) h))))) fun _ => rfl)))))) (fzT (fzT (fzT fzI)))
def S_L_some_2 (dependency_here : W) (keep : Bool) : M (List Int) W := (retW ((((((M.lift (ixW dependency_here 2)) >>= fun x1 => (M.lift (lenW x1))) >>= fun x2 => (M.lift (rng x2))) >>= lcM fun x3 => (pure x3)) >>= fun x4 => (S_L_shuffled_2 x4)) >>= fun order_here5 => ((if (!keep) then ((((S_take ((order_here5.length : Int))) >>= fun x7 => (pure ((1 + x7)))) >>= fun x8 => (pure ((cut order_here5 none (some x8))))) >>= fun order_here9 => (pure order_here9)) else (pure order_here5)) >>= fun (s6 : (List Int)) => ((((pure s6) >>= lcM fun x10 => ((M.lift (ixW dependency_here 2)) >>= fun x11 => (M.lift (ixW x11 x10)))) >>= fun x12 => (pure x12)) >>= fun columns_here13 => ((M.lift (ixW dependency_here 1)) >>= fun x17 => ((M.lift (ixW dependency_here 3)) >>= fun x18 => (((((pure s6) >>= lcM fun x14 => ((M.lift (ixW dependency_here 4)) >>= fun x15 => (M.lift (ixW x15 x14)))) >>= fun x16 => (pure x16)) >>= fun v => pure ((eT eW) v)) >>= fun x19 => (pure ((W.tup [((W.str (("within" : Str)))), x17, (((eT eW) columns_here13)), x18, x19]))))))))))
theorem c_L_some_2 {T : List Def} {N d k : Nat} {c_take : Nat} {c_shuffled : Nat} {a : Nat} (h_shuffled : ∀ (y0 : List Int), CS (DI.drw a) (evC T N d) c_shuffled [.ex (.ref a), .lo ((eL W.int) y0)] (fun v => .ex ((eL W.int) v)) (S_L_shuffled_2 y0)) (h_take : ∀ (y0 : Int), CS (DI.drw a) (evC T N d) c_take [.ex (.ref a), .ex (W.int y0)] (fun v => .ex (W.int v)) (S_take y0)) (i : Is T k 3 6 (L_some_2 c_take c_shuffled)) (dependency_here : W) (keep : Bool) : CS (DI.drw a) (evC T N (d + 1)) k [.ex (.ref a), .ex (eW dependency_here), .ex (W.bl keep)] (fun v => .ex (eW v)) (S_L_some_2 dependency_here keep) := by
  unfold S_L_some_2
  exact CS.dfW i rfl fun b => (BJ.asg (i := 3) (en := (eL W.int)) (AJ.cal (pk := fun v => .ex ((eL W.int) v)) (EsJ.consV (VJ.var rfl) (EsJ.consA (AJ.lo (AJ.lc (en := W.int) (eb := W.int) (EsJ.consA (AJ.lo (AJ.prW (EsJ.consA (AJ.prW (EsJ.consV (VJ.var rfl) (EsJ.consV VJ.cst (EsJ.nil (P.wv (en := eW) fun _ h => pw_ix h))))) fun x1 => (EsJ.nil (P.wv (en := W.int) fun _ h => pw_len h))))) fun x2 => (EsJ.nil (S.of (en := W.int) fun _ h => it_rngI h))) (fun x3 => (TgP.nm (i := 5) rfl)) (fun x3 => (AJ.ofV (pk := fun v => .ex (W.int v)) (VJ.var rfl))))) fun x4 => (EsJ.nil (h_shuffled x4))))) fun order_here5 => (BJ.join (sa := [_]) (Gj := fun (s6 : (List Int)) => [.kn (.ref a), .kn (eW dependency_here), .kn (W.bl keep), .kn ((eL W.int) s6), .no, .no]) (BJ.iffV (VJ.not (VJ.var rfl)) (BJ.asg (i := 3) (en := (eL W.int)) (AJ.pr (EsJ.consV (VJ.lo (VJ.var rfl)) (EsJ.consA (AJ.lo (AJ.pr (EsJ.consV (VJ.lo VJ.cst) (EsJ.consA (AJ.lo (AJ.cal (pk := fun v => .ex (W.int v)) (EsJ.consV (VJ.var rfl) (EsJ.consV (V.pr (VsJ.cons (VJ.lo (VJ.var rfl)) VsJ.nil) ((pf_lenL (e := W.int) (xs := order_here5)))) (EsJ.nil (h_take ((order_here5.length : Int)))))))) fun x7 => (EsJ.nil (P.tot (en := W.int) pf_add)))))) fun x8 => (EsJ.nil (P.tot (en := (eL W.int)) ((pf_slL01 (e := W.int) (xs := order_here5)))))))) fun order_here9 => (BJ.nil (GLe.c (.same _) (GLe.c (.same _) (GLe.c (.same _) (GLe.c (.same _) (GLe.c (.no _) (GLe.c (.no _) GLe.e)))))))) (BJ.nil (GLe.c (.same _) (GLe.c (.same _) (GLe.c (.same _) (GLe.c (.same _) (GLe.c (.no _) (GLe.c (.no _) GLe.e)))))))) fun s6 => (BJ.asg (i := 4) (en := (eT eW)) (AJ.pr (EsJ.consA (AJ.lo (AJ.lc (en := W.int) (eb := eW) (EsJ.consV (VJ.lo (VJ.var rfl)) (EsJ.nil (S.tot (en := W.int) (it_L (e := W.int) (xs := s6))))) (fun x10 => (TgP.nm (i := 5) rfl)) (fun x10 => (AJ.prW (EsJ.consA (AJ.prW (EsJ.consV (VJ.var rfl) (EsJ.consV VJ.cst (EsJ.nil (P.wv (en := eW) fun _ h => pw_ix h))))) fun x11 => (EsJ.consV (VJ.var rfl) (EsJ.nil (P.wv (en := eW) fun _ h => pw_ix h)))))))) fun x12 => (EsJ.nil (P.tot (en := (eT eW)) ((pf_tupL (e := eW) (xs := x12))))))) fun columns_here13 => (BJ.retE (en := eW) (AJ.pr (EsJ.consV VJ.cst (EsJ.consA (AJ.prW (EsJ.consV (VJ.var rfl) (EsJ.consV VJ.cst (EsJ.nil (P.wv (en := eW) fun _ h => pw_ix h))))) fun x17 => (EsJ.consV (VJ.var rfl) (EsJ.consA (AJ.prW (EsJ.consV (VJ.var rfl) (EsJ.consV VJ.cst (EsJ.nil (P.wv (en := eW) fun _ h => pw_ix h))))) fun x18 => (EsJ.consA (AJ.inj (en := (eT eW)) (AJ.pr (EsJ.consA (AJ.lo (AJ.lc (en := W.int) (eb := eW) (EsJ.consV (VJ.lo (VJ.var rfl)) (EsJ.nil (S.tot (en := W.int) (it_L (e := W.int) (xs := s6))))) (fun x14 => (TgP.nm (i := 5) rfl)) (fun x14 => (AJ.prW (EsJ.consA (AJ.prW (EsJ.consV (VJ.var rfl) (EsJ.consV VJ.cst (EsJ.nil (P.wv (en := eW) fun _ h => pw_ix h))))) fun x15 => (EsJ.consV (VJ.var rfl) (EsJ.nil (P.wv (en := eW) fun _ h => pw_ix h)))))))) fun x16 => (EsJ.nil (P.tot (en := (eT eW)) ((pf_tupL (e := eW) (xs := x16)))))))) fun x19 => (EsJ.nil (P.tupd (en := eW))))))))) fun _ => rfl))))
def S_L_ascending {δ : Type} (dependency_here : W) : M δ W := (retW ((((((M.lift (ixW dependency_here 2)) >>= fun x1 => (M.lift (lenW x1))) >>= fun x2 => (M.lift (rng x2))) >>= lcM fun x3 => ((((M.lift (ixW dependency_here 2)) >>= fun x4 => (M.lift (ixW x4 x3))) >>= fun w => M.lift (dI w)) >>= fun x6 => ((((M.lift (ixW dependency_here 4)) >>= fun x5 => (M.lift (ixW x5 x3))) >>= fun w => M.lift (dI w)) >>= fun x7 => (pure (([x6, x7] : List Int)))))) >>= fun x8 => (M.lift (sortR x8))) >>= fun pairs9 => ((M.lift (ixW dependency_here 1)) >>= fun x14 => (((((pure pairs9) >>= lcM fun x10 => (M.lift (ixL x10 0))) >>= fun x11 => (pure x11)) >>= fun v => pure (row v)) >>= fun x15 => ((M.lift (ixW dependency_here 3)) >>= fun x16 => (((((pure pairs9) >>= lcM fun x12 => (M.lift (ixL x12 1))) >>= fun x13 => (pure x13)) >>= fun v => pure (row v)) >>= fun x17 => (pure ((W.tup [((W.str (("within" : Str)))), x14, x15, x16, x17])))))))))
theorem c_L_ascending {T : List Def} {N d k : Nat} {δ : Type} {I : DI δ}  (i : Is T k 1 4 L_ascending) (dependency_here : W) : CS I (evC T N (d + 1)) k [.ex (eW dependency_here)] (fun v => .ex (eW v)) (S_L_ascending dependency_here) := by
  unfold S_L_ascending
  exact CS.dfW i rfl fun b => (BJ.asg (i := 1) (en := (eL row)) (AJ.pr (EsJ.consA (AJ.lo (AJ.lc (en := W.int) (eb := row) (EsJ.consA (AJ.lo (AJ.prW (EsJ.consA (AJ.prW (EsJ.consV (VJ.var rfl) (EsJ.consV VJ.cst (EsJ.nil (P.wv (en := eW) fun _ h => pw_ix h))))) fun x1 => (EsJ.nil (P.wv (en := W.int) fun _ h => pw_len h))))) fun x2 => (EsJ.nil (S.of (en := W.int) fun _ h => it_rngI h))) (fun x3 => (TgP.nm (i := 2) rfl)) (fun x3 => (AJ.pr (EsJ.consA (AJ.cast (AJ.prW (EsJ.consA (AJ.prW (EsJ.consV (VJ.var rfl) (EsJ.consV VJ.cst (EsJ.nil (P.wv (en := eW) fun _ h => pw_ix h))))) fun x4 => (EsJ.consV (VJ.var rfl) (EsJ.nil (P.wv (en := eW) fun _ h => pw_ix h))))) decI) fun x6 => (EsJ.consA (AJ.cast (AJ.prW (EsJ.consA (AJ.prW (EsJ.consV (VJ.var rfl) (EsJ.consV VJ.cst (EsJ.nil (P.wv (en := eW) fun _ h => pw_ix h))))) fun x5 => (EsJ.consV (VJ.var rfl) (EsJ.nil (P.wv (en := eW) fun _ h => pw_ix h))))) decI) fun x7 => (EsJ.nil (P.tupd (en := row))))))))) fun x8 => (EsJ.nil (P.of (en := (eL row)) fun _ h => pf_sortRL h)))) fun pairs9 => (BJ.retE (en := eW) (AJ.pr (EsJ.consV VJ.cst (EsJ.consA (AJ.prW (EsJ.consV (VJ.var rfl) (EsJ.consV VJ.cst (EsJ.nil (P.wv (en := eW) fun _ h => pw_ix h))))) fun x14 => (EsJ.consA (AJ.inj (en := row) (AJ.pr (EsJ.consA (AJ.lo (AJ.lc (en := row) (eb := W.int) (EsJ.consV (VJ.lo (VJ.var rfl)) (EsJ.nil (S.tot (en := row) (it_L (e := row) (xs := pairs9))))) (fun x10 => (TgP.nm (i := 3) rfl)) (fun x10 => (AJ.pr (EsJ.consV (VJ.lo (VJ.var rfl)) (EsJ.consV (VJ.lo VJ.cst) (EsJ.nil (P.of (en := W.int) fun _ h => (pf_ixT (e := W.int) (xs := x10)) h)))))))) fun x11 => (EsJ.nil (P.tot (en := row) ((pf_tupL (e := W.int) (xs := x11)))))))) fun x15 => (EsJ.consA (AJ.prW (EsJ.consV (VJ.var rfl) (EsJ.consV VJ.cst (EsJ.nil (P.wv (en := eW) fun _ h => pw_ix h))))) fun x16 => (EsJ.consA (AJ.inj (en := row) (AJ.pr (EsJ.consA (AJ.lo (AJ.lc (en := row) (eb := W.int) (EsJ.consV (VJ.lo (VJ.var rfl)) (EsJ.nil (S.tot (en := row) (it_L (e := row) (xs := pairs9))))) (fun x12 => (TgP.nm (i := 3) rfl)) (fun x12 => (AJ.pr (EsJ.consV (VJ.lo (VJ.var rfl)) (EsJ.consV (VJ.lo VJ.cst) (EsJ.nil (P.of (en := W.int) fun _ h => (pf_ixT (e := W.int) (xs := x12)) h)))))))) fun x13 => (EsJ.nil (P.tot (en := row) ((pf_tupL (e := W.int) (xs := x13)))))))) fun x17 => (EsJ.nil (P.tupd (en := eW))))))))) fun _ => rfl))
def S_law_k24 (script : List Int) : M (List Int) Bool := ((S_L_cell script) >>= fun cell_here1 => ((((M.lift (rng 3)) >>= lcM fun x2 => ((S_take 4) >>= fun x3 => (pure ((1 + x3))))) >>= fun x4 => (pure x4)) >>= fun scheme_here5 => ((S_L_wide cell_here1) >>= fun wide_here6 => ((S_L_store scheme_here5 5 wide_here6) >>= fun store_here7 => ((S_L_inclusion scheme_here5 (([0, 1] : List Int))) >>= fun first8 => ((((M.lift (ixW first8 4)) >>= fun x9 => (M.lift (lenW x9))) >>= fun x10 => ((M.lift (ixL scheme_here5 2)) >>= fun x11 => (pure ((if x11 < x10 then x11 else x10))))) >>= fun many12 => ((((((M.lift (ixL scheme_here5 2)) >>= fun x13 => (M.lift (rng x13))) >>= lcM fun x14 => (pure x14)) >>= fun x15 => (S_L_shuffled_2 x15)) >>= fun x16 => (pure ((cut x16 none (some many12))))) >>= fun there17 => ((((M.lift (ixW first8 4)) >>= fun x18 => (M.lift ((slW x18 none (some many12))))) >>= fun x19 => (pure ((W.tup [((W.str (("within" : Str)))), ((W.int 1)), x19, ((W.int 2)), ((row there17))])))) >>= fun second20 => ((((M.lift (ixW first8 2)) >>= fun x21 => (M.lift ((slW x21 none (some many12))))) >>= fun x22 => (pure ((W.tup [((W.str (("within" : Str)))), ((W.int 0)), x22, ((W.int 2)), ((row there17))])))) >>= fun third23 => ((((S_take 2) >>= fun x24 => (pure ((decide (x24 = 0))))) >>= fun c => if c then (((S_L_needed store_here7 first8 scheme_here5 wide_here6) >>= fun x26 => (S_L_needed x26 second20 scheme_here5 wide_here6)) >>= fun store_here27 => (pure store_here27)) else (pure store_here7)) >>= fun (s25 : (List (List (List Int)))) => ((pure ((([first8, second20, third23] : List W)))) >>= fun xs => Ow.forX (σ := Unit) (ρ := Bool) (fun x29 s28 => ((S_P_keeps scheme_here5 s25 x29) >>= fun told30 => ((S_L_ascending x29) >>= fun plain31 => ((((((M.lift (ixW plain31 3)) >>= fun w => M.lift (dI w)) >>= fun x32 => (M.lift (ixL s25 x32))) >>= fun x33 => (pure x33)) >>= lcM fun x34 => (((((M.lift (ixW plain31 4)) >>= fun w => M.lift ((dT dI) w)) >>= fun x35 => (pure x35)) >>= lcM fun x36 => (M.lift (ixL x34 x36))) >>= fun x37 => (pure x37))) >>= fun values38 => (((((((((M.lift (ixW plain31 1)) >>= fun w => M.lift (dI w)) >>= fun x39 => (M.lift (ixL s25 x39))) >>= fun x40 => (((M.lift (ixW plain31 2)) >>= fun w => M.lift ((dT dI) w)) >>= fun x41 => (S_P_projection x40 x41))) >>= fun x42 => (pure x42)) >>= lcM fun x43 => (pure (decide (x43 ∈ values38)))) >>= fun x44 => (pure ((!decide (false ∈ x44))))) >>= fun x45 => (pure ((!decide (told30 = x45))))) >>= fun c => if c then ((pure false) >>= fun v => pure (Ctl.rt v)) else ((((S_P_keeps scheme_here5 s25 plain31) >>= fun x46 => (pure ((!decide (x46 = told30))))) >>= fun c => if c then pure true else (((S_L_some_2 x29 true) >>= fun x47 => (S_P_keeps scheme_here5 s25 x47)) >>= fun x48 => (pure ((!decide (x48 = told30)))))) >>= fun c => if c then ((pure false) >>= fun v => pure (Ctl.rt v)) else ((if told30 then (((S_L_some_2 x29 false) >>= fun x49 => (S_P_keeps scheme_here5 s25 x49)) >>= fun c => pure (!c)) else pure false) >>= fun c => if c then ((pure false) >>= fun v => pure (Ctl.rt v)) else (pure ((Ctl.nx (()))))))))))) xs (()) >>= fun c => c.go (fun (s28 : Unit) => (((S_P_keeps scheme_here5 s25 first8) >>= fun c => if c then (S_P_keeps scheme_here5 s25 second20) else pure false) >>= fun c => if c then ((S_P_keeps scheme_here5 s25 third23) >>= fun x50 => (pure ((decide (x50 = true))))) else (pure true))) fun v => pure v)))))))))))
theorem c_law_k24 {T : List Def} {N d k : Nat} {c_keeps : Nat} {c_projection : Nat} {c_draws : Nat} {c_take : Nat} {c_cell : Nat} {c_shuffled : Nat} {c_inclusion : Nat} {c_wide : Nat} {c_store : Nat} {c_needed : Nat} {c_some : Nat} {c_ascending : Nat} (h_cell : ∀ (y0 : List Int), CS (DI.drw 0) (evC T N d) c_cell [.ex ((eSL W.int) y0), .ex (.ref 0)] (fun v => .ex (W.int v)) (S_L_cell y0)) (h_take : ∀ (y0 : Int), CS (DI.drw 0) (evC T N d) c_take [.ex (.ref 0), .ex (W.int y0)] (fun v => .ex (W.int v)) (S_take y0)) (h_wide : ∀ (y0 : Int), CS (DI.drw 0) (evC T N d) c_wide [.ex (.ref 0), .ex (W.int y0)] (fun v => .ex ((eL W.int) v)) (S_L_wide y0)) (h_store : ∀ (y0 : List Int) (y1 : Int) (y2 : List Int), CS (DI.drw 0) (evC T N d) c_store [.ex (.ref 0), .ex (row y0), .ex (W.int y1), .lo ((eL W.int) y2)] (fun v => .ex ((eT (eT row)) v)) (S_L_store y0 y1 y2)) (h_inclusion : ∀ (y0 : List Int) (y1 : List Int), CS (DI.drw 0) (evC T N d) c_inclusion [.ex (.ref 0), .ex (row y0), .lo ((eL W.int) y1)] (fun v => .ex (eW v)) (S_L_inclusion y0 y1)) (h_shuffled : ∀ (y0 : List Int), CS (DI.drw 0) (evC T N d) c_shuffled [.ex (.ref 0), .lo ((eL W.int) y0)] (fun v => .ex ((eL W.int) v)) (S_L_shuffled_2 y0)) (h_needed : ∀ (y0 : List (List (List Int))) (y1 : W) (y2 : List Int) (y3 : List Int), CS (DI.drw 0) (evC T N d) c_needed [.ex (.ref 0), .ex ((eT (eT row)) y0), .ex (eW y1), .ex (row y2), .lo ((eL W.int) y3)] (fun v => .ex ((eT (eT row)) v)) (S_L_needed y0 y1 y2 y3)) (h_keeps : ∀ (y0 : List Int) (y1 : List (List (List Int))) (y2 : W), CS (DI.drw 0) (evC T N d) c_keeps [.ex (row y0), .ex ((eT (eT row)) y1), .ex (eW y2)] (fun v => .ex (W.bl v)) (S_P_keeps y0 y1 y2)) (h_ascending : ∀ (y0 : W), CS (DI.drw 0) (evC T N d) c_ascending [.ex (eW y0)] (fun v => .ex (eW v)) (S_L_ascending y0)) (h_projection : ∀ (y0 : List (List Int)) (y1 : List Int), CS (DI.drw 0) (evC T N d) c_projection [.ex ((eT row) y0), .ex (row y1)] (fun v => .ex ((eT row) v)) (S_P_projection y0 y1)) (h_some : ∀ (y0 : W) (y1 : Bool), CS (DI.drw 0) (evC T N d) c_some [.ex (.ref 0), .ex (eW y0), .ex (W.bl y1)] (fun v => .ex (eW v)) (S_L_some_2 y0 y1)) (i : Is T k 1 19 (law_k24 c_keeps c_projection c_draws c_take c_cell c_shuffled c_inclusion c_wide c_store c_needed c_some c_ascending)) (script : List Int) {ds : List Int} (hd : evC T N d 0 c_draws [.slst (iv script), .int 300] [] = .ok (.ref 0) [.lst (iv ds)]) (ok : ∃ d', S_law_k24 script ds = some (.ok true, d')) : ∃ h', evC T N (d + 1) 0 k [.slst (iv script)] [] = .ok (.bl true) h' := by
  refine law_go i (by decide) hd ?_ ok
  unfold S_law_k24
  exact (BJ.asg (i := 2) (en := W.int) (AJ.cal (pk := fun v => .ex (W.int v)) (EsJ.consV (VJ.var rfl) (EsJ.consV (VJ.var rfl) (EsJ.nil (h_cell script))))) fun cell_here1 => (BJ.asg (i := 3) (en := row) (AJ.pr (EsJ.consA (AJ.lo (AJ.lc (en := W.int) (eb := W.int) (EsJ.consV (VJ.lo VJ.cst) (EsJ.nil (S.of (en := W.int) fun _ h => it_rngI h))) (fun x2 => (TgP.nm (i := 15) rfl)) (fun x2 => (AJ.pr (EsJ.consV (VJ.lo VJ.cst) (EsJ.consA (AJ.lo (AJ.cal (pk := fun v => .ex (W.int v)) (EsJ.consV (VJ.var rfl) (EsJ.consV VJ.cst (EsJ.nil (h_take 4)))))) fun x3 => (EsJ.nil (P.tot (en := W.int) pf_add)))))))) fun x4 => (EsJ.nil (P.tot (en := row) ((pf_tupL (e := W.int) (xs := x4))))))) fun scheme_here5 => (BJ.asg (i := 4) (en := (eL W.int)) (AJ.cal (pk := fun v => .ex ((eL W.int) v)) (EsJ.consV (VJ.var rfl) (EsJ.consV (VJ.var rfl) (EsJ.nil (h_wide cell_here1))))) fun wide_here6 => (BJ.asg (i := 5) (en := (eT (eT row))) (AJ.cal (pk := fun v => .ex ((eT (eT row)) v)) (EsJ.consV (VJ.var rfl) (EsJ.consV (VJ.var rfl) (EsJ.consV VJ.cst (EsJ.consV (VJ.lo (VJ.var rfl)) (EsJ.nil (h_store scheme_here5 5 wide_here6))))))) fun store_here7 => (BJ.asg (i := 6) (en := eW) (AJ.cal (pk := fun v => .ex (eW v)) (EsJ.consV (VJ.var rfl) (EsJ.consV (VJ.var rfl) (EsJ.consV (VJ.lo (V.lstd (VsJ.cons VJ.cst (VsJ.cons VJ.cst VsJ.nil)))) (EsJ.nil (h_inclusion scheme_here5 (([0, 1] : List Int)))))))) fun first8 => (BJ.asg (i := 7) (en := W.int) (AJ.pr (EsJ.consA (AJ.lo (AJ.prW (EsJ.consA (AJ.prW (EsJ.consV (VJ.var rfl) (EsJ.consV VJ.cst (EsJ.nil (P.wv (en := eW) fun _ h => pw_ix h))))) fun x9 => (EsJ.nil (P.wv (en := W.int) fun _ h => pw_len h))))) fun x10 => (EsJ.consA (AJ.lo (AJ.pr (EsJ.consV (VJ.lo (VJ.var rfl)) (EsJ.consV (VJ.lo VJ.cst) (EsJ.nil (P.of (en := W.int) fun _ h => (pf_ixT (e := W.int) (xs := scheme_here5)) h)))))) fun x11 => (EsJ.nil (P.tot (en := W.int) pf_min2))))) fun many12 => (BJ.asg (i := 8) (en := (eL W.int)) (AJ.pr (EsJ.consA (AJ.lo (AJ.cal (pk := fun v => .ex ((eL W.int) v)) (EsJ.consV (VJ.var rfl) (EsJ.consA (AJ.lo (AJ.lc (en := W.int) (eb := W.int) (EsJ.consA (AJ.lo (AJ.pr (EsJ.consV (VJ.lo (VJ.var rfl)) (EsJ.consV (VJ.lo VJ.cst) (EsJ.nil (P.of (en := W.int) fun _ h => (pf_ixT (e := W.int) (xs := scheme_here5)) h)))))) fun x13 => (EsJ.nil (S.of (en := W.int) fun _ h => it_rngI h))) (fun x14 => (TgP.nm (i := 17) rfl)) (fun x14 => (AJ.ofV (pk := fun v => .ex (W.int v)) (VJ.var rfl))))) fun x15 => (EsJ.nil (h_shuffled x15)))))) fun x16 => (EsJ.consV (VJ.lo (VJ.var rfl)) (EsJ.nil (P.tot (en := (eL W.int)) ((pf_slL01 (e := W.int) (xs := x16)))))))) fun there17 => (BJ.asg (i := 9) (en := eW) (AJ.pr (EsJ.consV VJ.cst (EsJ.consV VJ.cst (EsJ.consA (AJ.prW (EsJ.consA (AJ.prW (EsJ.consV (VJ.var rfl) (EsJ.consV VJ.cst (EsJ.nil (P.wv (en := eW) fun _ h => pw_ix h))))) fun x18 => (EsJ.consV (VJ.var rfl) (EsJ.nil (P.wv (en := eW) fun _ h => pw_sl01 h))))) fun x19 => (EsJ.consV VJ.cst (EsJ.consV (V.pr (VsJ.cons (VJ.lo (VJ.var rfl)) VsJ.nil) ((pf_tupL (e := W.int) (xs := there17)))) (EsJ.nil (P.tupd (en := eW))))))))) fun second20 => (BJ.asg (i := 10) (en := eW) (AJ.pr (EsJ.consV VJ.cst (EsJ.consV VJ.cst (EsJ.consA (AJ.prW (EsJ.consA (AJ.prW (EsJ.consV (VJ.var rfl) (EsJ.consV VJ.cst (EsJ.nil (P.wv (en := eW) fun _ h => pw_ix h))))) fun x21 => (EsJ.consV (VJ.var rfl) (EsJ.nil (P.wv (en := eW) fun _ h => pw_sl01 h))))) fun x22 => (EsJ.consV VJ.cst (EsJ.consV (V.pr (VsJ.cons (VJ.lo (VJ.var rfl)) VsJ.nil) ((pf_tupL (e := W.int) (xs := there17)))) (EsJ.nil (P.tupd (en := eW))))))))) fun third23 => (BJ.join (sa := [_]) (Gj := fun (s25 : (List (List (List Int)))) => [.kn ((eSL W.int) script), .kn (.ref 0), .kn (W.int cell_here1), .kn (row scheme_here5), .kn ((eL W.int) wide_here6), .kn ((eT (eT row)) s25), .kn (eW first8), .kn (W.int many12), .kn ((eL W.int) there17), .kn (eW second20), .kn (eW third23), .no, .no, .no, .no, .no, .no, .no, .no]) (BJ.iffA (AJ.pr (EsJ.consA (AJ.lo (AJ.cal (pk := fun v => .ex (W.int v)) (EsJ.consV (VJ.var rfl) (EsJ.consV VJ.cst (EsJ.nil (h_take 2)))))) fun x24 => (EsJ.consV (VJ.lo VJ.cst) (EsJ.nil (P.tot (en := W.bl) pf_eqI))))) (BJ.asg (i := 5) (en := (eT (eT row))) (AJ.cal (pk := fun v => .ex ((eT (eT row)) v)) (EsJ.consV (VJ.var rfl) (EsJ.consA (AJ.cal (pk := fun v => .ex ((eT (eT row)) v)) (EsJ.consV (VJ.var rfl) (EsJ.consV (VJ.var rfl) (EsJ.consV (VJ.var rfl) (EsJ.consV (VJ.var rfl) (EsJ.consV (VJ.lo (VJ.var rfl)) (EsJ.nil (h_needed store_here7 first8 scheme_here5 wide_here6)))))))) fun x26 => (EsJ.consV (VJ.var rfl) (EsJ.consV (VJ.var rfl) (EsJ.consV (VJ.lo (VJ.var rfl)) (EsJ.nil (h_needed x26 second20 scheme_here5 wide_here6)))))))) fun store_here27 => (BJ.nil (GLe.c (.same _) (GLe.c (.same _) (GLe.c (.same _) (GLe.c (.same _) (GLe.c (.same _) (GLe.c (.same _) (GLe.c (.same _) (GLe.c (.same _) (GLe.c (.same _) (GLe.c (.same _) (GLe.c (.same _) (GLe.c (.no _) (GLe.c (.no _) (GLe.c (.no _) (GLe.c (.no _) (GLe.c (.no _) (GLe.c (.no _) (GLe.c (.no _) (GLe.c (.no _) GLe.e))))))))))))))))))))) (BJ.nil (GLe.c (.same _) (GLe.c (.same _) (GLe.c (.same _) (GLe.c (.same _) (GLe.c (.same _) (GLe.c (.same _) (GLe.c (.same _) (GLe.c (.same _) (GLe.c (.same _) (GLe.c (.same _) (GLe.c (.same _) (GLe.c (.no _) (GLe.c (.no _) (GLe.c (.no _) (GLe.c (.no _) (GLe.c (.no _) (GLe.c (.no _) (GLe.c (.no _) (GLe.c (.no _) GLe.e))))))))))))))))))))) fun s25 => (BJ.forX (σ := Unit) (ρ := Bool) (en := eW) (er := W.bl) (cr := fun v => v) (s0 := ()) (Gs := fun (s28 : Unit) => [.kn ((eSL W.int) script), .kn (.ref 0), .kn (W.int cell_here1), .kn (row scheme_here5), .kn ((eL W.int) wide_here6), .kn ((eT (eT row)) s25), .kn (eW first8), .kn (W.int many12), .kn ((eL W.int) there17), .kn (eW second20), .kn (eW third23), .no, .no, .no, .no, .no, .no, .no, .no]) (EsJ.consV (VJ.lb (V.lstd (VsJ.cons (VJ.var rfl) (VsJ.cons (VJ.var rfl) (VsJ.cons (VJ.var rfl) VsJ.nil))))) (EsJ.nil (B.tot (en := eW) (it_L (e := eW) (xs := (([first8, second20, third23] : List W))))))) (GLe.c (.same _) (GLe.c (.same _) (GLe.c (.same _) (GLe.c (.same _) (GLe.c (.same _) (GLe.c (.same _) (GLe.c (.same _) (GLe.c (.same _) (GLe.c (.same _) (GLe.c (.same _) (GLe.c (.same _) (GLe.c (.no _) (GLe.c (.no _) (GLe.c (.no _) (GLe.c (.no _) (GLe.c (.no _) (GLe.c (.no _) (GLe.c (.no _) (GLe.c (.no _) GLe.e))))))))))))))))))) (fun _ => rfl) (fun x29 s28 => (TgP.nm (i := 11) rfl)) (fun x29 s28 => (BJ.asg (i := 12) (en := W.bl) (AJ.cal (pk := fun v => .ex (W.bl v)) (EsJ.consV (VJ.var rfl) (EsJ.consV (VJ.var rfl) (EsJ.consV (VJ.var rfl) (EsJ.nil (h_keeps scheme_here5 s25 x29)))))) fun told30 => (BJ.asg (i := 13) (en := eW) (AJ.cal (pk := fun v => .ex (eW v)) (EsJ.consV (VJ.var rfl) (EsJ.nil (h_ascending x29)))) fun plain31 => (BJ.asg (i := 14) (en := (eL row)) (AJ.lc (en := row) (eb := row) (EsJ.consA (AJ.lo (AJ.pr (EsJ.consV (VJ.lo (VJ.var rfl)) (EsJ.consA (AJ.lo (AJ.cast (AJ.prW (EsJ.consV (VJ.var rfl) (EsJ.consV VJ.cst (EsJ.nil (P.wv (en := eW) fun _ h => pw_ix h))))) decI)) fun x32 => (EsJ.nil (P.of (en := (eT row)) fun _ h => (pf_ixT (e := (eT row)) (xs := s25)) h)))))) fun x33 => (EsJ.nil (S.tot (en := row) (it_T (e := row) (xs := x33))))) (fun x34 => (TgP.nm (i := 16) rfl)) (fun x34 => (AJ.pr (EsJ.consA (AJ.lo (AJ.lc (en := W.int) (eb := W.int) (EsJ.consA (AJ.lo (AJ.cast (AJ.prW (EsJ.consV (VJ.var rfl) (EsJ.consV VJ.cst (EsJ.nil (P.wv (en := eW) fun _ h => pw_ix h))))) (decT decI))) fun x35 => (EsJ.nil (S.tot (en := W.int) (it_T (e := W.int) (xs := x35))))) (fun x36 => (TgP.nm (i := 17) rfl)) (fun x36 => (AJ.pr (EsJ.consV (VJ.lo (VJ.var rfl)) (EsJ.consV (VJ.lo (VJ.var rfl)) (EsJ.nil (P.of (en := W.int) fun _ h => (pf_ixT (e := W.int) (xs := x34)) h)))))))) fun x37 => (EsJ.nil (P.tot (en := row) ((pf_tupL (e := W.int) (xs := x37))))))))) fun values38 => (BJ.iffA (AJ.pr (EsJ.consV (VJ.lo (VJ.var rfl)) (EsJ.consA (AJ.lo (AJ.pr (EsJ.consV (VJ.lo VJ.cst) (EsJ.consA (AJ.lo (AJ.lc (en := row) (eb := W.bl) (EsJ.consA (AJ.lo (AJ.cal (pk := fun v => .ex ((eT row) v)) (EsJ.consA (AJ.pr (EsJ.consV (VJ.lo (VJ.var rfl)) (EsJ.consA (AJ.lo (AJ.cast (AJ.prW (EsJ.consV (VJ.var rfl) (EsJ.consV VJ.cst (EsJ.nil (P.wv (en := eW) fun _ h => pw_ix h))))) decI)) fun x39 => (EsJ.nil (P.of (en := (eT row)) fun _ h => (pf_ixT (e := (eT row)) (xs := s25)) h))))) fun x40 => (EsJ.consA (AJ.cast (AJ.prW (EsJ.consV (VJ.var rfl) (EsJ.consV VJ.cst (EsJ.nil (P.wv (en := eW) fun _ h => pw_ix h))))) (decT decI)) fun x41 => (EsJ.nil (h_projection x40 x41)))))) fun x42 => (EsJ.nil (S.tot (en := row) (it_T (e := row) (xs := x42))))) (fun x43 => (TgP.nm (i := 18) rfl)) (fun x43 => (AJ.ofV (pk := fun v => .ex (W.bl v)) (V.pr (VsJ.cons (VJ.lo (VJ.var rfl)) (VsJ.cons (VJ.lo (VJ.var rfl)) VsJ.nil)) ((pf_memTL Dt.int rfl))))))) fun x44 => (EsJ.nil (P.tot (en := W.bl) ((pf_nmem pf_memBL)))))))) fun x45 => (EsJ.nil (P.tot (en := W.bl) pf_neB))))) (BJ.ret (en := W.bl) (cv := fun v => Ctl.rt v) (AJ.ofV (pk := fun v => .ex (W.bl v)) VJ.cst) fun _ => rfl) (BJ.iffA (AJ.orA (AJ.pr (EsJ.consA (AJ.lo (AJ.cal (pk := fun v => .ex (W.bl v)) (EsJ.consV (VJ.var rfl) (EsJ.consV (VJ.var rfl) (EsJ.consV (VJ.var rfl) (EsJ.nil (h_keeps scheme_here5 s25 plain31))))))) fun x46 => (EsJ.consV (VJ.lo (VJ.var rfl)) (EsJ.nil (P.tot (en := W.bl) pf_neB))))) (AJ.pr (EsJ.consA (AJ.lo (AJ.cal (pk := fun v => .ex (W.bl v)) (EsJ.consV (VJ.var rfl) (EsJ.consV (VJ.var rfl) (EsJ.consA (AJ.cal (pk := fun v => .ex (eW v)) (EsJ.consV (VJ.var rfl) (EsJ.consV (VJ.var rfl) (EsJ.consV VJ.cst (EsJ.nil (h_some x29 true)))))) fun x47 => (EsJ.nil (h_keeps scheme_here5 s25 x47))))))) fun x48 => (EsJ.consV (VJ.lo (VJ.var rfl)) (EsJ.nil (P.tot (en := W.bl) pf_neB)))))) (BJ.ret (en := W.bl) (cv := fun v => Ctl.rt v) (AJ.ofV (pk := fun v => .ex (W.bl v)) VJ.cst) fun _ => rfl) (BJ.iffA (AJ.andV (VJ.var rfl) fun _ => (AJ.not (AJ.cal (pk := fun v => .ex (W.bl v)) (EsJ.consV (VJ.var rfl) (EsJ.consV (VJ.var rfl) (EsJ.consA (AJ.cal (pk := fun v => .ex (eW v)) (EsJ.consV (VJ.var rfl) (EsJ.consV (VJ.var rfl) (EsJ.consV VJ.cst (EsJ.nil (h_some x29 false)))))) fun x49 => (EsJ.nil (h_keeps scheme_here5 s25 x49)))))))) (BJ.ret (en := W.bl) (cv := fun v => Ctl.rt v) (AJ.ofV (pk := fun v => .ex (W.bl v)) VJ.cst) fun _ => rfl) (BJ.nil (GLe.c (.same _) (GLe.c (.same _) (GLe.c (.same _) (GLe.c (.same _) (GLe.c (.same _) (GLe.c (.same _) (GLe.c (.same _) (GLe.c (.same _) (GLe.c (.same _) (GLe.c (.same _) (GLe.c (.same _) (GLe.c (.no _) (GLe.c (.no _) (GLe.c (.no _) (GLe.c (.no _) (GLe.c (.no _) (GLe.c (.no _) (GLe.c (.no _) (GLe.c (.no _) GLe.e))))))))))))))))))))))))))) (fun s28 => (BJ.iffA (AJ.andA (AJ.cal (pk := fun v => .ex (W.bl v)) (EsJ.consV (VJ.var rfl) (EsJ.consV (VJ.var rfl) (EsJ.consV (VJ.var rfl) (EsJ.nil (h_keeps scheme_here5 s25 first8)))))) (AJ.cal (pk := fun v => .ex (W.bl v)) (EsJ.consV (VJ.var rfl) (EsJ.consV (VJ.var rfl) (EsJ.consV (VJ.var rfl) (EsJ.nil (h_keeps scheme_here5 s25 second20))))))) (BJ.retE (en := W.bl) (AJ.pr (EsJ.consA (AJ.lo (AJ.cal (pk := fun v => .ex (W.bl v)) (EsJ.consV (VJ.var rfl) (EsJ.consV (VJ.var rfl) (EsJ.consV (VJ.var rfl) (EsJ.nil (h_keeps scheme_here5 s25 third23))))))) fun x50 => (EsJ.consV (VJ.lo VJ.cst) (EsJ.nil (P.tot (en := W.bl) pf_isB))))) fun _ => rfl) (BJ.retE (en := W.bl) (AJ.ofV (pk := fun v => .ex (W.bl v)) VJ.cst) fun _ => rfl))) fun _ => rfl)))))))))))
end Ow

/-! X1: what the drawing helpers do (one family). -/
namespace Ow
open PySem SetF
variable {δ : Type}
theorem ok_shuffled {xs : List Int} (hl : xs.length ≤ 1000) : Ok (S_L_shuffled_2 xs) fun ys => ys.Perm xs := by
  unfold S_L_shuffled_2
  simp only [pure_bind, bind_pure]
  refine (Ok.for0 (J := fun i s => s.Perm (xs.take i)) (List.Perm.refl _) fun i x hx s hs => ?_).mono fun v h => by rwa [List.take_length] at h
  have hi := (List.getElem?_eq_some_iff.mp hx).1
  have hsl : s.length = i := by rw [hs.length_eq, List.length_take]; omega
  refine (Ok.take (by omega)).bind fun v hv => ?_
  have hb := size_big
  have hins : insI s v x = some (s.take v.toNat ++ x :: s.drop v.toNat) := if_pos ⟨by omega, hv.1, by omega⟩
  rw [hins]
  refine .pure ?_
  rw [List.take_succ, hx]
  have h1 : (s.take v.toNat ++ x :: s.drop v.toNat).Perm (x :: s) := by
    refine List.perm_middle.trans (List.Perm.cons x ?_)
    rw [List.take_append_drop]
  exact h1.trans ((List.Perm.cons x hs).trans (List.perm_append_singleton x _).symm)
theorem ok_cell (script : List Int) : Ok (S_L_cell script) fun _ => True := by
  unfold S_L_cell
  simp only [bind_pure]
  refine .ite (fun _ => .pure trivial) fun h => ?_
  have h0 : script.length ≠ 0 := by simpa using h
  exact (Ok.take (by omega)).bind fun v hv => .ix hv.1 hv.2 fun _ _ _ => trivial
theorem ok_wide (cell : Int) : Ok (S_L_wide cell) fun vs => 2 ≤ vs.length ∧ vs.length ≤ 5 := by
  unfold S_L_wide
  refine ((Ok.take (by omega)).bind fun v hv => Ok.ix (Q := fun m => 2 ≤ m ∧ m ≤ 5) hv.1 (by simpa using hv.2) fun m hm _ => by
    simp only [List.mem_cons, List.not_mem_nil, or_false] at hm; omega).bind fun m hm => ?_
  refine ((Ok.take (by omega)).bind fun v hv => Ok.ix (Q := fun _ => True) hv.1 (by simpa using hv.2) fun _ _ _ => trivial).bind fun b _ => ?_
  simp only [bind_assoc, pure_bind]
  refine (Ok.take (by omega)).bind fun v hv => .ite (fun _ => .pure ?_) fun _ => ?_
  · obtain ⟨n, rfl⟩ : ∃ n : Nat, m = n := ⟨m.toNat, by omega⟩
    unfold cut
    rw [HT.sIx_none, HT.sIx_nat]
    simp
    omega
  · rw [rng_of (by omega) (by omega)]
    simp only [M.lift_some, pure_bind]
    refine (Ok.lcM (R := fun _ _ => True) (by simp; omega) fun _ _ => .pure trivial).mono fun ys h => ?_
    have := h.length
    rw [rngN_len] at this
    omega
/-- drawn rows -/
structure RowsIn' (w m : Int) (rows : List (List Int)) : Prop where
  len : (rows.length : Int) ≤ m
  each : ∀ r ∈ rows, (r.length : Int) = w
  eq : ∃ rs, rows = sortRows rs
theorem RowsIn'.fix {w m : Int} {rows : List (List Int)} (h : RowsIn' w m rows) : sortRows rows = rows := by
  obtain ⟨rs, rfl⟩ := h.eq
  exact (sortRows_eq (sortRows_pair rs) (sortRows_nodup rs) fun r => Iff.rfl).symm
theorem ssetR_of {rs : List (List Int)} (hl : rs.length < 64) (ho : RowsOk rs) : ssetR rs = some (sortRows rs) := by unfold ssetR; rw [if_pos ⟨hl, ho.b⟩]
theorem RowsOk.lenI {w : Int} {rows : List (List Int)} (h : ∀ r ∈ rows, (r.length : Int) = w) : RowsOk rows := RowsOk.len (w := w.toNat) fun r hr => by have := h r hr; omega
theorem ok_rows {w m : Int} {vs : List Int} (hw : 0 ≤ w ∧ w ≤ 1000) (hm : 0 ≤ m ∧ m < 64) (hv : 0 < vs.length) : Ok (S_L_rows w m vs) (RowsIn' w m) := by
  unfold S_L_rows
  simp only [bind_assoc, pure_bind, bind_pure]
  refine (Ok.take (by omega)).bind fun n hn => ?_
  rw [rng_of (by omega) (by omega)]
  simp only [M.lift_some, pure_bind]
  refine (Ok.for0 (J := fun i (s : List (List Int)) => s.length = i ∧ ∀ r ∈ s, (r.length : Int) = w) ⟨rfl, fun r hr => by cases hr⟩ fun i x hx s hs => ?_).bind fun s hs => ?_
  · have hi := (List.getElem?_eq_some_iff.mp hx).1
    rw [rngN_len] at hi
    rw [rng_of (by omega) (by omega)]
    simp only [M.lift_some, pure_bind]
    refine (Ok.lcM (R := fun _ _ => True) (by simp; omega) fun _ _ => (Ok.take (by omega)).bind fun v hv => .ix hv.1 hv.2 fun _ _ _ => trivial).bind fun r hr => ?_
    have hrl := hr.length
    rw [rngN_len] at hrl
    have hb := size_big
    rw [chk_of (decide_eq_true (by omega))]
    refine .pure ⟨by simp [hs.1], fun q hq => ?_⟩
    rcases List.mem_append.mp hq with hq | hq
    · exact hs.2 q hq
    · rw [List.mem_singleton.mp hq, hrl]; omega
  · have hsl := hs.1
    rw [rngN_len] at hsl
    rw [ssetR_of (by omega) (.lenI hs.2)]
    refine .pure ⟨?_, fun r hr => hs.2 r (mem_sortRows.mp hr), s, rfl⟩
    rw [sortRows_len]
    have := length_uniq s
    omega
/-- a store of a scheme -/
structure StoreIn' (ws : List Int) (m : Int) (st : List (List (List Int))) : Prop where
  len : st.length = ws.length
  each : ∀ (j : Nat) (w : Int) (rows : List (List Int)), ws[j]? = some w → st[j]? = some rows → RowsIn' w m rows
theorem ok_store {ws : List Int} {m : Int} {vs : List Int} (hws : ∀ w ∈ ws, 0 ≤ w ∧ w ≤ 1000) (hl : ws.length ≤ 1000) (hm : 0 ≤ m ∧ m < 64) (hv : 0 < vs.length) : Ok (S_L_store ws m vs) (StoreIn' ws m) := by
  unfold S_L_store
  simp only [pure_bind, bind_pure]
  exact (Ok.lcM (R := fun w rows => RowsIn' w m rows) (by omega) fun w hw => ok_rows (hws w hw) hm hv).mono fun st h => ⟨h.length, fun j w rows hw hr => h.get j w rows hw hr⟩
end Ow

/-! X2: rows, projections, inclusions. -/
namespace Ow
open PySem SetF
variable {δ : Type}
/-- the values of a row in these columns -/
def pickI (r : List Int) (cs : List Int) : List Int := cs.map (gI r)
theorem pickI_len (r cs : List Int) : (pickI r cs).length = cs.length := List.length_map _
def InW (w c : Int) : Prop := 0 ≤ c ∧ c < w
theorem s_picked {r cs : List Int} (hl : cs.length ≤ 1000) (hc : ∀ c ∈ cs, InW r.length c) : S_P_picked (δ := δ) r cs = pure (pickI r cs) := by
  unfold S_P_picked
  have hb := size_big
  rw [pure_bind, lcM_pure (gI r) (by omega) fun c h => by rw [ixL_g (hc c h).1 (hc c h).2]; rfl]
  rfl
theorem s_projected {rows : List (List Int)} {cs : List Int} (hl : cs.length ≤ 1000) (hr : rows.length < 64) (hc : ∀ r ∈ rows, ∀ c ∈ cs, InW r.length c) : S_P_projected (δ := δ) rows cs = pure (sortRows (rows.map fun r => pickI r cs)) := by
  unfold S_P_projected
  have hb := size_big
  rw [pure_bind, lcM_pure (fun r => pickI r cs) (by omega) fun r h => s_picked hl (hc r h)]
  simp only [pure_bind]
  rw [ssetR_of (by simpa using hr) (.len (w := cs.length) fun r hr => by
    obtain ⟨q, _, rfl⟩ := List.mem_map.mp hr
    exact pickI_len q cs)]
  rfl
theorem s_projection {rows : List (List Int)} {cs : List Int} (hl : cs.length ≤ 1000) (hr : rows.length < 64) (hc : ∀ r ∈ rows, ∀ c ∈ cs, InW r.length c) : S_P_projection (δ := δ) rows cs = pure (sortRows (rows.map fun r => pickI r cs)) := by
  unfold S_P_projection
  exact s_projected hl hr hc
/-- an inclusion -/
def wiW (t : Int) (ps : List (Int × Int)) (o : Int) : W := .tup [.str "within", .int t, row (ps.map (·.1)), .int o, row (ps.map (·.2))]
@[simp] theorem wi0 (t : Int) (ps : List (Int × Int)) (o : Int) : ixW (wiW t ps o) 0 = some (.str "within") := rfl
@[simp] theorem wi1 (t : Int) (ps : List (Int × Int)) (o : Int) : ixW (wiW t ps o) 1 = some (.int t) := rfl
@[simp] theorem wi2 (t : Int) (ps : List (Int × Int)) (o : Int) : ixW (wiW t ps o) 2 = some (row (ps.map (·.1))) := rfl
@[simp] theorem wi3 (t : Int) (ps : List (Int × Int)) (o : Int) : ixW (wiW t ps o) 3 = some (.int o) := rfl
@[simp] theorem wi4 (t : Int) (ps : List (Int × Int)) (o : Int) : ixW (wiW t ps o) 4 = some (row (ps.map (·.2))) := rfl
@[simp] theorem dT_row (r : List Int) : dT dI (row r) = some r := dAll_int r
@[simp] theorem lenW_row (r : List Int) : lenW (row r) = some (r.length : Int) := by
  show (seqLen (row r)).map _ = _
  simp [seqLen]
@[simp] theorem below_rowE (n : Nat) (r : List Int) : below n (row r) = true := fzT fzI n r
theorem below_wi (n : Nat) (t : Int) (ps : List (Int × Int)) (o : Int) : below n (wiW t ps o) = true := by
  unfold wiW
  rw [below_tup']
  simp only [belowL, below_rowE, Bool.and_true]
  rfl
theorem retW_pure {w : W} (h : below 0 w = true) : retW (pure w : M δ W) = pure w := by
  unfold retW
  rw [pure_bind, h]
  rfl
theorem Ok.retW {m : M δ W} {Q : W → Prop} (h : Ok m fun w => below 0 w = true ∧ Q w) : Ok (Ow.retW m) Q := h.bind fun w hw => by
  rw [hw.1]
  exact .pure hw.2
/-- every row of the one has its values in the other -/
def inclB (rows orows : List (List Int)) (ps : List (Int × Int)) : Bool := rows.all fun r => decide (pickI r (ps.map (·.1)) ∈ orows.map fun q => pickI q (ps.map (·.2)))
theorem inclB_iff (rows orows : List (List Int)) (ps : List (Int × Int)) : inclB rows orows ps = true ↔ ∀ r ∈ rows, ∃ q ∈ orows, ∀ p ∈ ps, gI r p.1 = gI q p.2 := by
  unfold inclB
  rw [List.all_eq_true]
  refine forall_congr' fun r => imp_congr_right fun _ => ?_
  rw [decide_eq_true_iff, List.mem_map]
  refine exists_congr fun q => and_congr_right fun _ => ?_
  unfold pickI
  rw [List.map_map, List.map_map]
  constructor
  · intro h p hp
    exact (List.map_inj_left.mp h p hp).symm
  · intro h
    exact List.map_inj_left.mpr fun p hp => (h p hp).symm
theorem inclB_mono {rows orows : List (List Int)} {ps qs : List (Int × Int)} (h : ∀ p ∈ qs, p ∈ ps) (k : inclB rows orows ps = true) : inclB rows orows qs = true := by
  rw [inclB_iff] at k ⊢
  exact fun r hr => let ⟨q, hq, e⟩ := k r hr; ⟨q, hq, fun p hp => e p (h p hp)⟩
theorem inclB_same {rows orows : List (List Int)} {ps qs : List (Int × Int)} (h : ∀ p, p ∈ qs ↔ p ∈ ps) : inclB rows orows qs = inclB rows orows ps := by
  rw [Bool.eq_iff_iff]
  exact ⟨inclB_mono fun p hp => (h p).mpr hp, inclB_mono fun p hp => (h p).mp hp⟩
theorem inclB_chain {one two three : List (List Int)} {ps : List (Int × Int × Int)} (h1 : inclB one two (ps.map fun p => (p.1, p.2.1)) = true) (h2 : inclB two three (ps.map fun p => (p.2.1, p.2.2)) = true) : inclB one three (ps.map fun p => (p.1, p.2.2)) = true := by
  rw [inclB_iff] at h1 h2 ⊢
  intro r hr
  obtain ⟨q, hq, e1⟩ := h1 r hr
  obtain ⟨u, hu, e2⟩ := h2 q hq
  refine ⟨u, hu, fun p hp => ?_⟩
  obtain ⟨x, hx, rfl⟩ := List.mem_map.mp hp
  exact (e1 _ (List.mem_map.mpr ⟨x, hx, rfl⟩)).trans (e2 _ (List.mem_map.mpr ⟨x, hx, rfl⟩))
/-- an inclusion of a scheme -/
structure WiOk (ws : List Int) (t o : Int) (ps : List (Int × Int)) : Prop where
  tt : 0 ≤ t ∧ t < ws.length
  oo : 0 ≤ o ∧ o < ws.length
  ne : ps ≠ []
  len : ps.length ≤ 100
  at_ : ∀ p ∈ ps, InW (gI ws t) p.1 ∧ InW (gI ws o) p.2
theorem s_within {rows orows : List (List Int)} {ps : List (Int × Int)} (hl : ps.length ≤ 100) (hr : orows.length < 64) (h1 : ∀ r ∈ rows, ∀ p ∈ ps, InW r.length p.1) (h2 : ∀ r ∈ orows, ∀ p ∈ ps, InW r.length p.2) :
    ∃ v : Option (List (List Int)), S_P_within_breach (δ := δ) rows (ps.map (·.1)) orows (ps.map (·.2)) = pure v ∧ v.isNone = inclB rows orows ps := by
  have hb := size_big
  have m1 : ∀ r ∈ rows, ∀ c ∈ ps.map (·.1), InW r.length c := fun r hr c hc => by
    obtain ⟨p, hp, rfl⟩ := List.mem_map.mp hc
    exact h1 r hr p hp
  have m2 : ∀ r ∈ orows, ∀ c ∈ ps.map (·.2), InW r.length c := fun r hr c hc => by
    obtain ⟨p, hp, rfl⟩ := List.mem_map.mp hc
    exact h2 r hr p hp
  unfold S_P_within_breach
  rw [pure_bind, lcM_pure (fun r => pickI r (ps.map (·.2))) (by omega) fun r h => s_picked (by simp; omega) (m2 r h)]
  simp only [pure_bind]
  rw [show setR (orows.map fun r => pickI r (ps.map (·.2))) = some (orows.map fun r => pickI r (ps.map (·.2))) from if_pos (by simpa using hr)]
  simp only [M.lift_some, pure_bind]
  rw [forX_find (p := fun r => !decide (pickI r (ps.map (·.1)) ∈ orows.map fun q => pickI q (ps.map (·.2)))) (f := fun r => (some [r] : Option (List (List Int)))) fun r h => by
    rw [s_picked (by simp; omega) (m1 r h)]
    simp only [pure_bind]
    by_cases c : pickI r (ps.map (·.1)) ∈ orows.map fun q => pickI q (ps.map (·.2)) <;> simp only [c, decide_true, decide_false, Bool.not_true, Bool.not_false, if_true, if_false, Bool.false_eq_true]]
  rw [pure_bind]
  cases hf : rows.find? fun r => !decide (pickI r (ps.map (·.1)) ∈ orows.map fun q => pickI q (ps.map (·.2))) with
  | none =>
    refine ⟨none, rfl, ?_⟩
    have := List.find?_eq_none.mp hf
    refine (Eq.symm ?_)
    show inclB rows orows ps = true
    unfold inclB
    rw [List.all_eq_true]
    intro r hr
    have z := this r hr
    simpa using z
  | some r =>
    refine ⟨some [r], rfl, ?_⟩
    have z := List.find?_some hf
    have m := List.mem_of_find?_eq_some hf
    refine Eq.symm (Bool.eq_false_iff.mpr fun k => ?_)
    have := List.all_eq_true.mp k r m
    rw [this] at z
    cases z
end Ow

/-! X3: kept inclusions, drawn inclusions. -/
namespace Ow
open PySem SetF
variable {δ α : Type}
theorem cut_hi (xs : List α) {n : Int} (h : 0 ≤ n) : cut xs none (some n) = xs.take n.toNat := by
  obtain ⟨k, rfl⟩ : ∃ k : Nat, n = k := ⟨n.toNat, by omega⟩
  unfold cut
  rw [HT.sIx_none, HT.sIx_nat]
  simp only [List.drop_zero, Nat.sub_zero, Int.toNat_natCast]
  rcases Nat.le_total k xs.length with hk | hk
  · rw [Nat.min_eq_left hk]
  · rw [Nat.min_eq_right hk, List.take_of_length_le (Nat.le_refl _), List.take_of_length_le hk]
theorem cut_lo (xs : List α) {n : Int} (h : 0 ≤ n) : cut xs (some n) none = xs.drop n.toNat := by
  obtain ⟨k, rfl⟩ : ∃ k : Nat, n = k := ⟨n.toNat, by omega⟩
  unfold cut
  rw [HT.sIx_none, HT.sIx_nat]
  simp only [Int.toNat_natCast]
  rw [List.take_of_length_le (by rw [List.length_drop]; omega)]
  rcases Nat.le_total k xs.length with hk | hk
  · rw [Nat.min_eq_left hk]
  · rw [Nat.min_eq_right hk, List.drop_of_length_le (Nat.le_refl _), List.drop_of_length_le hk]
/-- a store of a scheme, its tables of at most m rows -/
structure StW (ws : List Int) (m : Nat) (st : List (List (List Int))) : Prop where
  len : st.length = ws.length
  each : ∀ (j : Nat) (w : Int) (rows : List (List Int)), ws[j]? = some w → st[j]? = some rows → rows.length ≤ m ∧ ∀ r ∈ rows, (r.length : Int) = w
theorem StoreIn'.stw {ws : List Int} {m : Nat} {st : List (List (List Int))} (h : StoreIn' ws m st) : StW ws m st := ⟨h.len, fun j w rows hw hr => ⟨by have := (h.each j w rows hw hr).len; omega, (h.each j w rows hw hr).each⟩⟩
theorem StW.mono {ws : List Int} {m m' : Nat} {st : List (List (List Int))} (h : StW ws m st) (hm : m ≤ m') : StW ws m' st := ⟨h.len, fun j w rows hw hr => ⟨Nat.le_trans (h.each j w rows hw hr).1 hm, (h.each j w rows hw hr).2⟩⟩
theorem gI_get [Inhabited α] {xs : List α} {i : Int} (h0 : 0 ≤ i) (h1 : i < xs.length) : xs[i.toNat]? = some (gI xs i) := by
  have := ixL_g (xs := xs) h0 h1
  rwa [ixL_of h0] at this
theorem StW.at {ws : List Int} {m : Nat} {st : List (List (List Int))} (h : StW ws m st) {t : Int} (h0 : 0 ≤ t) (h1 : t < ws.length) : ixL st t = some (gI st t) ∧ (gI st t).length ≤ m ∧ ∀ r ∈ gI st t, (r.length : Int) = gI ws t := by
  have hl : t < st.length := by rw [h.len]; exact h1
  exact ⟨ixL_g h0 hl, h.each t.toNat _ _ (gI_get h0 h1) (gI_get h0 hl)⟩
@[simp] theorem wi_sl (t : Int) (ps : List (Int × Int)) (o : Int) : slW (wiW t ps o) none (some 2) = some (.tup [.str "within", .int t]) := rfl
theorem s_least {scheme ws : List Int} {st : List (List (List Int))} {m : Nat} {t o : Int} {ps : List (Int × Int)} (hs : StW ws m st) (hm : m < 64) (w : WiOk ws t o ps) :
    ∃ v : Option (List (List Int)), S_P_least_breach (δ := δ) scheme st (wiW t ps o) = pure v ∧ v.isNone = inclB (gI st t) (gI st o) ps := by
  obtain ⟨a1, a2, a3⟩ := hs.at w.tt.1 w.tt.2
  obtain ⟨b1, b2, b3⟩ := hs.at w.oo.1 w.oo.2
  obtain ⟨v, e, hv⟩ := s_within (δ := δ) (rows := gI st t) (orows := gI st o) (ps := ps) w.len (by omega) (fun r hr p hp => by rw [a3 r hr]; exact (w.at_ p hp).1) (fun r hr p hp => by rw [b3 r hr]; exact (w.at_ p hp).2)
  refine ⟨v, ?_, hv⟩
  unfold S_P_least_breach
  simp only [wi_sl, wi2, wi3, wi4, M.lift_some, pure_bind, dP2, dW, Option.bind_some, Option.map_some, dI_int, dS_str, a1, b1, dT_row]
  have n1 : decide ((PySem.Str.ofString "within") = PySem.Str.ofString "settles") = false := by decide
  have n2 : decide ((PySem.Str.ofString "within") = PySem.Str.ofString "deals") = false := by decide
  have n3 : decide ((PySem.Str.ofString "within") = PySem.Str.ofString "joins") = false := by decide
  rw [n1, n2, n3]
  exact e
theorem s_keeps {scheme ws : List Int} {st : List (List (List Int))} {m : Nat} {t o : Int} {ps : List (Int × Int)} (hs : StW ws m st) (hm : m < 64) (w : WiOk ws t o ps) :
    S_P_keeps (δ := δ) scheme st (wiW t ps o) = pure (inclB (gI st t) (gI st o) ps) := by
  obtain ⟨v, e, hv⟩ := s_least (δ := δ) (scheme := scheme) hs hm w
  unfold S_P_keeps
  rw [e, pure_bind, hv]
theorem zip_maps : ∀ {cs os : List Int}, cs.length = os.length → (cs.zip os).map (·.1) = cs ∧ (cs.zip os).map (·.2) = os
  | [], [], _ => ⟨rfl, rfl⟩
  | c :: cs, o :: os, h => by
    obtain ⟨h1, h2⟩ := zip_maps (cs := cs) (os := os) (by simpa using h)
    simp [h1, h2]
theorem ok_inclusion {ws order : List Int} (hws : ∀ w ∈ ws, 1 ≤ w ∧ w ≤ 100) (ho : ∀ t ∈ order, 0 ≤ t ∧ t < ws.length) (hl : 2 ≤ order.length) (hl2 : order.length ≤ 1000) :
    Ok (S_L_inclusion ws order) fun w => ∃ (t o : Int) (ps : List (Int × Int)) (i j : Nat), w = wiW t ps o ∧ order[i]? = some t ∧ order[j]? = some o ∧ i < j ∧ WiOk ws t o ps ∧ (ps.map (·.1)).Nodup ∧ (ps.map (·.2)).Nodup := by
  unfold S_L_inclusion
  refine Ok.retW ?_
  simp only [bind_assoc, pure_bind]
  refine (Ok.take (by omega)).bind fun i hi => .bind (.ix hi.1 (by omega) fun t ht hti => show t ∈ order ∧ order[i.toNat]? = some t from ⟨ht, hti⟩) fun t ht => (Ok.take (by omega)).bind fun j hj => .bind (.ix (by omega) (by omega) fun o hoo hoj => show o ∈ order ∧ order[(i + 1 + j).toNat]? = some o from ⟨hoo, hoj⟩) fun o hoo => ?_
  obtain ⟨t0, t1⟩ := ho t ht.1
  obtain ⟨o0, o1⟩ := ho o hoo.1
  have wt := hws _ (gI_mem t0 t1)
  have wo := hws _ (gI_mem o0 o1)
  rw [ixL_g t0 t1, ixL_g o0 o1]
  simp only [M.lift_some, pure_bind]
  refine (Ok.take (by split <;> omega)).bind fun many hmany => ?_
  rw [rng_of (by omega) (by omega), rng_of (by omega) (by omega)]
  have hb := size_big
  simp only [M.lift_some, pure_bind]
  rw [lcM_pure (fun c => c) (by simp; omega) fun _ _ => rfl, lcM_pure (fun c => c) (by simp; omega) fun _ _ => rfl]
  simp only [pure_bind, List.map_id_fun', id_eq]
  refine (ok_shuffled (by simp; omega)).bind fun cs hcs => (ok_shuffled (by simp; omega)).bind fun os hos => .pure ?_
  rw [cut_hi _ (by omega), cut_hi _ (by omega)]
  have lc := hcs.length_eq
  have lo := hos.length_eq
  rw [rngN_len] at lc lo
  have hmm : 1 + many ≤ gI ws t ∧ 1 + many ≤ gI ws o := by split at hmany <;> omega
  obtain ⟨z1, z2⟩ := zip_maps (cs := cs.take (1 + many).toNat) (os := os.take (1 + many).toNat) (by simp; omega)
  have e : W.tup [.str "within", .int t, row (cs.take (1 + many).toNat), .int o, row (os.take (1 + many).toNat)] = wiW t ((cs.take (1 + many).toNat).zip (os.take (1 + many).toNat)) o := by
    unfold wiW
    rw [z1, z2]
  rw [e]
  refine ⟨below_wi _ _ _ _, t, o, _, i.toNat, (i + 1 + j).toNat, rfl, ht.2, hoo.2, by omega, ⟨⟨t0, t1⟩, ⟨o0, o1⟩, ?_, ?_, fun p hp => ?_⟩, ?_, ?_⟩
  · intro z
    have := congrArg List.length z
    rw [List.length_zip, List.length_take, List.length_take, List.length_nil] at this
    omega
  · rw [List.length_zip, List.length_take, List.length_take]; omega
  · obtain ⟨p1, p2⟩ := p
    obtain ⟨h1, h2⟩ := List.of_mem_zip hp
    exact ⟨mem_rngN.mp (hcs.subset (List.mem_of_mem_take h1)), mem_rngN.mp (hos.subset (List.mem_of_mem_take h2))⟩
  · rw [z1]
    exact (hcs.nodup_iff.mpr (rngN_nodup _)).sublist (List.take_sublist _ _)
  · rw [z2]
    exact (hos.nodup_iff.mpr (rngN_nodup _)).sublist (List.take_sublist _ _)
/-- a choice of pairs by places -/
def picks (ps : List (Int × Int)) (js : List Int) : List (Int × Int) := js.map fun j => gI ps j
theorem WiOk.sub {ws : List Int} {t o : Int} {ps qs : List (Int × Int)} (w : WiOk ws t o ps) (h : ∀ p ∈ qs, p ∈ ps) (hn : qs ≠ []) (hl : qs.length ≤ 100) : WiOk ws t o qs := ⟨w.tt, w.oo, hn, hl, fun p hp => w.at_ p (h p hp)⟩
theorem gI_map {β : Type} [Inhabited α] [Inhabited β] (f : α → β) {xs : List α} {i : Int} (h0 : 0 ≤ i) (h1 : i < xs.length) : ixL (xs.map f) i = some (f (gI xs i)) := by
  rw [ixL_of h0, List.getElem?_map, gI_get h0 h1]
  rfl
theorem ixW_row {r : List Int} {j : Int} : ixW (row r) j = (ixL r j).map W.int := by
  show atW (r.map W.int) j = _
  exact atI_map W.int r j
theorem ok_some {ws : List Int} {t o : Int} {ps : List (Int × Int)} (w : WiOk ws t o ps) (keep : Bool) : Ok (S_L_some_2 (wiW t ps o) keep) fun x => ∃ qs, x = wiW t qs o ∧ WiOk ws t o qs ∧ (∀ p ∈ qs, p ∈ ps) ∧ (keep = true → ∀ p ∈ ps, p ∈ qs) := by
  have hb := size_big
  have hl := w.len
  have hpos : 0 < ps.length := List.length_pos_iff.mpr w.ne
  unfold S_L_some_2
  refine Ok.retW ?_
  simp only [wi1, wi2, wi3, wi4, M.lift_some, pure_bind, bind_assoc, lenW_row, List.length_map]
  rw [rng_of (by omega) (by omega)]
  simp only [M.lift_some, pure_bind]
  rw [lcM_pure (fun c => c) (by simp; omega) fun _ _ => rfl]
  simp only [pure_bind, List.map_id_fun', id_eq]
  refine (ok_shuffled (by simp; omega)).bind fun js hjs => ?_
  have ljs := hjs.length_eq
  rw [rngN_len] at ljs
  have fin : ∀ ks : List Int, ks ≠ [] → ks.length ≤ 100 → (∀ j ∈ ks, j ∈ js) → (keep = true → ks = js) → Ok ((lcM (fun x10 => M.lift (ixW (row (ps.map (·.1))) x10)) ks : M (List Int) (List W)) >>= fun x12 => lcM (fun x14 => M.lift (ixW (row (ps.map (·.2))) x14)) ks >>= fun x16 =>
      pure (W.tup [.str "within", .int t, eT eW x12, .int o, eT eW x16])) fun x => below 0 x = true ∧ ∃ qs, x = wiW t qs o ∧ WiOk ws t o qs ∧ (∀ p ∈ qs, p ∈ ps) ∧ (keep = true → ∀ p ∈ ps, p ∈ qs) := by
    intro ks hne hkl hk hkeep
    have inr : ∀ j ∈ ks, 0 ≤ j ∧ j < ps.length := fun j hj => mem_rngN.mp (hjs.subset (hk j hj))
    rw [lcM_pure (fun j => W.int (gI ps j).1) (by omega) fun j hj => by rw [ixW_row, gI_map (·.1) (inr j hj).1 (inr j hj).2]; rfl]
    rw [lcM_pure (fun j => W.int (gI ps j).2) (by omega) fun j hj => by rw [ixW_row, gI_map (·.2) (inr j hj).1 (inr j hj).2]; rfl]
    simp only [pure_bind]
    have e : W.tup [.str "within", .int t, eT eW (ks.map fun j => W.int (gI ps j).1), .int o, eT eW (ks.map fun j => W.int (gI ps j).2)] = wiW t (picks ps ks) o := by
      unfold wiW picks row eT eW
      simp only [List.map_map]
      rfl
    have hm : ∀ p ∈ picks ps ks, p ∈ ps := fun p hp => by
      obtain ⟨j, hj, rfl⟩ := List.mem_map.mp hp
      exact gI_mem (inr j hj).1 (inr j hj).2
    rw [e]
    refine .pure ⟨below_wi _ _ _ _, picks ps ks, rfl, w.sub hm (fun z => hne (List.map_eq_nil_iff.mp z)) (by unfold picks; simpa using hkl), hm, fun hkp p hp => ?_⟩
    obtain ⟨j, hj, rfl⟩ := List.mem_iff_getElem.mp hp
    refine List.mem_map.mpr ⟨(j : Int), ?_, ?_⟩
    · rw [hkeep hkp]
      exact hjs.symm.subset (mem_rngN.mpr ⟨by omega, by omega⟩)
    · unfold gI
      rw [Int.toNat_natCast, List.getElem?_eq_getElem hj]
      rfl
  cases keep with
  | true =>
    simp only [Bool.not_true, Bool.false_eq_true, if_false, pure_bind]
    exact (fin js (fun z => by rw [z] at ljs; simp at ljs; omega) (by omega) (fun _ h => h) fun _ => rfl).mono fun x h => by simpa using h
  | false =>
    simp only [Bool.not_false, if_true, bind_assoc, pure_bind]
    refine (Ok.take (by omega)).bind fun v hv => ?_
    rw [cut_hi _ (by omega)]
    exact (fin (js.take (1 + v).toNat) (fun z => by have := congrArg List.length z; rw [List.length_take, List.length_nil] at this; omega) (by rw [List.length_take]; omega) (fun j hj => List.mem_of_mem_take hj) fun z => by cases z).mono fun x h => by simpa using h
def pairR (p : Int × Int) : List Int := [p.1, p.2]
theorem s_ascending {ws : List Int} {t o : Int} {ps : List (Int × Int)} (w : WiOk ws t o ps) : ∃ qs, S_L_ascending (δ := δ) (wiW t ps o) = pure (wiW t qs o) ∧ qs.Perm ps := by
  have hb := size_big
  have hl := w.len
  obtain ⟨qs, hqs⟩ : ∃ qs : List (Int × Int), qs = ps.mergeSort fun a b => rowLe (pairR a) (pairR b) := ⟨_, rfl⟩
  have hp : qs.Perm ps := by rw [hqs]; exact List.mergeSort_perm ..
  have hql : qs.length = ps.length := hp.length_eq
  refine ⟨qs, ?_, hp⟩
  unfold S_L_ascending
  simp only [wi1, wi2, wi3, wi4, M.lift_some, pure_bind, bind_assoc, lenW_row, List.length_map]
  rw [rng_of (by omega) (by omega)]
  simp only [M.lift_some, pure_bind]
  rw [lcM_pure (fun j => pairR (gI ps j)) (by simp; omega) fun j hj => by
    obtain ⟨j0, j1⟩ := mem_rngN.mp hj
    simp only [ixW_row, gI_map (·.1) j0 j1, gI_map (·.2) j0 j1, Option.map_some, M.lift_some, pure_bind, dI_int]
    rfl]
  have e1 : (rngN (ps.length : Int)).map (fun j => pairR (gI ps j)) = ps.map pairR := by
    refine List.ext_getElem? fun i => ?_
    rw [List.getElem?_map, List.getElem?_map]
    by_cases hi : i < ps.length
    · rw [rngN_get (by omega), List.getElem?_eq_getElem hi]
      simp only [Option.map_some]
      unfold gI
      rw [Int.toNat_natCast, List.getElem?_eq_getElem hi]
      rfl
    · rw [List.getElem?_eq_none (by simp; omega), List.getElem?_eq_none (by omega)]
      rfl
  have e2 : sortR (ps.map pairR) = some (qs.map pairR) := by
    unfold sortR
    rw [if_pos]
    · rw [hqs]
      exact congrArg some (List.map_mergeSort (f := pairR) (r := fun a b => rowLe (pairR a) (pairR b)) (s := rowLe) fun _ _ _ _ => rfl).symm
    · rw [Bool.or_eq_true]
      refine .inl (List.all_eq_true.mpr fun r hr => ?_)
      obtain ⟨p, _, rfl⟩ := List.mem_map.mp hr
      rfl
  rw [e1]
  simp only [pure_bind, e2, M.lift_some]
  rw [lcM_pure (fun r => gI r 0) (by simp; omega) fun r hr => by
    obtain ⟨p, _, rfl⟩ := List.mem_map.mp hr
    rfl, lcM_pure (fun r => gI r 1) (by simp; omega) fun r hr => by
    obtain ⟨p, _, rfl⟩ := List.mem_map.mp hr
    rfl]
  simp only [pure_bind, List.map_map]
  have e3 : W.tup [.str "within", .int t, row (qs.map ((fun r => gI r 0) ∘ pairR)), .int o, row (qs.map ((fun r => gI r 1) ∘ pairR))] = wiW t qs o := rfl
  rw [e3]
  exact retW_pure (below_wi _ _ _ _)
end Ow

/-! X4: the law k24. -/
namespace Ow
open PySem SetF
variable {δ α : Type}
theorem setI_of {xs : List α} {i : Int} {v : α} (h0 : 0 ≤ i) (h1 : i < xs.length) : setI xs i v = some (xs.set i.toNat v) := by
  unfold setI L2.ixN
  rw [if_pos h0, if_pos h1]
  rfl
theorem ok_needed {ws : List Int} {t o : Int} {ps : List (Int × Int)} {st : List (List (List Int))} {m : Nat} {vs : List Int} (w : WiOk ws t o ps) (hs : StW ws m st) (hm : m < 30) (hws : ∀ w ∈ ws, 1 ≤ w ∧ w ≤ 100) (hwl : ws.length ≤ 100) (hv : 0 < vs.length) :
    Ok (S_L_needed st (wiW t ps o) ws vs) (StW ws (m + m)) := by
  have hb := size_big
  have hl := w.len
  obtain ⟨a1, a2, a3⟩ := hs.at w.tt.1 w.tt.2
  obtain ⟨b1, b2, b3⟩ := hs.at w.oo.1 w.oo.2
  have wo := hws _ (gI_mem w.oo.1 w.oo.2)
  unfold S_L_needed
  simp only [wi1, wi2, wi3, wi4, M.lift_some, pure_bind, bind_assoc, lenW_row, List.length_map, dI_int, a1, b1, ixL_g w.oo.1 w.oo.2]
  rw [rng_of (n := (ps.length : Int)) (by omega) (by omega), rng_of (by omega) (by omega)]
  simp only [M.lift_some, pure_bind]
  refine (Ok.for0 (J := fun i (s : List (List Int)) => s.length = i ∧ ∀ r ∈ s, (r.length : Int) = gI ws o) ⟨rfl, fun r hr => by cases hr⟩ fun i x hx s hs => ?_).bind fun made hmade => ?_
  · have hi := (List.getElem?_eq_some_iff.mp hx).1
    have hxm := List.mem_of_getElem? hx
    have hxl := a3 x hxm
    refine (Ok.lcM (R := fun _ _ => True) (by simp; omega) fun _ _ => (Ok.take (by omega)).bind fun v hv => .ix hv.1 hv.2 fun _ _ _ => trivial).bind fun r hr => ?_
    have hrl := hr.length
    rw [rngN_len] at hrl
    refine (Ok.forI (J := fun q : List Int => (q.length : Int) = gI ws o) (by omega) fun j hj q hq => ?_).bind fun q hq => ?_
    · obtain ⟨j0, j1⟩ := mem_rngN.mp hj
      obtain ⟨p1, p2⟩ := w.at_ _ (gI_mem j0 j1)
      simp only [ixW_row, gI_map (·.1) j0 j1, gI_map (·.2) j0 j1, Option.map_some, M.lift_some, pure_bind, dI_int]
      rw [ixL_g p1.1 (by rw [hxl]; exact p1.2)]
      simp only [M.lift_some, pure_bind]
      rw [setI_of p2.1 (by rw [hq]; exact p2.2)]
      simp only [M.lift_some, pure_bind]
      exact .pure (by simpa using hq)
    · rw [chk_of (decide_eq_true (by omega))]
      refine .pure ⟨by simp [hs.1], fun q' hq' => ?_⟩
      rcases List.mem_append.mp hq' with hq' | hq'
      · exact hs.2 q' hq'
      · rw [List.mem_singleton.mp hq', hq]
  · have hml := hmade.1
    rw [cat_of (by omega)]
    simp only [M.lift_some, pure_bind]
    rw [ssetR_of (by simp; omega) (.lenI (w := gI ws o) fun r hr => by
      rcases List.mem_append.mp hr with hr | hr
      · exact b3 r hr
      · exact hmade.2 r hr)]
    simp only [M.lift_some, pure_bind]
    have ho := w.oo
    have hsl := hs.len
    rw [cut_hi _ w.oo.1, cut_lo _ (by omega)]
    rw [cat_of (by simp; omega)]
    simp only [M.lift_some, pure_bind]
    rw [cat_of (by simp; omega)]
    refine .pure ⟨?_, fun j u rows hu hr => ?_⟩
    · simp; omega
    · rcases Nat.lt_trichotomy j o.toNat with hj | hj | hj
      · rw [List.append_assoc, List.getElem?_append_left (by simp; omega), List.getElem?_take_of_lt hj] at hr
        have := hs.each j u rows hu hr
        exact ⟨by omega, this.2⟩
      · rw [List.append_assoc, List.getElem?_append_right (by simp; omega)] at hr
        have e0 : j - (st.take o.toNat).length = 0 := by simp; omega
        rw [e0] at hr
        have hr : sortRows (gI st o ++ made) = rows := by simpa using hr
        subst hr
        have hue : u = gI ws o := by
          have := gI_get w.oo.1 w.oo.2
          rw [hj, this] at hu
          exact (Option.some.inj hu).symm
        subst hue
        refine ⟨?_, fun r hr => ?_⟩
        · rw [sortRows_len]
          have := length_uniq (gI st o ++ made)
          rw [List.length_append] at this
          omega
        · rcases List.mem_append.mp (mem_sortRows.mp hr) with hr | hr
          · exact b3 r hr
          · exact hmade.2 r hr
      · rw [List.getElem?_append_right (by simp; omega), List.getElem?_drop] at hr
        have e0 : (o + 1).toNat + (j - (st.take o.toNat ++ [sortRows (gI st o ++ made)]).length) = j := by simp; omega
        rw [e0] at hr
        have := hs.each j u rows hu hr
        exact ⟨by omega, this.2⟩
theorem all_congr {xs ys : List α} {p : α → Bool} (h : ∀ x, x ∈ xs ↔ x ∈ ys) : xs.all p = ys.all p := by
  rw [Bool.eq_iff_iff, List.all_eq_true, List.all_eq_true]
  exact ⟨fun k x hx => k x ((h x).mpr hx), fun k x hx => k x ((h x).mp hx)⟩
/-- as the law asks it -/
theorem asks {rows orows : List (List Int)} {ps : List (Int × Int)} : (!decide (false ∈ (sortRows (rows.map fun r => pickI r (ps.map (·.1)))).map fun x => decide (x ∈ orows.map fun q => pickI q (ps.map (·.2))))) = inclB rows orows ps := by
  have hb : (rows.all fun r => decide (pickI r (ps.map (·.1)) ∈ orows.map fun q => pickI q (ps.map (·.2)))) = inclB rows orows ps := rfl
  revert hb
  generalize (orows.map fun q => pickI q (ps.map (·.2))) = vals
  intro hb
  have e : (!decide (false ∈ (sortRows (rows.map fun r => pickI r (ps.map (·.1)))).map fun x => decide (x ∈ vals))) = (sortRows (rows.map fun r => pickI r (ps.map (·.1)))).all fun x => decide (x ∈ vals) := by
    rw [Bool.eq_iff_iff, List.all_eq_true]
    simp only [Bool.not_eq_true', decide_eq_false_iff_not, List.mem_map, not_exists, not_and]
    constructor
    · intro h x hx
      have := h x hx
      simpa using this
    · intro h x hx z
      exact z (of_decide_eq_true (h x hx))
  rw [e, all_congr (ys := rows.map fun r => pickI r (ps.map (·.1))) fun x => mem_sortRows]
  rw [List.all_map, ← hb]
  rfl
theorem ok_law_k24 (script : List Int) : Ok (S_law_k24 script) fun b => b = true := by
  have hb := size_big
  unfold S_law_k24
  refine (ok_cell script).bind fun cell _ => ?_
  rw [rng_of (by omega) (by omega)]
  simp only [M.lift_some, pure_bind, bind_assoc]
  refine (Ok.lcM (R := fun _ w => 1 ≤ w ∧ w ≤ 4) (by decide) fun _ _ => (Ok.take (by omega)).bind fun v hv => .pure ⟨by omega, by omega⟩).bind fun ws hws => ?_
  have hwl : ws.length = 3 := hws.length
  have hwm : ∀ w ∈ ws, 1 ≤ w ∧ w ≤ 100 := fun w hw => by
    obtain ⟨_, _, h⟩ := hws.mem w hw
    omega
  refine (ok_wide cell).bind fun vs hvs => (ok_store (fun w hw => by have := hwm w hw; omega) (by omega) (by omega) (by omega)).bind fun st0 hst0 => ?_
  have hst0 : StW ws 5 st0 := hst0.stw (m := 5)
  refine (ok_inclusion hwm (order := [0, 1]) (fun t ht => by simp at ht; omega) (by decide) (by decide)).bind fun first hf => ?_
  obtain ⟨t, o, ps, i, j, rfl, hi, hj, hij, w1, n1, n2⟩ := hf
  have hlt := (List.getElem?_eq_some_iff.mp hj).1
  have : i = 0 ∧ j = 1 := by simp at hlt; omega
  obtain ⟨rfl, rfl⟩ := this
  cases hi
  cases hj
  have hw2 := hwm _ (gI_mem (xs := ws) (i := 2) (by omega) (by omega))
  simp only [wi2, wi4, M.lift_some, pure_bind, lenW_row, List.length_map, ixL_g (xs := ws) (i := 2) (by omega) (by omega)]
  rw [rng_of (by omega) (by omega)]
  simp only [M.lift_some, pure_bind]
  rw [lcM_pure (fun c => c) (by simp; omega) fun _ _ => rfl]
  simp only [pure_bind, List.map_id_fun', id_eq]
  refine (ok_shuffled (by simp; omega)).bind fun us hus => ?_
  obtain ⟨many, hmany⟩ : ∃ many : Int, many = if gI ws 2 < (ps.length : Int) then gI ws 2 else (ps.length : Int) := ⟨_, rfl⟩
  rw [← hmany]
  have hpos : 0 < ps.length := List.length_pos_iff.mpr w1.ne
  have hpl := w1.len
  have hm1 : 1 ≤ many ∧ many ≤ ps.length ∧ many ≤ gI ws 2 := by split at hmany <;> omega
  have hul := hus.length_eq
  rw [rngN_len] at hul
  -- the three inclusions
  obtain ⟨tr, htr⟩ : ∃ tr : List (Int × Int × Int), tr = ((ps.take many.toNat).zip (us.take many.toNat)).map fun p => (p.1.1, p.1.2, p.2) := ⟨_, rfl⟩
  have hlz : (ps.take many.toNat).length = (us.take many.toNat).length := by simp; omega
  have tl : tr.length = many.toNat := by rw [htr]; simp; omega
  have zfst : ((ps.take many.toNat).zip (us.take many.toNat)).map Prod.fst = ps.take many.toNat := List.map_fst_zip (by omega)
  have zsnd : ((ps.take many.toNat).zip (us.take many.toNat)).map Prod.snd = us.take many.toNat := List.map_snd_zip (by omega)
  have e12 : tr.map (fun p => (p.1, p.2.1)) = ps.take many.toNat := by
    rw [htr, List.map_map]
    exact Eq.trans (List.map_congr_left fun p _ => rfl) zfst
  have e1 : tr.map (·.1) = (ps.take many.toNat).map (·.1) := by rw [← e12, List.map_map]; rfl
  have e2 : tr.map (·.2.1) = (ps.take many.toNat).map (·.2) := by rw [← e12, List.map_map]; rfl
  have e3 : tr.map (·.2.2) = us.take many.toNat := by
    rw [htr, List.map_map]
    exact Eq.trans (List.map_congr_left fun p _ => rfl) zsnd
  have ecut1 : slW (row (ps.map (·.2))) none (some many) = some (row ((ps.take many.toNat).map (·.2))) := by
    show some (W.tup (cutW (List.map W.int (ps.map _)) none (some many))) = _
    rw [cutW_map, cut_hi _ (by omega), ← List.map_take]
  have ecut2 : slW (row (ps.map (·.1))) none (some many) = some (row ((ps.take many.toNat).map (·.1))) := by
    show some (W.tup (cutW (List.map W.int (ps.map _)) none (some many))) = _
    rw [cutW_map, cut_hi _ (by omega), ← List.map_take]
  rw [ecut1, ecut2, cut_hi _ (by omega)]
  simp only [M.lift_some, pure_bind]
  have s2 : W.tup [.str "within", .int 1, row ((ps.take many.toNat).map (·.2)), .int 2, row (us.take many.toNat)] = wiW 1 (tr.map fun p => (p.2.1, p.2.2)) 2 := by
    unfold wiW
    rw [List.map_map, List.map_map, show ((·.1) ∘ fun p : Int × Int × Int => (p.2.1, p.2.2)) = (·.2.1) from rfl, show ((·.2) ∘ fun p : Int × Int × Int => (p.2.1, p.2.2)) = (·.2.2) from rfl, e2, e3]
  have s3 : W.tup [.str "within", .int 0, row ((ps.take many.toNat).map (·.1)), .int 2, row (us.take many.toNat)] = wiW 0 (tr.map fun p => (p.1, p.2.2)) 2 := by
    unfold wiW
    rw [List.map_map, List.map_map, show ((·.1) ∘ fun p : Int × Int × Int => (p.1, p.2.2)) = (·.1) from rfl, show ((·.2) ∘ fun p : Int × Int × Int => (p.1, p.2.2)) = (·.2.2) from rfl, e1, e3]
  rw [s2, s3]
  have trm : ∀ p ∈ tr, InW (gI ws 0) p.1 ∧ InW (gI ws 1) p.2.1 ∧ InW (gI ws 2) p.2.2 := fun p hp => by
    have h12 : (p.1, p.2.1) ∈ ps := List.mem_of_mem_take (i := many.toNat) (e12 ▸ List.mem_map.mpr ⟨p, hp, rfl⟩)
    have h3 : p.2.2 ∈ us := List.mem_of_mem_take (i := many.toNat) (e3 ▸ List.mem_map.mpr ⟨p, hp, rfl⟩)
    have := w1.at_ _ h12
    exact ⟨this.1, this.2, mem_rngN.mp (hus.subset h3)⟩
  have trn : tr ≠ [] := fun z => by rw [z] at tl; simp at tl; omega
  have w2 : WiOk ws 1 2 (tr.map fun p => (p.2.1, p.2.2)) := ⟨by omega, by omega, fun z => trn (List.map_eq_nil_iff.mp z), by simp; omega, fun q hq => by
    obtain ⟨p, hp, rfl⟩ := List.mem_map.mp hq
    exact ⟨(trm p hp).2.1, (trm p hp).2.2⟩⟩
  have w3 : WiOk ws 0 2 (tr.map fun p => (p.1, p.2.2)) := ⟨by omega, by omega, fun z => trn (List.map_eq_nil_iff.mp z), by simp; omega, fun q hq => by
    obtain ⟨p, hp, rfl⟩ := List.mem_map.mp hq
    exact ⟨(trm p hp).1, (trm p hp).2.2⟩⟩
  refine (Ok.take (by omega)).bind fun v hv => ?_
  refine ((Ok.ite (fun _ => ?_) fun _ => .pure (hst0.mono (by omega))) : Ok _ (StW ws 20)).bind fun st hs => ?_
  · exact (ok_needed w1 hst0 (by omega) hwm (by omega) (by omega)).bind fun st1 h1 => (ok_needed w2 h1 (by omega) hwm (by omega) (by omega)).bind fun st2 h2 => .pure (h2.mono (by omega))
  refine (Ok.forX0 (J := fun _ => True) (P := fun _ => False) trivial fun x hx u _ => ?_).bind fun c hc => ?_
  · skip
    obtain ⟨t, o, qs, rfl, w⟩ : ∃ t o qs, x = wiW t qs o ∧ WiOk ws t o qs := by
      simp only [List.mem_cons, List.not_mem_nil, or_false] at hx
      rcases hx with rfl | rfl | rfl
      · exact ⟨_, _, _, rfl, w1⟩
      · exact ⟨_, _, _, rfl, w2⟩
      · exact ⟨_, _, _, rfl, w3⟩
    obtain ⟨a1, a2, a3⟩ := hs.at w.tt.1 w.tt.2
    obtain ⟨b1, b2, b3⟩ := hs.at w.oo.1 w.oo.2
    obtain ⟨rs, ers, hrs⟩ := s_ascending (δ := List Int) w
    have wr : WiOk ws t o rs := w.sub (fun p hp => hrs.subset hp) (fun z => w.ne (List.length_eq_zero_iff.mp (by rw [← hrs.length_eq, z]; rfl))) (by rw [hrs.length_eq]; exact w.len)
    have hrl := wr.len
    have ev : (lcM (fun x34 => lcM (fun x36 => M.lift (ixL x34 x36)) (rs.map (·.2))) (gI st o) : M (List Int) (List (List Int))) = pure ((gI st o).map fun r => pickI r (rs.map (·.2))) :=
      lcM_pure (fun r => pickI r (rs.map (·.2))) (by omega) fun r hr => lcM_pure (gI r) (by simp; omega) fun c hc => by
        obtain ⟨p, hp, rfl⟩ := List.mem_map.mp hc
        have := (wr.at_ p hp).2
        rw [ixL_g this.1 (by rw [b3 r hr]; exact this.2)]
        rfl
    have ep := s_projection (δ := List Int) (rows := gI st t) (cs := rs.map (·.1)) (by simp; omega) (by omega) fun r hr c hc => by
      obtain ⟨p, hp, rfl⟩ := List.mem_map.mp hc
      rw [a3 r hr]
      exact (wr.at_ p hp).1
    have es : inclB (gI st t) (gI st o) rs = inclB (gI st t) (gI st o) qs := inclB_same fun p => hrs.mem_iff
    rw [s_keeps hs (by omega) w, ers]
    simp only [pure_bind, bind_pure, wi1, wi2, wi3, wi4, M.lift_some, dI_int, dT_row, a1, b1, ev, ep]
    have hsr : (sortRows ((gI st t).map fun r => pickI r (rs.map (·.1)))).length ≤ 20 := by
      rw [sortRows_len]
      have := length_uniq ((gI st t).map fun r => pickI r (rs.map (·.1)))
      rw [List.length_map] at this
      omega
    rw [lcM_pure (fun x => decide (x ∈ (gI st o).map fun r => pickI r (rs.map (·.2)))) (by omega) fun _ _ => rfl, pure_bind, asks, es, s_keeps hs (by omega) wr, es]
    simp only [decide_true, Bool.not_true, Bool.false_eq_true, if_false, pure_bind]
    refine ((ok_some w true).bind fun x hx => ?_ : Ok _ fun c => c = false).bind fun c hc => ?_
    · obtain ⟨us, rfl, wu, hu1, hu2⟩ := hx
      rw [s_keeps hs (by omega) wu, inclB_same fun p => ⟨hu1 p, hu2 rfl p⟩]
      simp only [pure_bind, decide_true, Bool.not_true]
      exact .pure rfl
    · rw [hc]
      simp only [Bool.false_eq_true, if_false]
      cases ht : inclB (gI st t) (gI st o) qs with
      | false =>
        simp only [Bool.false_eq_true, if_false, pure_bind]
        exact .pure trivial
      | true =>
        simp only [if_true]
        refine ((ok_some w false).bind fun x hx => ?_ : Ok _ fun c => c = false).bind fun c hc => ?_
        · obtain ⟨us, rfl, wu, hu1, _⟩ := hx
          rw [s_keeps hs (by omega) wu, inclB_mono hu1 ht]
          exact .pure rfl
        · rw [hc]
          exact .pure trivial
  · cases c with
    | br _ => exact hc.elim
    | rt _ => exact hc.elim
    | nx _ =>
      simp only [Ctl.go_nx]
      rw [s_keeps hs (by omega) w1, s_keeps hs (by omega) w2, s_keeps hs (by omega) w3]
      simp only [pure_bind]
      cases h1 : inclB (gI st 0) (gI st 1) ps with
      | false => exact .pure rfl
      | true =>
        simp only [if_true, pure_bind]
        cases h2 : inclB (gI st 1) (gI st 2) (tr.map fun p => (p.2.1, p.2.2)) with
        | false => exact .pure rfl
        | true =>
          have h1' : inclB (gI st 0) (gI st 1) (tr.map fun p => (p.1, p.2.1)) = true := by
            rw [e12]
            exact inclB_mono (fun p hp => List.mem_of_mem_take hp) h1
          rw [inclB_chain h1' h2]
          exact .pure rfl

end Ow

set_option maxHeartbeats 0
namespace Lk24
open PySem PySem.Spec PyProof.Rows L2
def top (i : Nat) : Stmt := PySem.Challenge.pw_norowstray_k24_whole_inclusions.main.body.getD i (.Pass ⟨0, 0, 0, 0⟩)
def d1 : He.DefD := ⟨("picked", none), "picked", "picked", defArgs (top 1), defBody (top 1), defScope (top 1), [], []⟩
def d2 : He.DefD := ⟨("projected", none), "projected", "projected", defArgs (top 2), defBody (top 2), defScope (top 2), [], []⟩
def d3 : He.DefD := ⟨("extended", none), "extended", "extended", defArgs (top 3), defBody (top 3), defScope (top 3), [], []⟩
def d4 : He.DefD := ⟨("joined", none), "joined", "joined", defArgs (top 4), defBody (top 4), defScope (top 4), [], []⟩
def d6 : He.DefD := ⟨("agree", none), "agree", "agree", defArgs (top 6), defBody (top 6), defScope (top 6), [], []⟩
def d7 : He.DefD := ⟨("dealt_row", none), "dealt_row", "dealt_row", defArgs (top 7), defBody (top 7), defScope (top 7), [], []⟩
def d8 : He.DefD := ⟨("settles_breach", none), "settles_breach", "settles_breach", defArgs (top 8), defBody (top 8), defScope (top 8), [], []⟩
def d9 : He.DefD := ⟨("deals_breach", none), "deals_breach", "deals_breach", defArgs (top 9), defBody (top 9), defScope (top 9), [], []⟩
def d10 : He.DefD := ⟨("joins_breach", none), "joins_breach", "joins_breach", defArgs (top 10), defBody (top 10), defScope (top 10), [], []⟩
def d11 : He.DefD := ⟨("within_breach", none), "within_breach", "within_breach", defArgs (top 11), defBody (top 11), defScope (top 11), [], []⟩
def d12 : He.DefD := ⟨("least_breach", none), "least_breach", "least_breach", defArgs (top 12), defBody (top 12), defScope (top 12), [], []⟩
def d13 : He.DefD := ⟨("keeps", none), "keeps", "keeps", defArgs (top 13), defBody (top 13), defScope (top 13), [], []⟩
def d15 : He.DefD := ⟨("projection", none), "projection", "projection", defArgs (top 15), defBody (top 15), defScope (top 15), [], []⟩
def d17 : He.DefD := ⟨("_law_draws", none), "_law_draws", "_law_draws", defArgs (top 17), defBody (top 17), defScope (top 17), [], []⟩
def d18 : He.DefD := ⟨("_law_take", none), "_law_take", "_law_take", defArgs (top 18), defBody (top 18), defScope (top 18), [], []⟩
def d19 : He.DefD := ⟨("_law_cell", none), "_law_cell", "_law_cell", defArgs (top 19), defBody (top 19), defScope (top 19), [], []⟩
def d21 : He.DefD := ⟨("_law_shuffled", none), "_law_shuffled", "_law_shuffled", defArgs (top 21), defBody (top 21), defScope (top 21), [], []⟩
def d25 : He.DefD := ⟨("_law_inclusion", none), "_law_inclusion", "_law_inclusion", defArgs (top 25), defBody (top 25), defScope (top 25), [], []⟩
def d29 : He.DefD := ⟨("_law_wide", none), "_law_wide", "_law_wide", defArgs (top 29), defBody (top 29), defScope (top 29), [], []⟩
def d31 : He.DefD := ⟨("_law_rows", none), "_law_rows", "_law_rows", defArgs (top 31), defBody (top 31), defScope (top 31), [], []⟩
def d32 : He.DefD := ⟨("_law_store", none), "_law_store", "_law_store", defArgs (top 32), defBody (top 32), defScope (top 32), [], []⟩
def d33 : He.DefD := ⟨("_law_needed", none), "_law_needed", "_law_needed", defArgs (top 33), defBody (top 33), defScope (top 33), [], []⟩
def d34 : He.DefD := ⟨("_law_some", none), "_law_some", "_law_some", defArgs (top 34), defBody (top 34), defScope (top 34), [], []⟩
def d35 : He.DefD := ⟨("_law_ascending", none), "_law_ascending", "_law_ascending", defArgs (top 35), defBody (top 35), defScope (top 35), [], []⟩
def d36 : He.DefD := ⟨("law", none), "law", "law", defArgs (top 36), defBody (top 36), defScope (top 36), [], []⟩
def fn : List He.DefD := [d1, d2, d3, d4, d6, d7, d8, d9, d10, d11, d12, d13, d15, d17, d18, d19, d21, d25, d29, d31, d32, d33, d34, d35, d36]
def fa0 : List He.Fa := [.glo "picked", .glo "projected", .glo "extended", .glo "joined", .glo "agree", .glo "dealt_row", .glo "settles_breach", .glo "deals_breach", .glo "joins_breach", .glo "within_breach", .glo "least_breach", .glo "keeps", .glo "projection", .glo "_law_draws", .glo "_law_take", .glo "_law_cell", .glo "_law_shuffled", .glo "_law_inclusion", .glo "_law_wide", .glo "_law_rows", .glo "_law_store", .glo "_law_needed", .glo "_law_some", .glo "_law_ascending", .glo "law", .free "len", .free "int", .free "abs", .free "str", .free "list"]
def fa1 : List He.Fa := [.free "tuple", .free "sorted", .free "all", .free "any", .free "sum", .free "min", .free "max", .free "isinstance", .free "range", .free "bool", .free "zip", .free "enumerate", .free "set"]
def fa : List He.Fa := fa0 ++ fa1
def lo0 : List Str := ["picked", "projected", "extended", "joined", "agree", "dealt_row", "settles_breach", "deals_breach", "joins_breach", "within_breach", "least_breach", "keeps", "projection", "_law_draws", "_law_take", "_law_cell", "_law_same", "_law_shuffled", "_law_columns", "_law_scheme", "_law_parts", "_law_inclusion", "_law_dependency", "_law_order", "_law_book", "_law_wide", "_law_narrow", "_law_rows", "_law_store", "_law_needed"]
def lo1 : List Str := ["_law_some", "_law_ascending"]
def lo : List Str := lo0 ++ lo1
def f0 : Ow.Def := ⟨"picked", 2, ["row", "columns", "column"], false, Ow.P_picked⟩
def f1 : Ow.Def := ⟨"projected", 2, ["rows", "columns", "row"], false, (Ow.P_projected 0)⟩
def f2 : Ow.Def := ⟨"extended", 3, ["found", "rows", "part", "longer", "values", "row", "more", "column", "value"], false, Ow.P_extended⟩
def f3 : Ow.Def := ⟨"joined", 3, ["width", "projections", "parts", "found", "rows", "part", "values"], false, (Ow.P_joined 0 2)⟩
def f4 : Ow.Def := ⟨"agree", 3, ["one", "other", "columns"], false, (Ow.P_agree 0)⟩
def f5 : Ow.Def := ⟨"dealt_row", 4, ["one", "other", "left", "right", "column"], false, Ow.P_dealt_row⟩
def f6 : Ow.Def := ⟨"settles_breach", 3, ["rows", "left", "right", "one", "other"], false, (Ow.P_settles_breach 4)⟩
def f7 : Ow.Def := ⟨"deals_breach", 3, ["rows", "left", "right", "known", "one", "other"], false, (Ow.P_deals_breach 4 5)⟩
def f8 : Ow.Def := ⟨"joins_breach", 3, ["width", "rows", "parts", "known", "missing", "chosen", "part", "told", "least", "row"], false, (Ow.P_joins_breach 0 1 3 4)⟩
def f9 : Ow.Def := ⟨"within_breach", 4, ["rows", "columns", "others_rows", "others", "known", "row"], false, (Ow.P_within_breach 0)⟩
def f10 : Ow.Def := ⟨"least_breach", 3, ["scheme", "store", "dependency", "kind", "table", "rows"], false, (Ow.P_least_breach 6 7 8 9)⟩
def f11 : Ow.Def := ⟨"keeps", 3, ["scheme", "store", "dependency"], false, (Ow.P_keeps 10)⟩
def f12 : Ow.Def := ⟨"projection", 2, ["rows", "columns"], false, (Ow.P_projection 1)⟩
def f13 : Ow.Def := ⟨"_law_draws", 2, ["_law_script", "_law_many", "_law_cells", "_law_rest", "_law_draws_here", "_law_k", "_law_at", "_law_once", "_law_cell_here"], false, Ow.L_draws⟩
def f14 : Ow.Def := ⟨"_law_take", 2, ["_law_draws_here", "_law_many"], false, Ow.L_take⟩
def f15 : Ow.Def := ⟨"_law_cell", 2, ["_law_script", "_law_draws_here"], false, (Ow.L_cell 14)⟩
def f16 : Ow.Def := ⟨"_law_shuffled", 2, ["_law_draws_here", "_law_row", "_law_found", "_law_item"], false, (Ow.L_shuffled_2 14)⟩
def f17 : Ow.Def := ⟨"_law_inclusion", 3, ["_law_draws_here", "_law_scheme_here", "_law_order_here", "_law_first", "_law_table", "_law_other", "_law_many", "_law_columns_here", "_law_others", "_law_column"], false, (Ow.L_inclusion 14 16)⟩
def f18 : Ow.Def := ⟨"_law_wide", 2, ["_law_draws_here", "_law_cell_here", "_law_many", "_law_base", "_law_k"], false, (Ow.L_wide 14)⟩
def f19 : Ow.Def := ⟨"_law_rows", 4, ["_law_draws_here", "_law_width", "_law_most", "_law_wide_here", "_law_rows_here", "_law_k", "_law_column"], false, (Ow.L_rows 14)⟩
def f20 : Ow.Def := ⟨"_law_store", 4, ["_law_draws_here", "_law_scheme_here", "_law_most", "_law_wide_here", "_law_width"], false, (Ow.L_store 19)⟩
def f21 : Ow.Def := ⟨"_law_needed", 5, ["_law_draws_here", "_law_store_here", "_law_dependency_here", "_law_widths", "_law_wide_here", "_law_rows_here", "_law_row", "_law_made", "_law_k", "_law_other", "_law_column"], false, (Ow.L_needed 14)⟩
def f22 : Ow.Def := ⟨"_law_some", 3, ["_law_draws_here", "_law_dependency_here", "_law_keep", "_law_order_here", "_law_columns_here", "_law_k"], false, (Ow.L_some_2 14 16)⟩
def f23 : Ow.Def := ⟨"_law_ascending", 1, ["_law_dependency_here", "_law_pairs", "_law_k", "_law_pair"], false, Ow.L_ascending⟩
def f24 : Ow.Def := ⟨"law", 1, ["_law_script", "_law_draws_here", "_law_cell_here", "_law_scheme_here", "_law_wide_here", "_law_store_here", "_law_first", "_law_many", "_law_there", "_law_second", "_law_third", "_law_dependency_here", "_law_told", "_law_plain", "_law_values", "_law_table", "_law_row", "_law_column", "_law_one"], false, (Ow.law_k24 11 12 13 14 15 16 17 18 20 21 22 23)⟩
def T : List Ow.Def := [f0, f1, f2, f3, f4, f5, f6, f7, f8, f9, f10, f11, f12, f13, f14, f15, f16, f17, f18, f19, f20, f21, f22, f23, f24]
theorem sc0 : FnScope f0.names ["row", "columns"] (defScope (top 1)) := ⟨rfl, rfl, rfl, by decide +kernel, rfl, by decide +kernel, by decide +kernel⟩
theorem mb0 : Ow.mB ⟨T, f0.names, defScope (top 1), defScope (top 1)⟩ f0.body (defBody (top 1)) = true := by decide +kernel
theorem sc1 : FnScope f1.names ["rows", "columns"] (defScope (top 2)) := ⟨rfl, rfl, rfl, by decide +kernel, rfl, by decide +kernel, by decide +kernel⟩
theorem mb1 : Ow.mB ⟨T, f1.names, defScope (top 2), defScope (top 2)⟩ f1.body (defBody (top 2)) = true := by decide +kernel
theorem sc2 : FnScope f2.names ["found", "rows", "part"] (defScope (top 3)) := ⟨rfl, rfl, rfl, by decide +kernel, rfl, by decide +kernel, by decide +kernel⟩
theorem mb2 : Ow.mB ⟨T, f2.names, defScope (top 3), defScope (top 3)⟩ f2.body (defBody (top 3)) = true := by decide +kernel
theorem sc3 : FnScope f3.names ["width", "projections", "parts"] (defScope (top 4)) := ⟨rfl, rfl, rfl, by decide +kernel, rfl, by decide +kernel, by decide +kernel⟩
theorem mb3 : Ow.mB ⟨T, f3.names, defScope (top 4), defScope (top 4)⟩ f3.body (defBody (top 4)) = true := by decide +kernel
theorem sc4 : FnScope f4.names ["one", "other", "columns"] (defScope (top 6)) := ⟨rfl, rfl, rfl, by decide +kernel, rfl, by decide +kernel, by decide +kernel⟩
theorem mb4 : Ow.mB ⟨T, f4.names, defScope (top 6), defScope (top 6)⟩ f4.body (defBody (top 6)) = true := by decide +kernel
theorem sc5 : FnScope f5.names ["one", "other", "left", "right"] (defScope (top 7)) := ⟨rfl, rfl, rfl, by decide +kernel, rfl, by decide +kernel, by decide +kernel⟩
theorem mb5 : Ow.mB ⟨T, f5.names, defScope (top 7), defScope (top 7)⟩ f5.body (defBody (top 7)) = true := by decide +kernel
theorem sc6 : FnScope f6.names ["rows", "left", "right"] (defScope (top 8)) := ⟨rfl, rfl, rfl, by decide +kernel, rfl, by decide +kernel, by decide +kernel⟩
theorem mb6 : Ow.mB ⟨T, f6.names, defScope (top 8), defScope (top 8)⟩ f6.body (defBody (top 8)) = true := by decide +kernel
theorem sc7 : FnScope f7.names ["rows", "left", "right"] (defScope (top 9)) := ⟨rfl, rfl, rfl, by decide +kernel, rfl, by decide +kernel, by decide +kernel⟩
theorem mb7 : Ow.mB ⟨T, f7.names, defScope (top 9), defScope (top 9)⟩ f7.body (defBody (top 9)) = true := by decide +kernel
theorem sc8 : FnScope f8.names ["width", "rows", "parts"] (defScope (top 10)) := ⟨rfl, rfl, rfl, by decide +kernel, rfl, by decide +kernel, by decide +kernel⟩
theorem mb8 : Ow.mB ⟨T, f8.names, defScope (top 10), defScope (top 10)⟩ f8.body (defBody (top 10)) = true := by decide +kernel
theorem sc9 : FnScope f9.names ["rows", "columns", "others_rows", "others"] (defScope (top 11)) := ⟨rfl, rfl, rfl, by decide +kernel, rfl, by decide +kernel, by decide +kernel⟩
theorem mb9 : Ow.mB ⟨T, f9.names, defScope (top 11), defScope (top 11)⟩ f9.body (defBody (top 11)) = true := by decide +kernel
theorem sc10 : FnScope f10.names ["scheme", "store", "dependency"] (defScope (top 12)) := ⟨rfl, rfl, rfl, by decide +kernel, rfl, by decide +kernel, by decide +kernel⟩
theorem mb10 : Ow.mB ⟨T, f10.names, defScope (top 12), defScope (top 12)⟩ f10.body (defBody (top 12)) = true := by decide +kernel
theorem sc11 : FnScope f11.names ["scheme", "store", "dependency"] (defScope (top 13)) := ⟨rfl, rfl, rfl, by decide +kernel, rfl, by decide +kernel, by decide +kernel⟩
theorem mb11 : Ow.mB ⟨T, f11.names, defScope (top 13), defScope (top 13)⟩ f11.body (defBody (top 13)) = true := by decide +kernel
theorem sc12 : FnScope f12.names ["rows", "columns"] (defScope (top 15)) := ⟨rfl, rfl, rfl, by decide +kernel, rfl, by decide +kernel, by decide +kernel⟩
theorem mb12 : Ow.mB ⟨T, f12.names, defScope (top 15), defScope (top 15)⟩ f12.body (defBody (top 15)) = true := by decide +kernel
theorem sc13 : FnScope f13.names ["_law_script", "_law_many"] (defScope (top 17)) := ⟨rfl, rfl, rfl, by decide +kernel, rfl, by decide +kernel, by decide +kernel⟩
theorem mb13 : Ow.mB ⟨T, f13.names, defScope (top 17), defScope (top 17)⟩ f13.body (defBody (top 17)) = true := by decide +kernel
theorem sc14 : FnScope f14.names ["_law_draws_here", "_law_many"] (defScope (top 18)) := ⟨rfl, rfl, rfl, by decide +kernel, rfl, by decide +kernel, by decide +kernel⟩
theorem mb14 : Ow.mB ⟨T, f14.names, defScope (top 18), defScope (top 18)⟩ f14.body (defBody (top 18)) = true := by decide +kernel
theorem sc15 : FnScope f15.names ["_law_script", "_law_draws_here"] (defScope (top 19)) := ⟨rfl, rfl, rfl, by decide +kernel, rfl, by decide +kernel, by decide +kernel⟩
theorem mb15 : Ow.mB ⟨T, f15.names, defScope (top 19), defScope (top 19)⟩ f15.body (defBody (top 19)) = true := by decide +kernel
theorem sc16 : FnScope f16.names ["_law_draws_here", "_law_row"] (defScope (top 21)) := ⟨rfl, rfl, rfl, by decide +kernel, rfl, by decide +kernel, by decide +kernel⟩
theorem mb16 : Ow.mB ⟨T, f16.names, defScope (top 21), defScope (top 21)⟩ f16.body (defBody (top 21)) = true := by decide +kernel
theorem sc17 : FnScope f17.names ["_law_draws_here", "_law_scheme_here", "_law_order_here"] (defScope (top 25)) := ⟨rfl, rfl, rfl, by decide +kernel, rfl, by decide +kernel, by decide +kernel⟩
theorem mb17 : Ow.mB ⟨T, f17.names, defScope (top 25), defScope (top 25)⟩ f17.body (defBody (top 25)) = true := by decide +kernel
theorem sc18 : FnScope f18.names ["_law_draws_here", "_law_cell_here"] (defScope (top 29)) := ⟨rfl, rfl, rfl, by decide +kernel, rfl, by decide +kernel, by decide +kernel⟩
theorem mb18 : Ow.mB ⟨T, f18.names, defScope (top 29), defScope (top 29)⟩ f18.body (defBody (top 29)) = true := by decide +kernel
theorem sc19 : FnScope f19.names ["_law_draws_here", "_law_width", "_law_most", "_law_wide_here"] (defScope (top 31)) := ⟨rfl, rfl, rfl, by decide +kernel, rfl, by decide +kernel, by decide +kernel⟩
theorem mb19 : Ow.mB ⟨T, f19.names, defScope (top 31), defScope (top 31)⟩ f19.body (defBody (top 31)) = true := by decide +kernel
theorem sc20 : FnScope f20.names ["_law_draws_here", "_law_scheme_here", "_law_most", "_law_wide_here"] (defScope (top 32)) := ⟨rfl, rfl, rfl, by decide +kernel, rfl, by decide +kernel, by decide +kernel⟩
theorem mb20 : Ow.mB ⟨T, f20.names, defScope (top 32), defScope (top 32)⟩ f20.body (defBody (top 32)) = true := by decide +kernel
theorem sc21 : FnScope f21.names ["_law_draws_here", "_law_store_here", "_law_dependency_here", "_law_widths", "_law_wide_here"] (defScope (top 33)) := ⟨rfl, rfl, rfl, by decide +kernel, rfl, by decide +kernel, by decide +kernel⟩
theorem mb21 : Ow.mB ⟨T, f21.names, defScope (top 33), defScope (top 33)⟩ f21.body (defBody (top 33)) = true := by decide +kernel
theorem sc22 : FnScope f22.names ["_law_draws_here", "_law_dependency_here", "_law_keep"] (defScope (top 34)) := ⟨rfl, rfl, rfl, by decide +kernel, rfl, by decide +kernel, by decide +kernel⟩
theorem mb22 : Ow.mB ⟨T, f22.names, defScope (top 34), defScope (top 34)⟩ f22.body (defBody (top 34)) = true := by decide +kernel
theorem sc23 : FnScope f23.names ["_law_dependency_here"] (defScope (top 35)) := ⟨rfl, rfl, rfl, by decide +kernel, rfl, by decide +kernel, by decide +kernel⟩
theorem mb23 : Ow.mB ⟨T, f23.names, defScope (top 35), defScope (top 35)⟩ f23.body (defBody (top 35)) = true := by decide +kernel
theorem sc24 : FnScope f24.names ["_law_script"] (defScope (top 36)) := ⟨rfl, rfl, rfl, by decide +kernel, rfl, by decide +kernel, by decide +kernel⟩
theorem mb24 : Ow.mB ⟨T, f24.names, defScope (top 36), defScope (top 36)⟩ f24.body (defBody (top 36)) = true := by decide +kernel
theorem defs {K : PySem.W.Frag} {h : Heap} {mg : Str → Option Value} (X : K.In h) (G : h.Ns mainGlobals mg) (c : He.SaysD fa fn K) : ∀ (k : Nat) df, T[k]? = some df → Ow.DefOk K mg T df := by
  intro k df e
  match k, e with
  | 0, e =>
    cases e
    obtain ⟨fd, F⟩ := c.def_ 0 (d := d1) rfl
    exact ⟨_, fd, ["row", "columns"], _, _, _, _, _, _, F, sc0, rfl, He.glo_ok X G (c.fact 0 (f := .glo "picked") rfl), FunD.bindsN (ps := ["row", "columns"]) F fun _ _ _ _ _ _ us hl => match us, hl with | [_, _], _ => rfl, mb0⟩
  | 1, e =>
    cases e
    obtain ⟨fd, F⟩ := c.def_ 1 (d := d2) rfl
    exact ⟨_, fd, ["rows", "columns"], _, _, _, _, _, _, F, sc1, rfl, He.glo_ok X G (c.fact 1 (f := .glo "projected") rfl), FunD.bindsN (ps := ["rows", "columns"]) F fun _ _ _ _ _ _ us hl => match us, hl with | [_, _], _ => rfl, mb1⟩
  | 2, e =>
    cases e
    obtain ⟨fd, F⟩ := c.def_ 2 (d := d3) rfl
    exact ⟨_, fd, ["found", "rows", "part"], _, _, _, _, _, _, F, sc2, rfl, He.glo_ok X G (c.fact 2 (f := .glo "extended") rfl), FunD.bindsN (ps := ["found", "rows", "part"]) F fun _ _ _ _ _ _ us hl => match us, hl with | [_, _, _], _ => rfl, mb2⟩
  | 3, e =>
    cases e
    obtain ⟨fd, F⟩ := c.def_ 3 (d := d4) rfl
    exact ⟨_, fd, ["width", "projections", "parts"], _, _, _, _, _, _, F, sc3, rfl, He.glo_ok X G (c.fact 3 (f := .glo "joined") rfl), FunD.bindsN (ps := ["width", "projections", "parts"]) F fun _ _ _ _ _ _ us hl => match us, hl with | [_, _, _], _ => rfl, mb3⟩
  | 4, e =>
    cases e
    obtain ⟨fd, F⟩ := c.def_ 4 (d := d6) rfl
    exact ⟨_, fd, ["one", "other", "columns"], _, _, _, _, _, _, F, sc4, rfl, He.glo_ok X G (c.fact 4 (f := .glo "agree") rfl), FunD.bindsN (ps := ["one", "other", "columns"]) F fun _ _ _ _ _ _ us hl => match us, hl with | [_, _, _], _ => rfl, mb4⟩
  | 5, e =>
    cases e
    obtain ⟨fd, F⟩ := c.def_ 5 (d := d7) rfl
    exact ⟨_, fd, ["one", "other", "left", "right"], _, _, _, _, _, _, F, sc5, rfl, He.glo_ok X G (c.fact 5 (f := .glo "dealt_row") rfl), FunD.bindsN (ps := ["one", "other", "left", "right"]) F fun _ _ _ _ _ _ us hl => match us, hl with | [_, _, _, _], _ => rfl, mb5⟩
  | 6, e =>
    cases e
    obtain ⟨fd, F⟩ := c.def_ 6 (d := d8) rfl
    exact ⟨_, fd, ["rows", "left", "right"], _, _, _, _, _, _, F, sc6, rfl, He.glo_ok X G (c.fact 6 (f := .glo "settles_breach") rfl), FunD.bindsN (ps := ["rows", "left", "right"]) F fun _ _ _ _ _ _ us hl => match us, hl with | [_, _, _], _ => rfl, mb6⟩
  | 7, e =>
    cases e
    obtain ⟨fd, F⟩ := c.def_ 7 (d := d9) rfl
    exact ⟨_, fd, ["rows", "left", "right"], _, _, _, _, _, _, F, sc7, rfl, He.glo_ok X G (c.fact 7 (f := .glo "deals_breach") rfl), FunD.bindsN (ps := ["rows", "left", "right"]) F fun _ _ _ _ _ _ us hl => match us, hl with | [_, _, _], _ => rfl, mb7⟩
  | 8, e =>
    cases e
    obtain ⟨fd, F⟩ := c.def_ 8 (d := d10) rfl
    exact ⟨_, fd, ["width", "rows", "parts"], _, _, _, _, _, _, F, sc8, rfl, He.glo_ok X G (c.fact 8 (f := .glo "joins_breach") rfl), FunD.bindsN (ps := ["width", "rows", "parts"]) F fun _ _ _ _ _ _ us hl => match us, hl with | [_, _, _], _ => rfl, mb8⟩
  | 9, e =>
    cases e
    obtain ⟨fd, F⟩ := c.def_ 9 (d := d11) rfl
    exact ⟨_, fd, ["rows", "columns", "others_rows", "others"], _, _, _, _, _, _, F, sc9, rfl, He.glo_ok X G (c.fact 9 (f := .glo "within_breach") rfl), FunD.bindsN (ps := ["rows", "columns", "others_rows", "others"]) F fun _ _ _ _ _ _ us hl => match us, hl with | [_, _, _, _], _ => rfl, mb9⟩
  | 10, e =>
    cases e
    obtain ⟨fd, F⟩ := c.def_ 10 (d := d12) rfl
    exact ⟨_, fd, ["scheme", "store", "dependency"], _, _, _, _, _, _, F, sc10, rfl, He.glo_ok X G (c.fact 10 (f := .glo "least_breach") rfl), FunD.bindsN (ps := ["scheme", "store", "dependency"]) F fun _ _ _ _ _ _ us hl => match us, hl with | [_, _, _], _ => rfl, mb10⟩
  | 11, e =>
    cases e
    obtain ⟨fd, F⟩ := c.def_ 11 (d := d13) rfl
    exact ⟨_, fd, ["scheme", "store", "dependency"], _, _, _, _, _, _, F, sc11, rfl, He.glo_ok X G (c.fact 11 (f := .glo "keeps") rfl), FunD.bindsN (ps := ["scheme", "store", "dependency"]) F fun _ _ _ _ _ _ us hl => match us, hl with | [_, _, _], _ => rfl, mb11⟩
  | 12, e =>
    cases e
    obtain ⟨fd, F⟩ := c.def_ 12 (d := d15) rfl
    exact ⟨_, fd, ["rows", "columns"], _, _, _, _, _, _, F, sc12, rfl, He.glo_ok X G (c.fact 12 (f := .glo "projection") rfl), FunD.bindsN (ps := ["rows", "columns"]) F fun _ _ _ _ _ _ us hl => match us, hl with | [_, _], _ => rfl, mb12⟩
  | 13, e =>
    cases e
    obtain ⟨fd, F⟩ := c.def_ 13 (d := d17) rfl
    exact ⟨_, fd, ["_law_script", "_law_many"], _, _, _, _, _, _, F, sc13, rfl, He.glo_ok X G (c.fact 13 (f := .glo "_law_draws") rfl), FunD.bindsN (ps := ["_law_script", "_law_many"]) F fun _ _ _ _ _ _ us hl => match us, hl with | [_, _], _ => rfl, mb13⟩
  | 14, e =>
    cases e
    obtain ⟨fd, F⟩ := c.def_ 14 (d := d18) rfl
    exact ⟨_, fd, ["_law_draws_here", "_law_many"], _, _, _, _, _, _, F, sc14, rfl, He.glo_ok X G (c.fact 14 (f := .glo "_law_take") rfl), FunD.bindsN (ps := ["_law_draws_here", "_law_many"]) F fun _ _ _ _ _ _ us hl => match us, hl with | [_, _], _ => rfl, mb14⟩
  | 15, e =>
    cases e
    obtain ⟨fd, F⟩ := c.def_ 15 (d := d19) rfl
    exact ⟨_, fd, ["_law_script", "_law_draws_here"], _, _, _, _, _, _, F, sc15, rfl, He.glo_ok X G (c.fact 15 (f := .glo "_law_cell") rfl), FunD.bindsN (ps := ["_law_script", "_law_draws_here"]) F fun _ _ _ _ _ _ us hl => match us, hl with | [_, _], _ => rfl, mb15⟩
  | 16, e =>
    cases e
    obtain ⟨fd, F⟩ := c.def_ 16 (d := d21) rfl
    exact ⟨_, fd, ["_law_draws_here", "_law_row"], _, _, _, _, _, _, F, sc16, rfl, He.glo_ok X G (c.fact 16 (f := .glo "_law_shuffled") rfl), FunD.bindsN (ps := ["_law_draws_here", "_law_row"]) F fun _ _ _ _ _ _ us hl => match us, hl with | [_, _], _ => rfl, mb16⟩
  | 17, e =>
    cases e
    obtain ⟨fd, F⟩ := c.def_ 17 (d := d25) rfl
    exact ⟨_, fd, ["_law_draws_here", "_law_scheme_here", "_law_order_here"], _, _, _, _, _, _, F, sc17, rfl, He.glo_ok X G (c.fact 17 (f := .glo "_law_inclusion") rfl), FunD.bindsN (ps := ["_law_draws_here", "_law_scheme_here", "_law_order_here"]) F fun _ _ _ _ _ _ us hl => match us, hl with | [_, _, _], _ => rfl, mb17⟩
  | 18, e =>
    cases e
    obtain ⟨fd, F⟩ := c.def_ 18 (d := d29) rfl
    exact ⟨_, fd, ["_law_draws_here", "_law_cell_here"], _, _, _, _, _, _, F, sc18, rfl, He.glo_ok X G (c.fact 18 (f := .glo "_law_wide") rfl), FunD.bindsN (ps := ["_law_draws_here", "_law_cell_here"]) F fun _ _ _ _ _ _ us hl => match us, hl with | [_, _], _ => rfl, mb18⟩
  | 19, e =>
    cases e
    obtain ⟨fd, F⟩ := c.def_ 19 (d := d31) rfl
    exact ⟨_, fd, ["_law_draws_here", "_law_width", "_law_most", "_law_wide_here"], _, _, _, _, _, _, F, sc19, rfl, He.glo_ok X G (c.fact 19 (f := .glo "_law_rows") rfl), FunD.bindsN (ps := ["_law_draws_here", "_law_width", "_law_most", "_law_wide_here"]) F fun _ _ _ _ _ _ us hl => match us, hl with | [_, _, _, _], _ => rfl, mb19⟩
  | 20, e =>
    cases e
    obtain ⟨fd, F⟩ := c.def_ 20 (d := d32) rfl
    exact ⟨_, fd, ["_law_draws_here", "_law_scheme_here", "_law_most", "_law_wide_here"], _, _, _, _, _, _, F, sc20, rfl, He.glo_ok X G (c.fact 20 (f := .glo "_law_store") rfl), FunD.bindsN (ps := ["_law_draws_here", "_law_scheme_here", "_law_most", "_law_wide_here"]) F fun _ _ _ _ _ _ us hl => match us, hl with | [_, _, _, _], _ => rfl, mb20⟩
  | 21, e =>
    cases e
    obtain ⟨fd, F⟩ := c.def_ 21 (d := d33) rfl
    exact ⟨_, fd, ["_law_draws_here", "_law_store_here", "_law_dependency_here", "_law_widths", "_law_wide_here"], _, _, _, _, _, _, F, sc21, rfl, He.glo_ok X G (c.fact 21 (f := .glo "_law_needed") rfl), FunD.bindsN (ps := ["_law_draws_here", "_law_store_here", "_law_dependency_here", "_law_widths", "_law_wide_here"]) F fun _ _ _ _ _ _ us hl => match us, hl with | [_, _, _, _, _], _ => rfl, mb21⟩
  | 22, e =>
    cases e
    obtain ⟨fd, F⟩ := c.def_ 22 (d := d34) rfl
    exact ⟨_, fd, ["_law_draws_here", "_law_dependency_here", "_law_keep"], _, _, _, _, _, _, F, sc22, rfl, He.glo_ok X G (c.fact 22 (f := .glo "_law_some") rfl), FunD.bindsN (ps := ["_law_draws_here", "_law_dependency_here", "_law_keep"]) F fun _ _ _ _ _ _ us hl => match us, hl with | [_, _, _], _ => rfl, mb22⟩
  | 23, e =>
    cases e
    obtain ⟨fd, F⟩ := c.def_ 23 (d := d35) rfl
    exact ⟨_, fd, ["_law_dependency_here"], _, _, _, _, _, _, F, sc23, rfl, He.glo_ok X G (c.fact 23 (f := .glo "_law_ascending") rfl), FunD.bindsN (ps := ["_law_dependency_here"]) F fun _ _ _ _ _ _ us hl => match us, hl with | [_], _ => rfl, mb23⟩
  | 24, e =>
    cases e
    obtain ⟨fd, F⟩ := c.def_ 24 (d := d36) rfl
    exact ⟨_, fd, ["_law_script"], _, _, _, _, _, _, F, sc24, rfl, He.glo_ok X G (c.fact 24 (f := .glo "law") rfl), FunD.bindsN (ps := ["_law_script"]) F fun _ _ _ _ _ _ us hl => match us, hl with | [_], _ => rfl, mb24⟩
theorem free {K : PySem.W.Frag} {h : Heap} {mg : Str → Option Value} (X : K.In h) (G : h.Ns mainGlobals mg) (c : He.SaysD fa fn K) : ∀ x ∈ Ow.bltNames, mg x = none := by
  intro x hx
  simp only [Ow.bltNames, List.mem_cons, List.mem_nil_iff, or_false] at hx
  rcases hx with rfl | rfl | rfl | rfl | rfl | rfl | rfl | rfl | rfl | rfl | rfl | rfl | rfl | rfl | rfl | rfl | rfl | rfl
  · exact He.free_ok X G (c.fact 25 (f := .free "len") rfl)
  · exact He.free_ok X G (c.fact 26 (f := .free "int") rfl)
  · exact He.free_ok X G (c.fact 27 (f := .free "abs") rfl)
  · exact He.free_ok X G (c.fact 28 (f := .free "str") rfl)
  · exact He.free_ok X G (c.fact 29 (f := .free "list") rfl)
  · exact He.free_ok X G (c.fact 30 (f := .free "tuple") rfl)
  · exact He.free_ok X G (c.fact 31 (f := .free "sorted") rfl)
  · exact He.free_ok X G (c.fact 32 (f := .free "all") rfl)
  · exact He.free_ok X G (c.fact 33 (f := .free "any") rfl)
  · exact He.free_ok X G (c.fact 34 (f := .free "sum") rfl)
  · exact He.free_ok X G (c.fact 35 (f := .free "min") rfl)
  · exact He.free_ok X G (c.fact 36 (f := .free "max") rfl)
  · exact He.free_ok X G (c.fact 37 (f := .free "isinstance") rfl)
  · exact He.free_ok X G (c.fact 38 (f := .free "range") rfl)
  · exact He.free_ok X G (c.fact 39 (f := .free "bool") rfl)
  · exact He.free_ok X G (c.fact 40 (f := .free "zip") rfl)
  · exact He.free_ok X G (c.fact 41 (f := .free "enumerate") rfl)
  · exact He.free_ok X G (c.fact 42 (f := .free "set") rfl)
abbrev R : PySem.W.OpenRow := PySem.W.OpenLaw.row PySem.Challenge.rw_norowstray_k24_whole_inclusions
abbrev hk : PySem.W.Hook := He.hookD 4 fa fn
def ob (s : PySem.W.SharedT) : He.AlD := He.obsDG 4 fa fn (HandSHeadRun.getT s)
theorem ob_eq (s : PySem.W.SharedT) : ob s = hk.obs s.abs := He.obsDG_eq (HandSHeadRun.getT_eq s)
theorem run (w : World) : HandSHeadRun.RunEq R (PySem.W.view R.prog [36]) hk ob 15000 lo w := by
  intro os
  kernel_rfl
theorem facts {P : Program} {w : World} {K : PySem.W.Frag} {h : Heap} {mg : Str → Option Value} {f : Addr} (X : K.In h) (G : h.Ns mainGlobals mg) (hfa : mg ("law" : Str) = some (.ref f)) (c : He.SaysD fa fn K) (Nw d : Nat) :
    ∃ fd : FuncData, (∀ (s : Shared) (v : Value), BindsTo s fd ⟨[v], []⟩ [("_law_script", v)]) ∧ ∀ base : Heap, K.In base → base.Ns mainGlobals mg → FnOk P w K mg base (Ow.CXW P) (d + 1) f fd ["_law_script"] (Ow.spC ⟨K, P, w⟩ T Nw (d + 1) 24 1) := by
  obtain ⟨fd, F⟩ := c.def_ 24 (d := d36) rfl
  have e := hfa.symm.trans (He.glo_ok X G (c.fact 24 (f := .glo "law") rfl))
  cases e
  have b := FunD.bindsA (ps := ["_law_script"]) F fun _ _ _ _ _ _ us hl => match us, hl with | [_], _ => rfl
  exact ⟨fd, fun s v => b s [v] rfl, fun base _ _ => Ow.law_fn (df := f24) (defs X G c) (free X G c) rfl F sc24 rfl mb24⟩
end Lk24
open PySem PySem.W PySem.Calls PyProof.Rows
theorem Lk24_end (Nw d n : Nat) (hn : PySem.Challenge.rw_norowstray_k24_whole_inclusions.most = some n) (hn2 : n ≤ sizeLine) (hr : L2.Room (d + 1) callerA) (hv : ∀ ns : List Int, ns.length ≤ n → ∃ h', Ow.evC Lk24.T Nw (d + 1) 0 24 [.slst (ns.map Ow.W.int)] [] = .ok (.bl true) h') : PySem.Challenge.rw_norowstray_k24_whole_inclusions.Holds := by
  w_on; o_law
  refine HandSHeadRun.head_any (r := OpenLaw.row PySem.Challenge.rw_norowstray_k24_whole_inclusions) (q := view (OpenLaw.row PySem.Challenge.rw_norowstray_k24_whole_inclusions).prog [36]) (H := Lk24.hk) (ob := Lk24.ob) (M := 15000) (loose := Lk24.lo) (d := HandSHeadRun.topDef (OpenLaw.row PySem.Challenge.rw_norowstray_k24_whole_inclusions).prog 36) (kwd := []) Lk24.ob_eq
    (by kernel_rfl) (fun s => by kernel_rfl) Lk24.run (by kernel_rfl) (by kernel_rfl) (by kernel_rfl) (by rfl) (by first | assumption | decide +kernel) (by decide +kernel) ⟨rfl, rfl, rfl, rfl, rfl, by decide +kernel⟩ ?hw ?hc
  case hw => w_witness2
  case hc =>
    refine L2.walk_ofE (l := PySem.Challenge.rw_norowstray_k24_whole_inclusions) (n := n) (k := d + 1) (x := "_law_script") (CX := Ow.CXW (PySem.Challenge.rw_norowstray_k24_whole_inclusions).prog) hn hn2 (by kernel_rfl) hr ?F (Ow.cxw_none _)
    intro w mg fa h Y G hmg0
    obtain ⟨K, KX, c⟩ := Y
    have hmg : mg ("law" : PySem.Str) = some (.ref fa) := by
      have e : (HandSHeadRun.topDef (OpenLaw.row PySem.Challenge.rw_norowstray_k24_whole_inclusions).prog 36).name = ("law" : PySem.Str) := by kernel_rfl
      rw [← e]
      exact hmg0
    obtain ⟨fd, hb, hF⟩ := Lk24.facts (P := (PySem.Challenge.rw_norowstray_k24_whole_inclusions).prog) (w := w) KX G hmg c Nw d
    exact ⟨K, fd, _, KX, hb, fun H a ns hl _ hS => Ow.sp_of hS (hv ns hl), hF⟩
namespace Ow
open PySem
abbrev NW : Nat := 0
theorem is0 : Is Lk24.T 0 2 3 P_picked := ⟨_, rfl, rfl, rfl, rfl, rfl⟩
theorem is1 : Is Lk24.T 1 2 3 (P_projected 0) := ⟨_, rfl, rfl, rfl, rfl, rfl⟩
theorem is2 : Is Lk24.T 2 3 9 P_extended := ⟨_, rfl, rfl, rfl, rfl, rfl⟩
theorem is3 : Is Lk24.T 3 3 7 (P_joined 0 2) := ⟨_, rfl, rfl, rfl, rfl, rfl⟩
theorem is4 : Is Lk24.T 4 3 3 (P_agree 0) := ⟨_, rfl, rfl, rfl, rfl, rfl⟩
theorem is5 : Is Lk24.T 5 4 5 P_dealt_row := ⟨_, rfl, rfl, rfl, rfl, rfl⟩
theorem is6 : Is Lk24.T 6 3 5 (P_settles_breach 4) := ⟨_, rfl, rfl, rfl, rfl, rfl⟩
theorem is7 : Is Lk24.T 7 3 6 (P_deals_breach 4 5) := ⟨_, rfl, rfl, rfl, rfl, rfl⟩
theorem is8 : Is Lk24.T 8 3 10 (P_joins_breach 0 1 3 4) := ⟨_, rfl, rfl, rfl, rfl, rfl⟩
theorem is9 : Is Lk24.T 9 4 6 (P_within_breach 0) := ⟨_, rfl, rfl, rfl, rfl, rfl⟩
theorem is10 : Is Lk24.T 10 3 6 (P_least_breach 6 7 8 9) := ⟨_, rfl, rfl, rfl, rfl, rfl⟩
theorem is11 : Is Lk24.T 11 3 3 (P_keeps 10) := ⟨_, rfl, rfl, rfl, rfl, rfl⟩
theorem is12 : Is Lk24.T 12 2 2 (P_projection 1) := ⟨_, rfl, rfl, rfl, rfl, rfl⟩
theorem is13 : Is Lk24.T 13 2 9 L_draws := ⟨_, rfl, rfl, rfl, rfl, rfl⟩
theorem is14 : Is Lk24.T 14 2 2 L_take := ⟨_, rfl, rfl, rfl, rfl, rfl⟩
theorem is15 : Is Lk24.T 15 2 2 (L_cell 14) := ⟨_, rfl, rfl, rfl, rfl, rfl⟩
theorem is16 : Is Lk24.T 16 2 4 (L_shuffled_2 14) := ⟨_, rfl, rfl, rfl, rfl, rfl⟩
theorem is17 : Is Lk24.T 17 3 10 (L_inclusion 14 16) := ⟨_, rfl, rfl, rfl, rfl, rfl⟩
theorem is18 : Is Lk24.T 18 2 5 (L_wide 14) := ⟨_, rfl, rfl, rfl, rfl, rfl⟩
theorem is19 : Is Lk24.T 19 4 7 (L_rows 14) := ⟨_, rfl, rfl, rfl, rfl, rfl⟩
theorem is20 : Is Lk24.T 20 4 5 (L_store 19) := ⟨_, rfl, rfl, rfl, rfl, rfl⟩
theorem is21 : Is Lk24.T 21 5 11 (L_needed 14) := ⟨_, rfl, rfl, rfl, rfl, rfl⟩
theorem is22 : Is Lk24.T 22 3 6 (L_some_2 14 16) := ⟨_, rfl, rfl, rfl, rfl, rfl⟩
theorem is23 : Is Lk24.T 23 1 4 L_ascending := ⟨_, rfl, rfl, rfl, rfl, rfl⟩
theorem is24 : Is Lk24.T 24 1 19 (law_k24 11 12 13 14 15 16 17 18 20 21 22 23) := ⟨_, rfl, rfl, rfl, rfl, rfl⟩
theorem cs_0_0 {d : Nat} : ∀ (y0 : List Int) (y1 : List Int), CS (DI.drw 0) (evC Lk24.T NW (d + 1)) 0 [.ex (row y0), .ex (row y1)] (fun v => .ex (row v)) (S_P_picked y0 y1) := fun y0 y1 => c_P_picked  is0 y0 y1
theorem cs_1_0 {d : Nat} : ∀ (y0 : List (List Int)) (y1 : List Int), CS (DI.drw 0) (evC Lk24.T NW (d + 2)) 1 [.ex ((eT row) y0), .ex (row y1)] (fun v => .ex ((eT row) v)) (S_P_projected y0 y1) := fun y0 y1 => c_P_projected (cs_0_0 (d := d + 0)) is1 y0 y1
theorem cs_2_0 {d : Nat} : ∀ (y0 : List W) (y1 : List (List Int)) (y2 : List Int), CS (DI.drw 0) (evC Lk24.T NW (d + 1)) 2 [.lo ((eL eW) y0), .ex ((eT row) y1), .ex (row y2)] (fun v => .ex ((eL eW) v)) (S_P_extended y0 y1 y2) := fun y0 y1 y2 => c_P_extended  is2 y0 y1 y2
theorem cs_3_0 {d : Nat} : ∀ (y0 : Int) (y1 : List (List (List Int))) (y2 : List (List Int)), CS (DI.drw 0) (evC Lk24.T NW (d + 2)) 3 [.ex (W.int y0), .lo ((eL (eT row)) y1), .ex ((eT row) y2)] (fun v => .ex ((eT row) v)) (S_P_joined y0 y1 y2) := fun y0 y1 y2 => c_P_joined  is3 y0 y1 y2
theorem cs_4_0 {d : Nat} : ∀ (y0 : List Int) (y1 : List Int) (y2 : List Int), CS (DI.drw 0) (evC Lk24.T NW (d + 2)) 4 [.ex (row y0), .ex (row y1), .ex (row y2)] (fun v => .ex (W.bl v)) (S_P_agree y0 y1 y2) := fun y0 y1 y2 => c_P_agree (cs_0_0 (d := d + 0)) is4 y0 y1 y2
theorem cs_5_0 {d : Nat} : ∀ (y0 : List Int) (y1 : List Int) (y2 : List Int) (y3 : List Int), CS (DI.drw 0) (evC Lk24.T NW (d + 1)) 5 [.ex (row y0), .ex (row y1), .ex (row y2), .ex (row y3)] (fun v => .ex (row v)) (S_P_dealt_row y0 y1 y2 y3) := fun y0 y1 y2 y3 => c_P_dealt_row  is5 y0 y1 y2 y3
theorem cs_6_0 {d : Nat} : ∀ (y0 : List (List Int)) (y1 : List Int) (y2 : List Int), CS (DI.drw 0) (evC Lk24.T NW (d + 3)) 6 [.ex ((eT row) y0), .ex (row y1), .ex (row y2)] (fun v => .ex ((eO (eT row)) v)) (S_P_settles_breach y0 y1 y2) := fun y0 y1 y2 => c_P_settles_breach (cs_4_0 (d := d + 0)) is6 y0 y1 y2
theorem cs_7_0 {d : Nat} : ∀ (y0 : List (List Int)) (y1 : List Int) (y2 : List Int), CS (DI.drw 0) (evC Lk24.T NW (d + 3)) 7 [.ex ((eT row) y0), .ex (row y1), .ex (row y2)] (fun v => .ex ((eO (eT row)) v)) (S_P_deals_breach y0 y1 y2) := fun y0 y1 y2 => c_P_deals_breach (cs_4_0 (d := d + 0)) (cs_5_0 (d := d + 1)) is7 y0 y1 y2
theorem cs_8_0 {d : Nat} : ∀ (y0 : Int) (y1 : List (List Int)) (y2 : List (List Int)), CS (DI.drw 0) (evC Lk24.T NW (d + 3)) 8 [.ex (W.int y0), .ex ((eT row) y1), .ex ((eT row) y2)] (fun v => .ex ((eO (eT row)) v)) (S_P_joins_breach y0 y1 y2) := fun y0 y1 y2 => c_P_joins_breach (cs_1_0 (d := d + 0)) (cs_3_0 (d := d + 0)) (cs_0_0 (d := d + 1)) (cs_4_0 (d := d + 0)) is8 y0 y1 y2
theorem cs_9_0 {d : Nat} : ∀ (y0 : List (List Int)) (y1 : List Int) (y2 : List (List Int)) (y3 : List Int), CS (DI.drw 0) (evC Lk24.T NW (d + 2)) 9 [.ex ((eT row) y0), .ex (row y1), .ex ((eT row) y2), .ex (row y3)] (fun v => .ex ((eO (eT row)) v)) (S_P_within_breach y0 y1 y2 y3) := fun y0 y1 y2 y3 => c_P_within_breach (cs_0_0 (d := d + 0)) is9 y0 y1 y2 y3
theorem cs_10_0 {d : Nat} : ∀ (y0 : List Int) (y1 : List (List (List Int))) (y2 : W), CS (DI.drw 0) (evC Lk24.T NW (d + 4)) 10 [.ex (row y0), .ex ((eT (eT row)) y1), .ex (eW y2)] (fun v => .ex ((eO (eT row)) v)) (S_P_least_breach y0 y1 y2) := fun y0 y1 y2 => c_P_least_breach (cs_6_0 (d := d + 0)) (cs_7_0 (d := d + 0)) (cs_8_0 (d := d + 0)) (cs_9_0 (d := d + 1)) is10 y0 y1 y2
theorem cs_11_0 {d : Nat} : ∀ (y0 : List Int) (y1 : List (List (List Int))) (y2 : W), CS (DI.drw 0) (evC Lk24.T NW (d + 5)) 11 [.ex (row y0), .ex ((eT (eT row)) y1), .ex (eW y2)] (fun v => .ex (W.bl v)) (S_P_keeps y0 y1 y2) := fun y0 y1 y2 => c_P_keeps (cs_10_0 (d := d + 0)) is11 y0 y1 y2
theorem cs_12_0 {d : Nat} : ∀ (y0 : List (List Int)) (y1 : List Int), CS (DI.drw 0) (evC Lk24.T NW (d + 3)) 12 [.ex ((eT row) y0), .ex (row y1)] (fun v => .ex ((eT row) v)) (S_P_projection y0 y1) := fun y0 y1 => c_P_projection (cs_1_0 (d := d + 0)) is12 y0 y1
theorem cs_14_0 {d : Nat} : ∀ (y0 : Int), CS (DI.drw 0) (evC Lk24.T NW (d + 1)) 14 [.ex (.ref 0), .ex (W.int y0)] (fun v => .ex (W.int v)) (S_take y0) := fun y0 => c_take  is14 y0
theorem cs_15_0 {d : Nat} : ∀ (y0 : List Int), CS (DI.drw 0) (evC Lk24.T NW (d + 2)) 15 [.ex ((eSL W.int) y0), .ex (.ref 0)] (fun v => .ex (W.int v)) (S_L_cell y0) := fun y0 => c_L_cell (cs_14_0 (d := d + 0)) is15 y0
theorem cs_16_0 {d : Nat} : ∀ (y0 : List Int), CS (DI.drw 0) (evC Lk24.T NW (d + 2)) 16 [.ex (.ref 0), .lo ((eL W.int) y0)] (fun v => .ex ((eL W.int) v)) (S_L_shuffled_2 y0) := fun y0 => c_L_shuffled_2 (cs_14_0 (d := d + 0)) is16 y0
theorem cs_17_0 {d : Nat} : ∀ (y0 : List Int) (y1 : List Int), CS (DI.drw 0) (evC Lk24.T NW (d + 3)) 17 [.ex (.ref 0), .ex (row y0), .lo ((eL W.int) y1)] (fun v => .ex (eW v)) (S_L_inclusion y0 y1) := fun y0 y1 => c_L_inclusion (cs_14_0 (d := d + 1)) (cs_16_0 (d := d + 0)) is17 y0 y1
theorem cs_18_0 {d : Nat} : ∀ (y0 : Int), CS (DI.drw 0) (evC Lk24.T NW (d + 2)) 18 [.ex (.ref 0), .ex (W.int y0)] (fun v => .ex ((eL W.int) v)) (S_L_wide y0) := fun y0 => c_L_wide (cs_14_0 (d := d + 0)) is18 y0
theorem cs_19_0 {d : Nat} : ∀ (y0 : Int) (y1 : Int) (y2 : List Int), CS (DI.drw 0) (evC Lk24.T NW (d + 2)) 19 [.ex (.ref 0), .ex (W.int y0), .ex (W.int y1), .lo ((eL W.int) y2)] (fun v => .ex ((eT row) v)) (S_L_rows y0 y1 y2) := fun y0 y1 y2 => c_L_rows (cs_14_0 (d := d + 0)) is19 y0 y1 y2
theorem cs_20_0 {d : Nat} : ∀ (y0 : List Int) (y1 : Int) (y2 : List Int), CS (DI.drw 0) (evC Lk24.T NW (d + 3)) 20 [.ex (.ref 0), .ex (row y0), .ex (W.int y1), .lo ((eL W.int) y2)] (fun v => .ex ((eT (eT row)) v)) (S_L_store y0 y1 y2) := fun y0 y1 y2 => c_L_store (cs_19_0 (d := d + 0)) is20 y0 y1 y2
theorem cs_21_0 {d : Nat} : ∀ (y0 : List (List (List Int))) (y1 : W) (y2 : List Int) (y3 : List Int), CS (DI.drw 0) (evC Lk24.T NW (d + 2)) 21 [.ex (.ref 0), .ex ((eT (eT row)) y0), .ex (eW y1), .ex (row y2), .lo ((eL W.int) y3)] (fun v => .ex ((eT (eT row)) v)) (S_L_needed y0 y1 y2 y3) := fun y0 y1 y2 y3 => c_L_needed (cs_14_0 (d := d + 0)) is21 y0 y1 y2 y3
theorem cs_22_0 {d : Nat} : ∀ (y0 : W) (y1 : Bool), CS (DI.drw 0) (evC Lk24.T NW (d + 3)) 22 [.ex (.ref 0), .ex (eW y0), .ex (W.bl y1)] (fun v => .ex (eW v)) (S_L_some_2 y0 y1) := fun y0 y1 => c_L_some_2 (cs_16_0 (d := d + 0)) (cs_14_0 (d := d + 1)) is22 y0 y1
theorem cs_23_0 {d : Nat} : ∀ (y0 : W), CS (DI.drw 0) (evC Lk24.T NW (d + 1)) 23 [.ex (eW y0)] (fun v => .ex (eW v)) (S_L_ascending y0) := fun y0 => c_L_ascending  is23 y0
theorem run_law (ns : List Int) (hn : ns.length ≤ 1000) : ∃ h', evC Lk24.T NW 6 0 24 [.slst (iv ns)] [] = .ok (.bl true) h' := by
  obtain ⟨ds, hd⟩ := draws_run (T := Lk24.T) (N := NW) (d := 5) (b := 0) (h := []) (m := 300) is13 (by decide) hn (by decide)
  refine c_law_k24 (cs_15_0 (d := 3)) (cs_14_0 (d := 4)) (cs_18_0 (d := 3)) (cs_20_0 (d := 2)) (cs_17_0 (d := 2)) (cs_16_0 (d := 3)) (cs_21_0 (d := 3)) (cs_11_0 (d := 0)) (cs_23_0 (d := 4)) (cs_12_0 (d := 2)) (cs_22_0 (d := 2)) is24 ns hd ?_
  obtain ⟨v, d', e, hv⟩ := ok_law_k24 ns ds
  subst hv
  exact ⟨d', e⟩
end Ow
theorem PySem.Challenge.cw_norowstray_k24_whole_inclusions_holds : PySem.Challenge.rw_norowstray_k24_whole_inclusions.Holds :=
  Lk24_end Ow.NW 5 63 rfl (Nat.le_of_lt (Nat.lt_of_le_of_lt (by decide) Ow.size_big)) ⟨rfl, by decide, by decide⟩ fun ns hn => Ow.run_law ns (Nat.le_trans hn (by decide))
