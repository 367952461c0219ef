import PyProof.Rows.All
import Wide.All
import OpenK.AllK
import Wide.FinOn
import PyProof.EqAt
import PyProof.EqKinds
import PyProof.TupleCall
import PyProof.MaxThree
import KE.KOpsOwn
import KE.KRevSl
import HandS.ForMost
import HandS.IsInst
import HandS.Wide
import HandS.TupAny
import HandS.Codes
import HandS.Defaults
import HandS.SlotsOwn
import HandS.Style
import HandS.Flow
import PySem.Challenge.RW_roundheap_k35_whole_far_words_compared
import HandS.Deep
import HandS.Evl
import HandS.Walk
import KE.RegKIsAll
set_option exponentiation.threshold 256
set_option Elab.async false
set_option linter.all false
set_option maxRecDepth 100000
set_option maxHeartbeats 4000000
namespace RH
open PySem PySem.Spec PyProof.Rows L2
section
variable {X : Cx}
/-- min(i, j, k) -/
theorem cr_min3 (hc : X.calm = true) : CallR X (.builtin "min") (fun xs H Q => ∃ i j k, xs = [.int i, .int j, .int k] ∧ Q (.int (min i (min j k))) H) := by
  intro pins s σ H xs us Q I r h
  obtain ⟨i, j, k, rfl, q⟩ := h
  cases r with
  | cons r1 r =>
  cases r with
  | cons r2 r =>
  cases r with
  | cons r3 r =>
  cases r
  obtain ⟨t1, rfl⟩ := r1
  obtain ⟨t2, rfl⟩ := r2
  obtain ⟨t3, rfl⟩ := r3
  refine min_three_ints (I.ok.hd hc) fun h' tk kp => ⟨_, H, I.kept kp, ?_, q⟩
  by_cases h1 : j < i
  · by_cases h2 : k < j
    · rw [if_pos h1, if_pos h2, show min i (min j k) = k by omega]
      exact ⟨_, rfl⟩
    · rw [if_pos h1, if_neg h2, show min i (min j k) = j by omega]
      exact ⟨_, rfl⟩
  · by_cases h2 : k < i
    · rw [if_neg h1, if_pos h2, show min i (min j k) = k by omega]
      exact ⟨_, rfl⟩
    · rw [if_neg h1, if_neg h2, show min i (min j k) = i by omega]
      exact ⟨_, rfl⟩
end

section
variable {prog : Program} {w : World} {A : Around} {E : Value → Shared → Prop} {s : Shared}
theorem adj_back (n : Nat) : Builtin.Slice.sliceAdjust none none (-1) (n : Int) = ((n : Int) - 1, -1) := by
  have h1 : (-1 : Int) < 0 := by decide
  unfold Builtin.Slice.sliceAdjust
  simp only [h1, if_true]
theorem plc_back (n : Nat) : Builtin.Slice.slicePlaces ((n : Int) - 1) (-1) (-1) = n := by
  unfold Builtin.Slice.slicePlaces
  have h1 : ¬ ((-1 : Int) > 0) := by decide
  simp only [h1, if_false]
  by_cases h : (-1 : Int) < (n : Int) - 1
  · simp only [h, if_true]
    have e : ((n : Int) - 1 - -1 - 1) / (- -1) + 1 = (n : Int) := by
      rw [show (- -1 : Int) = 1 by decide, Int.ediv_one]
      omega
    first
      | omega
      | (rw [e]; exact Int.toNat_natCast n)
  · have e : n = 0 := by omega
    subst e
    simp
theorem fm_congr {α β : Type} {f g : α → Option β} : ∀ {l : List α}, (∀ a ∈ l, f a = g a) → l.filterMap f = l.filterMap g
  | [], _ => rfl
  | a :: l, h => by
    rw [List.filterMap_cons, List.filterMap_cons, h a (List.mem_cons_self ..), fm_congr fun b hb => h b (List.mem_cons_of_mem _ hb)]
theorem pick_back (xs : Array Value) : ((List.range xs.size).filterMap fun (m : Nat) => xs[((xs.size : Int) - 1 + (m : Int) * -1).toNat]?).toArray = xs.toList.reverse.toArray := by
  have e : ∀ m ∈ List.range xs.size, xs[((xs.size : Int) - 1 + (m : Int) * -1).toNat]? = (fun (m : Nat) => xs[xs.size - 1 - m]?) m := fun m hm => by
    have := List.mem_range.mp hm
    show xs[((xs.size : Int) - 1 + (m : Int) * -1).toNat]? = xs[xs.size - 1 - m]?
    rw [show ((xs.size : Int) - 1 + (m : Int) * -1).toNat = xs.size - 1 - m by omega]
  rw [fm_congr e]
  have e2 : (fun (m : Nat) => xs[xs.size - 1 - m]?) = ((fun x => xs[x]?) ∘ fun m => xs.size - 1 - m) := rfl
  rw [e2, ← List.filterMap_map, PySem.W.krv_range, List.filterMap_reverse, PySem.W.krv_all]
theorem applied_back {sl : Addr} {vs : Value} {n : Nat} {Q : Int × Int × Nat → Shared → Prop} (hs : s.heap.IsSliceOf sl .none .none vs) (ps : IsPart vs (some (-1)))
    (h : Q ((n : Int) - 1, -1, n) s) : wpAny (model prog w) A (Builtin.Slice.sliceApplied (.ref sl) (pure (n : Int))) Q E s := by
  obtain ⟨os, hos, hcs, hds⟩ := id hs
  unfold Builtin.Slice.sliceApplied Builtin.Slice.sliceFields
  refine wpAny_bind (wpAny_bind (wpAny_field hos hds (x := .none) rfl (wpAny_bind (wpAny_field hos hds (x := .none) rfl (wpAny_bind (wpAny_field hos hds (x := vs) rfl (wpAny_pure ?_)))))))
  refine wpAny_bind (HT.slicePart_ ps ?_)
  show wpAny _ _ (if ((-1 : Int) == 0) = true then _ else _) _ _ s
  rw [if_neg (by decide)]
  refine wpAny_bind (HT.slicePart_ .none (wpAny_bind (HT.slicePart_ .none (wpAny_bind (wpAny_pure ?_)))))
  show wpAny _ _ (match Builtin.Slice.sliceAdjust none none (-1) (n : Int) with | (lo, hi) => pure (lo, (-1 : Int), Builtin.Slice.slicePlaces lo hi (-1))) _ _ s
  rw [adj_back n]
  show wpAny _ _ (pure ((n : Int) - 1, (-1 : Int), Builtin.Slice.slicePlaces ((n : Int) - 1) (-1) (-1))) _ _ s
  rw [plc_back]
  exact wpAny_pure h
theorem getItem_tuple_back {t sl : Addr} {items : Array Value} {vs : Value} {Q : Value → Shared → Prop} (ht : IsTup s.heap t items) (hs : s.heap.IsSliceOf sl .none .none vs) (ps : IsPart vs (some (-1)))
    (h : Q (.ref s.heap.objs.size) { s with heap := s.heap.push { cls := .type "tuple", data := .seq items.toList.reverse.toArray } })
    (hsz : items.size ≤ sizeLine) : wpAny (model prog w) A (getItem (.ref t) (.ref sl)) Q E s := by
  have htake : sizeOk (.seq items.toList.reverse.toArray) := by
    show items.toList.reverse.toArray.size ≤ sizeLine
    rw [List.size_toArray, List.length_reverse, Array.length_toList]
    exact hsz
  obtain ⟨os, hos, hcs, hds⟩ := id hs
  have hTs : s.TypeIs (.ref sl) "slice" := ⟨os, hos, hcs⟩
  unfold getItem
  try with_reducible refine wpAny_holding ?_
  first | refine wpAny_bind (wpAny_pure ?_) | skip
  refine wpAny_bind (wpAny_sequenceKey ht.typeIs (by decide) (wpAny_bind (wpAny_callSpecial?_slot (name := Str.ofString "__getitem__") ht.typeIs PyProof.Rows.slot_tuple_getitem (wpAny_call_entry PyProof.Rows.slot_tuple_getitem ht.typeIs entry_tuple_getitem ?_ (args_tuple_getitem _ _)))))
  show wpAny _ _ (Builtin.Tuple.tupleItemsOf (.ref t) >>= _) _ _ s
  refine wpAny_bind (tupleItemsOf_ ht (wpAny_bind (wpAny_typeOf hTs ?_)))
  rw [if_pos (by decide)]
  refine wpAny_bind (applied_back (n := items.size) hs ps ?_)
  have hno : ¬ ((((items.size : Int) - 1) == 0 && (-1 : Int) == 1 && items.size == items.size) = true) := by
    rw [show ((-1 : Int) == 1) = false by decide, Bool.and_false, Bool.false_and]
    exact Bool.false_ne_true
  show wpAny _ _ (if (((items.size : Int) - 1) == 0 && (-1 : Int) == 1 && items.size == items.size) = true then _ else _) _ _ s
  rw [if_neg hno, pick_back]
  first
    | exact wpAny_bind (m := Builtin.Tuple.tupleExact _) (wpAny_newObj_type (wpAny_pure ⟨_, rfl, wpAny_pure h⟩) htake)
    | exact wpAny_bind (m := Builtin.Tuple.tupleExact _) (wpAny_newObj_type (wpAny_bind (wpAny_pure (wpAny_pure ⟨_, rfl, wpAny_pure h⟩))) htake)
    | exact wpAny_bind (wpAny_bind (m := Builtin.Tuple.tupleExact _) (wpAny_newObj_type (wpAny_pure (wpAny_pure ⟨_, rfl, wpAny_pure h⟩)) htake))
    | exact wpAny_bind (wpAny_bind (m := Builtin.Tuple.tupleExact _) (wpAny_newObj_type (wpAny_pure ⟨_, rfl, wpAny_pure h⟩) htake))
end

section
variable {X : Cx}
/-- t[::-1] -/
def tRevT (K : PySem.W.Frag) (te : TE) : TE := fun σ H Q => te σ H fun x H1 => ∃ a xs, x = .ref a ∧ SqT K H1 a xs ∧ ∀ p, H1 p = none → Q (.ref p) (upd H1 p (.tup xs.reverse))
theorem vals_rev : ∀ {xs : List V} {us : List Value}, Vals xs us → Vals xs.reverse us.reverse
  | _, _, .nil => .nil
  | _, _, .cons r t => by
    rw [List.reverse_cons, List.reverse_cons]
    exact (vals_rev t).append (.cons r .nil)
theorem pe_revT {e : Expr} {te : TE} {k : Nat} {p1 p2 p3 pos : Pos} (he : PE X e te) : PE X (.Subscript e (.Slice none none (some (.UnaryOp .USub (.Constant (.int 1) k p1) p2)) p3) pos) (tRevT X.K te) := by
  constructor
  intro pins s σ H Q I h
  refine Subscript_ (thn (he.run pins s σ H _ I h) fun v s1 ⟨x, H1, I1, r1, a, xs, ex, hx, q⟩ => ?_)
  subst ex
  cases r1
  have hst : PO X (some (.UnaryOp .USub (.Constant (.int 1) k p1) p2)) (tPart (tUn (rU fun i => .int (-i)) (tC (.int 1)))) := po_some (pe_un un_neg pe_int)
  refine wpAny_Slice (thn (po_none.run pins s1 σ H1 (fun o H2 => o = none ∧ H2 = H1) I1 ⟨rfl, rfl⟩) fun vl s2 ⟨l, H2, I2, pl, el, e2⟩ => ?_)
  subst el e2
  refine thn (po_none.run pins s2 σ H2 (fun o H3 => o = none ∧ H3 = H2) I2 ⟨rfl, rfl⟩) fun vu s3 ⟨u, H3, I3, pu, eu, e3⟩ => ?_
  subst eu e3
  refine thn (hst.run pins s3 σ H3 (fun o H4 => o = some (-1) ∧ H4 = H3) I3 ⟨1, rfl, -1, rfl, rfl, rfl⟩) fun vs s4 ⟨o, H4, I4, ps, eo, e4⟩ => ?_
  subst eo e4
  cases pl
  cases pu
  have I5 : Inv X pins σ H4 { s4 with heap := s4.heap.push { cls := .type "slice", data := .fields #[.none, .none, vs] } } := I4.kept (t' := s4.toks) fun b ob z => Heap.get?_push_of_some _ z
  obtain ⟨its, r, ht, hz⟩ := I5.tuple hx
  have hlen := r.length
  show wpAny (model X.prog X.w) X.A (subscriptTail e (.Slice none none (some (.UnaryOp .USub (.Constant (.int 1) k p1) p2)) p3) (.ref a) (.ref s4.heap.objs.size)) (EP X pins σ Q) X.xe { s4 with heap := s4.heap.push { cls := .type "slice", data := .fields #[.none, .none, vs] } }
  refine tail_any (ops := [.ref a, .ref s4.heap.objs.size]) ht.typeIs PyProof.Rows.slot_tuple_getitem.lookup (getItem_tuple_back ht (Heap.IsSliceOf.new _ .none .none vs) ps ?_ (by rw [List.size_toArray]; omega)) (by with_unfolding_all rfl)
  refine ⟨.ref _, _, I5.laid (t' := s4.toks) (o := .tup xs.reverse) (fun b ob z => Heap.get?_push_of_some _ z) (Nat.le_refl _) ?_, rfl, q _ (I5.hok.fresh (Nat.le_refl _))⟩
  exact ⟨by rw [List.length_reverse]; exact hz, _, vals_rev r, IsTup.new _ _⟩
end

/-- what an own operator of the class at C leans on: the def at f of the dunder nm -/
structure OpOf (K : PySem.W.Frag) (C f : Addr) (nm : Str) : Prop where
  at_ : PySem.W.findIn K (.ref C) nm = some (some (.ref f))
  fn : PySem.W.isFn K (.ref f) = true
  first : PySem.W.selfFirst K C = true
section
variable {X : Cx} {CX : CXT} {C f : Addr} {fd : FuncData} {ps : List Str} {ds : List Value} {dvs : List V} {k : Nat} {sp : Sp} {E : XK}
theorem ins_at {pins : List (Addr × Obj)} {σ : L2.St} {H : Hp} {s : Shared} {a dx : Addr} {fs : List (Str × V)} (I : Inv X pins σ H s) (e : H a = some (.ins C dx fs)) : ∃ od, PySem.W.InstAt s.heap a (PySem.W.instObj C dx) C (some od) := by
  obtain ⟨mA, O, _⟩ := ins_get I.hok e
  obtain ⟨od, J, _⟩ := O.look
  exact ⟨od, J⟩
/-- x op y, both of the class at C -/
def rOwn2 (C : Addr) (sp : Sp) (E : XK) : R2 := fun x y H Q => ∃ a dx fs b dy gs, x = .ref a ∧ y = .ref b ∧ H a = some (.ins C dx fs) ∧ H b = some (.ins C dy gs) ∧ sp [x, y] H Q E
theorem op_own2 {op : Operator} (O : OpOf X.K C f (PySem.dunder op.info.2)) (F : FnOk X.prog X.w X.K X.mg X.base CX k f fd ps sp) (hr : Room k X.A) (hb : Binds X.K fd ps []) (hx : Passes CX X E) : OpR X (binaryOp op) (rOwn2 C sp E) := by
  intro pins s σ H x y v u Q I rx ry h
  obtain ⟨a, dx, fs, b, dy, gs, rfl, rfl, ha, hb', q⟩ := h
  cases (show v = Value.ref a from rx)
  cases (show u = Value.ref b from ry)
  obtain ⟨od, J⟩ := ins_at I ha
  obtain ⟨od', J'⟩ := ins_at I hb'
  obtain ⟨m, hF⟩ := I.fr
  refine PySem.W.binop_K hF I.ok.mod.kin J J'.type O.first O.at_ O.fn ?_
  refine thn (run_fn (us := [.ref a, .ref b]) (vs := [.ref a, .ref b]) F hr hb .nil hx I (.cons rfl (.cons rfl .nil)) q) fun w s' z => ?_
  obtain ⟨z', H', I', rz, qz⟩ := z
  exact SlX.cmpback rz ⟨z', H', I', rz, qz⟩
/-- x op n, x of the class at C, n an int -/
structure OpInt (K : PySem.W.Frag) (C : Addr) (nm rn : Str) : Prop where
  rc : ∃ rc, PySem.W.findIn K (.ref C) rn = some rc ∧ (rc = none ∨ ∃ g : Addr, rc = some (.ref g))
  i1 : ∃ fo, PySem.W.findIn K (.type "int") nm = some fo
  i2 : ∃ ro, PySem.W.findIn K (.type "int") rn = some ro
  sub : PySem.W.subIn K (.type "int") (.ref C) = some false
def rOwnI (C : Addr) (sp : Sp) (E : XK) : R2 := fun x y H Q => ∃ a dx fs i, x = .ref a ∧ y = .int i ∧ H a = some (.ins C dx fs) ∧ sp [x, y] H Q E
theorem op_ownI {op : Operator} (O : OpOf X.K C f (PySem.dunder op.info.2)) (O2 : OpInt X.K C (PySem.dunder op.info.2) (PySem.dunderR op.info.2)) (F : FnOk X.prog X.w X.K X.mg X.base CX k f fd ps sp) (hr : Room k X.A) (hb : Binds X.K fd ps []) (hx : Passes CX X E) : OpR X (binaryOp op) (rOwnI C sp E) := by
  intro pins s σ H x y v u Q I rx ry h
  obtain ⟨a, dx, fs, i, rfl, rfl, ha, q⟩ := h
  cases (show v = Value.ref a from rx)
  obtain ⟨t, rfl⟩ := (show ∃ t, u = Value.int i t from ry)
  obtain ⟨od, J⟩ := ins_at I ha
  obtain ⟨m, hF⟩ := I.fr
  obtain ⟨rc, hrc, hp⟩ := O2.rc
  obtain ⟨fo, h1⟩ := O2.i1
  obtain ⟨ro, h2⟩ := O2.i2
  refine PySem.W.ksp_binT (T := "int") hF I.ok.mod.kin J rfl O.first O.at_ O.fn hrc hp h1 h2 O2.sub ?_
  refine thn (run_fn (us := [.ref a, .int i t]) (vs := [.ref a, .int i]) F hr hb .nil hx I (.cons rfl (.cons ⟨t, rfl⟩ .nil)) q) fun w s' z => ?_
  obtain ⟨z', H', I', rz, qz⟩ := z
  exact SlX.cmpback rz ⟨z', H', I', rz, qz⟩
end
end RH
set_option exponentiation.threshold 256
set_option Elab.async false
set_option linter.all false
namespace RH
section
variable {α : Type}
/-- w, n times -/
def rp (n : Nat) (w : List α) : List α := (List.replicate n w).flatten
theorem rp_zero (w : List α) : rp 0 w = [] := rfl
theorem rp_succ (n : Nat) (w : List α) : rp (n + 1) w = w ++ rp n w := by
  unfold rp; rw [List.replicate_succ, List.flatten_cons]
theorem rp_one (w : List α) : rp 1 w = w := by rw [rp_succ, rp_zero, List.append_nil]
theorem rp_len (n : Nat) (w : List α) : (rp n w).length = n * w.length := by
  induction n with
  | zero => rw [rp_zero, Nat.zero_mul]; rfl
  | succ n ih => rw [rp_succ, List.length_append, ih, Nat.succ_mul]; omega
theorem rp_add (m n : Nat) (w : List α) : rp (m + n) w = rp m w ++ rp n w := by
  induction m with
  | zero => rw [Nat.zero_add, rp_zero, List.nil_append]
  | succ m ih => rw [Nat.succ_add, rp_succ, rp_succ, ih, List.append_assoc]
theorem rp_mul (m n : Nat) (w : List α) : rp n (rp m w) = rp (m * n) w := by
  induction n with
  | zero => rw [rp_zero, Nat.mul_zero, rp_zero]
  | succ n ih => rw [rp_succ, ih, Nat.mul_succ, Nat.add_comm, rp_add]
theorem rp_nil (n : Nat) : rp n ([] : List α) = [] := by
  have h := rp_len n ([] : List α)
  exact List.eq_nil_of_length_eq_zero (by rw [h]; simp)
theorem rp_ne {n : Nat} {w : List α} (hn : 1 ≤ n) (hw : w ≠ []) : rp n w ≠ [] := by
  obtain ⟨m, rfl⟩ : ∃ m, n = m + 1 := ⟨n - 1, by omega⟩
  rw [rp_succ]
  intro h
  exact hw (List.append_eq_nil_iff.mp h).1
theorem rp_get {w : List α} (hw : w ≠ []) : ∀ (n i : Nat), i < n * w.length → (rp n w)[i]? = w[i % w.length]?
  | 0, i, h => by rw [Nat.zero_mul] at h; omega
  | n + 1, i, h => by
    have hp : 0 < w.length := List.length_pos_iff.mpr hw
    rw [rp_succ]
    by_cases hi : i < w.length
    · rw [List.getElem?_append_left hi, Nat.mod_eq_of_lt hi]
    · rw [List.getElem?_append_right (by omega), rp_get hw n (i - w.length) (by rw [Nat.succ_mul] at h; omega)]
      rw [show i % w.length = (i - w.length) % w.length from Nat.mod_eq_sub_mod (by omega)]
theorem rp_drop {w : List α} {n q : Nat} (h : q ≤ n) : (rp n w).drop (q * w.length) = rp (n - q) w := by
  obtain ⟨k, rfl⟩ : ∃ k, n = q + k := ⟨n - q, by omega⟩
  rw [rp_add, ← rp_len q w, List.drop_left, Nat.add_sub_cancel_left]
/-- turned by k -/
def rot (k : Nat) (w : List α) : List α := w.drop k ++ w.take k
theorem rot_len (k : Nat) (w : List α) : (rot k w).length = w.length := by
  unfold rot; rw [List.length_append, List.length_drop, List.length_take]; omega
theorem rot_zero (w : List α) : rot 0 w = w := by unfold rot; simp
theorem rot_get {w : List α} {k i : Nat} (hk : k ≤ w.length) (hi : i < w.length) : (rot k w)[i]? = w[(i + k) % w.length]? := by
  unfold rot
  by_cases h : i < w.length - k
  · rw [List.getElem?_append_left (by rw [List.length_drop]; exact h), List.getElem?_drop, Nat.mod_eq_of_lt (by omega), Nat.add_comm]
  · rw [List.getElem?_append_right (by rw [List.length_drop]; omega), List.length_drop, List.getElem?_take_of_lt (by omega)]
    rw [show (i + k) % w.length = i - (w.length - k) by
      rw [Nat.mod_eq_sub_mod (by omega), Nat.mod_eq_of_lt (by omega)]; omega]
theorem rot_rot {w : List α} {k m : Nat} (hk : k ≤ w.length) (hm : m ≤ w.length) : rot m (rot k w) = rot ((k + m) % w.length) w := by
  by_cases h0 : w.length = 0
  · have e : w = [] := List.eq_nil_of_length_eq_zero h0
    subst e; simp [rot]
  have hp : 0 < w.length := by omega
  apply List.ext_getElem?
  intro i
  by_cases hi : i < w.length
  · have h1 : ((k + m) % w.length) ≤ w.length := Nat.le_of_lt (Nat.mod_lt _ hp)
    have h2 : (i + m) % w.length < w.length := Nat.mod_lt _ hp
    rw [rot_get (by rw [rot_len]; exact hm) (by rw [rot_len]; exact hi), rot_len, rot_get hk h2, rot_get h1 hi]
    congr 1
    rw [Nat.add_mod ((i + m) % w.length) k, Nat.mod_mod, ← Nat.add_mod, Nat.add_mod i ((k + m) % w.length), Nat.mod_mod, ← Nat.add_mod]
    congr 1
    omega
  · rw [List.getElem?_eq_none (by rw [rot_len, rot_len]; omega), List.getElem?_eq_none (by rw [rot_len]; omega)]
/-- behind many letters of w, n times: the turned word, n - 1 times, and what is left of the last -/
theorem rp_turn {w : List α} {n m : Nat} (hn : 1 ≤ n) (hm : m ≤ w.length) : (rp n w).drop m = rp (n - 1) (rot m w) ++ w.drop m := by
  obtain ⟨k, rfl⟩ : ∃ k, n = k + 1 := ⟨n - 1, by omega⟩
  rw [Nat.add_sub_cancel]
  induction k with
  | zero => rw [rp_one, rp_zero, List.nil_append]
  | succ k ih =>
    rw [rp_succ, List.drop_append_of_le_length hm]
    have e : rp (k + 1) w = w.take m ++ (rp (k + 1) w).drop m := by
      rw [rp_succ, List.drop_append_of_le_length hm, ← List.append_assoc, List.take_append_drop]
    rw [e, ih (by omega), rp_succ]
    unfold rot
    simp only [List.append_assoc]
/-- k is how long x and y agree, up to m -/
structure Agr (x y : List α) (m k : Nat) : Prop where
  le : k ≤ m
  eq : x.take k = y.take k
  ne : k < m → x[k]? ≠ y[k]?
theorem Agr.symm {x y : List α} {m k : Nat} (a : Agr x y m k) : Agr y x m k := ⟨a.le, a.eq.symm, fun h e => a.ne h e.symm⟩
theorem Agr.uniq {x y : List α} {m k l : Nat} (a : Agr x y m k) (b : Agr x y m l) : k = l := by
  rcases Nat.lt_trichotomy k l with h | h | h
  · have e := congrArg (fun z : List α => z[k]?) b.eq
    simp only [List.getElem?_take_of_lt h] at e
    exact absurd e (a.ne (Nat.lt_of_lt_of_le h b.le))
  · exact h
  · have e := congrArg (fun z : List α => z[l]?) a.eq
    simp only [List.getElem?_take_of_lt h] at e
    exact absurd e (b.ne (Nat.lt_of_lt_of_le h a.le))
theorem take_eq_of_get {x y : List α} {k : Nat} (h : ∀ i, i < k → x[i]? = y[i]?) : x.take k = y.take k := by
  apply List.ext_getElem?
  intro i
  by_cases hi : i < k
  · rw [List.getElem?_take_of_lt hi, List.getElem?_take_of_lt hi, h i hi]
  · rw [List.getElem?_take_eq_none (by omega), List.getElem?_take_eq_none (by omega)]
theorem get_of_take_eq {x y : List α} {k i : Nat} (h : x.take k = y.take k) (hi : i < k) : x[i]? = y[i]? := by
  have e := congrArg (fun z : List α => z[i]?) h
  simpa only [List.getElem?_take_of_lt hi] using e
/-- agreement goes on behind f letters that agree -/
theorem Agr.behind {x y : List α} {f m k : Nat} (hf : x.take f = y.take f) (a : Agr (x.drop f) (y.drop f) m k) : Agr x y (f + m) (f + k) := by
  refine ⟨by have := a.le; omega, take_eq_of_get fun i hi => ?_, fun h => ?_⟩
  · by_cases hi2 : i < f
    · exact get_of_take_eq hf hi2
    · have e := get_of_take_eq a.eq (show i - f < k by omega)
      rw [List.getElem?_drop, List.getElem?_drop, show f + (i - f) = i by omega] at e
      exact e
  · have e := a.ne (by omega)
    rw [List.getElem?_drop, List.getElem?_drop] at e
    exact e
theorem Agr.congr {x y x' y' : List α} {m k : Nat} (hx : x.take m = x'.take m) (hy : y.take m = y'.take m) (a : Agr x y m k) : Agr x' y' m k := by
  refine ⟨a.le, take_eq_of_get fun i hi => ?_, fun h => ?_⟩
  · rw [← get_of_take_eq hx (Nat.lt_of_lt_of_le hi a.le), ← get_of_take_eq hy (Nat.lt_of_lt_of_le hi a.le)]
    exact get_of_take_eq a.eq hi
  · rw [← get_of_take_eq hx h, ← get_of_take_eq hy h]
    exact a.ne h
theorem Agr.mono {x y : List α} {m m' k : Nat} (a : Agr x y m k) (h : k < m) (hm : m ≤ m') : Agr x y m' k := ⟨by have := a.le; omega, a.eq, fun _ => a.ne h⟩
/-- two words that are repeated agree for ever if they agree as far as both are long -/
theorem two_periods {u v : List α} (hu : u ≠ []) (hv : v ≠ []) (h : ∀ i, i < u.length + v.length → u[i % u.length]? = v[i % v.length]?) : ∀ i, u[i % u.length]? = v[i % v.length]? := by
  have pu : 0 < u.length := List.length_pos_iff.mpr hu
  have pv : 0 < v.length := List.length_pos_iff.mpr hv
  intro i
  induction i using Nat.strongRecOn with
  | _ i ih =>
    by_cases hi : i < u.length + v.length
    · exact h i hi
    · have a1 := ih (i - u.length) (by omega)
      have a2 := ih (i - u.length - v.length) (by omega)
      have a3 := ih (i - v.length) (by omega)
      have e1 : u[i % u.length]? = u[(i - u.length) % u.length]? := by rw [Nat.mod_eq_sub_mod (a := i) (by omega)]
      have e2 : v[(i - u.length) % v.length]? = v[(i - u.length - v.length) % v.length]? := by rw [Nat.mod_eq_sub_mod (a := i - u.length) (by omega)]
      have e3 : u[(i - v.length) % u.length]? = u[(i - u.length - v.length) % u.length]? := by
        rw [Nat.mod_eq_sub_mod (a := i - v.length) (by omega), show i - v.length - u.length = i - u.length - v.length by omega]
      have e4 : v[i % v.length]? = v[(i - v.length) % v.length]? := by rw [Nat.mod_eq_sub_mod (a := i) (by omega)]
      rw [e1, a1, e2, ← a2, ← e3, a3, ← e4]
theorem rp_agree {u v : List α} (hu : u ≠ []) (hv : v ≠ []) {M s t m : Nat} (hM : u.length + v.length ≤ M) (h : (rp M u).take (u.length + v.length) = (rp M v).take (u.length + v.length)) (hs : m ≤ s * u.length) (ht : m ≤ t * v.length) :
    (rp s u).take m = (rp t v).take m := by
  have pu : 0 < u.length := List.length_pos_iff.mpr hu
  have pv : 0 < v.length := List.length_pos_iff.mpr hv
  have k := two_periods hu hv fun i hi => by
    have e := get_of_take_eq h hi
    have h1 : M * 1 ≤ M * u.length := Nat.mul_le_mul_left M pu
    have h2 : M * 1 ≤ M * v.length := Nat.mul_le_mul_left M pv
    rw [rp_get hu M i (by omega), rp_get hv M i (by omega)] at e
    exact e
  exact take_eq_of_get fun i hi => by rw [rp_get hu s i (by omega), rp_get hv t i (by omega)]; exact k i
end
end RH
set_option exponentiation.threshold 256
set_option Elab.async false
set_option linter.all false
set_option maxRecDepth 100000
set_option maxHeartbeats 4000000
namespace RH
open PySem PySem.Spec PyProof.Rows L2
/-- the written part and the classes of the text -/
structure G where
  K : PySem.W.Frag
  part : Addr
  made : Addr
  word : Addr
  kinds : Addr
/-- an entry of a log -/
structure Ent where
  k : Str
  t : Option Str
deriving DecidableEq
def tagV : Option Str → V
  | none => .non
  | some x => .str x
theorem tagV_inj {a b : Option Str} (h : tagV a = tagV b) : a = b := by
  cases a <;> cases b <;> first | rfl | (cases h; done) | (injection h with h; rw [h])
/-- its texts are texts -/
structure EntS (e : Ent) : Prop where
  k : PyData.strOk e.k = true
  t : ∀ x, e.t = some x → PyData.strOk x = true
def EntV (H : Hp) (e : Ent) (v : V) : Prop := EntS e ∧ ∃ a, v = .ref a ∧ H a = some (.tup [.str e.k, tagV e.t])
def EntsV (H : Hp) : List Ent → List V → Prop
  | [], [] => True
  | e :: es, v :: vs => EntV H e v ∧ EntsV H es vs
  | _, _ => False
section
variable {H H' : Hp}
theorem EntV.mono {e : Ent} {v : V} (s : Same H H') (h : EntV H e v) : EntV H' e v := by
  obtain ⟨es, a, rfl, h⟩ := h
  exact ⟨es, a, rfl, s _ _ h⟩
theorem EntsV.mono (s : Same H H') : ∀ {es : List Ent} {vs : List V}, EntsV H es vs → EntsV H' es vs
  | [], [], _ => trivial
  | _ :: _, _ :: _, h => ⟨h.1.mono s, EntsV.mono s h.2⟩
  | [], _ :: _, h => h.elim
  | _ :: _, [], h => h.elim
theorem EntsV.len : ∀ {es : List Ent} {vs : List V}, EntsV H es vs → vs.length = es.length
  | [], [], _ => rfl
  | _ :: _, _ :: _, h => by rw [List.length_cons, List.length_cons, EntsV.len h.2]
  | [], _ :: _, h => h.elim
  | _ :: _, [], h => h.elim
theorem EntsV.append : ∀ {es fs : List Ent} {vs ws : List V}, EntsV H es vs → EntsV H fs ws → EntsV H (es ++ fs) (vs ++ ws)
  | [], _, [], _, _, h => h
  | _ :: _, _, _ :: _, _, h, k => ⟨h.1, EntsV.append h.2 k⟩
  | [], _, _ :: _, _, h, _ => h.elim
  | _ :: _, _, [], _, h, _ => h.elim
theorem EntsV.take : ∀ (n : Nat) {es : List Ent} {vs : List V}, EntsV H es vs → EntsV H (es.take n) (vs.take n)
  | 0, _, _, _ => by simp [EntsV]
  | _ + 1, [], [], _ => trivial
  | n + 1, _ :: _, _ :: _, h => ⟨h.1, EntsV.take n h.2⟩
  | _ + 1, [], _ :: _, h => h.elim
  | _ + 1, _ :: _, [], h => h.elim
theorem EntsV.drop : ∀ (n : Nat) {es : List Ent} {vs : List V}, EntsV H es vs → EntsV H (es.drop n) (vs.drop n)
  | 0, _, _, h => h
  | _ + 1, [], [], _ => trivial
  | n + 1, _ :: _, _ :: _, h => EntsV.drop n h.2
  | _ + 1, [], _ :: _, h => h.elim
  | _ + 1, _ :: _, [], h => h.elim
theorem EntsV.get : ∀ {es : List Ent} {vs : List V} {i : Nat} {v : V}, EntsV H es vs → vs[i]? = some v → ∃ e, es[i]? = some e ∧ EntV H e v
  | [], [], _, _, _, h => by simp at h
  | e :: _, _ :: _, 0, v, h, q => by
    simp at q; subst q
    exact ⟨e, rfl, h.1⟩
  | _ :: _, _ :: _, i + 1, v, h, q => by
    simp at q
    obtain ⟨e, h1, h2⟩ := EntsV.get h.2 q
    exact ⟨e, by simpa using h1, h2⟩
  | [], _ :: _, _, _, h, _ => h.elim
  | _ :: _, [], _, _, h, _ => h.elim
theorem EntsV.get' {es : List Ent} {vs : List V} {i : Nat} {e : Ent} (h : EntsV H es vs) (q : es[i]? = some e) : ∃ v, vs[i]? = some v ∧ EntV H e v := by
  obtain ⟨hi, he⟩ := List.getElem?_eq_some_iff.mp q
  have hv : i < vs.length := by rw [h.len]; exact hi
  obtain ⟨e', h1, h2⟩ := h.get (List.getElem?_eq_getElem hv)
  rw [q] at h1
  cases h1
  exact ⟨_, List.getElem?_eq_getElem hv, h2⟩
theorem EntsV.reverse {es : List Ent} : ∀ {vs : List V}, EntsV H es vs → EntsV H es.reverse vs.reverse := by
  induction es with
  | nil => intro vs h; cases vs with
    | nil => exact trivial
    | cons v vs => exact h.elim
  | cons e es ih => intro vs h; cases vs with
    | nil => exact h.elim
    | cons v vs =>
      rw [List.reverse_cons, List.reverse_cons]
      exact (ih h.2).append ⟨h.1, trivial⟩
end
def tagD : Option Str → PyData
  | none => .none
  | some x => .str x
def entD (e : Ent) : PyData := .tuple [.str e.k, tagD e.t]
/-- the fields of a Part -/
def pf (l lv rv t tf w : V) : List (Str × V) := [("letters", l), ("left", lv), ("right", rv), ("times", t), ("turned_from", tf), ("wide", w)]
/-- what turned_from says -/
def TurnOk (H : Hp) (tf bv : V) (k : Nat) (w wb : List Ent) : Prop :=
  tf = .non ∨ ∃ t, tf = .ref t ∧ H t = some (.tup [bv, .int k]) ∧ 0 < k ∧ k < wb.length ∧ w = rot k wb
theorem TurnOk.mono {H H' : Hp} {tf bv : V} {k : Nat} {w wb : List Ent} (s : Same H H') (h : TurnOk H tf bv k w wb) : TurnOk H' tf bv k w wb := by
  rcases h with h | ⟨t, h1, h2, h3⟩
  · exact .inl h
  · exact .inr ⟨t, h1, s _ _ h2, h3⟩
/-- a Part at v: its word, a bound of its products' depth, its size -/
inductive PR (C : Addr) (H : Hp) : V → List Ent → Nat → Nat → Prop where
  | leaf {a dx l : Addr} {es : List V} {row wb : List Ent} {t tf bv : V} {k d zb : Nat} (ha : H a = some (.ins C dx (pf (.ref l) .non .non t tf (.int (row.length : Nat))))) (hl : H l = some (.tup es)) (he : EntsV H row es)
      (ht : TurnOk H tf bv k row wb) (hb : tf ≠ .non → PR C H bv wb d zb) : PR C H (.ref a) row d (2 * row.length + 1)
  | rep {a dx l : Addr} {lv tf bv : V} {w wb : List Ent} {n k d z zb : Nat} (ha : H a = some (.ins C dx (pf (.ref l) lv .non (.int (n : Nat)) tf (.int ((n * w.length : Nat) : Int))))) (hl : H l = some (.tup []))
      (hn : 1 ≤ n) (hw : w ≠ []) (hp : PR C H lv w d z) (ht : TurnOk H tf bv k (rp n w) wb) (hb : tf ≠ .non → PR C H bv wb (d + 1) zb) : PR C H (.ref a) (rp n w) (d + 1) (z + 3)
  | cat {a dx l : Addr} {lv rv t tf bv : V} {w1 w2 wb : List Ent} {k d z1 z2 zb : Nat} (ha : H a = some (.ins C dx (pf (.ref l) lv rv t tf (.int ((w1.length + w2.length : Nat) : Int))))) (hl : H l = some (.tup []))
      (h1 : w1 ≠ []) (h2 : w2 ≠ []) (hp : PR C H lv w1 d z1) (hq : PR C H rv w2 d z2) (ht : TurnOk H tf bv k (w1 ++ w2) wb) (hb : tf ≠ .non → PR C H bv wb d zb) : PR C H (.ref a) (w1 ++ w2) d (z1 + z2 + 5)
section
variable {C : Addr} {H H' : Hp}
theorem PR.mono (s : Same H H') {v : V} {w : List Ent} {d z : Nat} (h : PR C H v w d z) : PR C H' v w d z := by
  induction h with
  | leaf ha hl he ht hb ih => exact .leaf (s _ _ ha) (s _ _ hl) (he.mono s) (ht.mono s) ih
  | rep ha hl hn hw hp ht hb ih1 ih2 => exact .rep (s _ _ ha) (s _ _ hl) hn hw ih1 (ht.mono s) ih2
  | cat ha hl h1 h2 hp hq ht hb ih1 ih2 ih3 => exact .cat (s _ _ ha) (s _ _ hl) h1 h2 ih1 ih2 (ht.mono s) ih3
theorem PR.up {v : V} {w : List Ent} {d z : Nat} (h : PR C H v w d z) : ∀ {d' : Nat}, d ≤ d' → PR C H v w d' z := by
  induction h with
  | leaf ha hl he ht hb ih => intro d' hd; exact .leaf ha hl he ht fun q => ih q hd
  | rep ha hl hn hw hp ht hb ih1 ih2 =>
    intro d' hd
    obtain ⟨e, rfl⟩ : ∃ e, d' = e + 1 := ⟨d' - 1, by omega⟩
    exact .rep ha hl hn hw (ih1 (by omega)) ht fun q => ih2 q hd
  | cat ha hl h1 h2 hp hq ht hb ih1 ih2 ih3 => intro d' hd; exact .cat ha hl h1 h2 (ih1 hd) (ih2 hd) ht fun q => ih3 q hd
theorem PR.ref {v : V} {w : List Ent} {d z : Nat} (h : PR C H v w d z) : ∃ a, v = .ref a := by
  cases h <;> exact ⟨_, rfl⟩
theorem PR.ins {v : V} {w : List Ent} {d z : Nat} (h : PR C H v w d z) : ∃ a dx l lv rv t tf, v = .ref a ∧ H a = some (.ins C dx (pf l lv rv t tf (.int (w.length : Nat)))) := by
  cases h with
  | leaf ha => exact ⟨_, _, _, _, _, _, _, rfl, ha⟩
  | rep ha => exact ⟨_, _, _, _, _, _, _, rfl, by rw [rp_len]; exact ha⟩
  | cat ha => exact ⟨_, _, _, _, _, _, _, rfl, by rw [List.length_append]; exact ha⟩
end
/-- a unit: its word, how often it stands, none for an entry or the depth and size of a part -/
structure UD where
  w : List Ent
  t : Nat
  s : Option (Nat × Nat)
def UnV (C : Addr) (H : Hp) (u : UD) (v : V) : Prop := match u.s with
  | none => u.t ≤ 1 ∧ ∃ e, u.w = [e] ∧ EntV H e v
  | some (d, z) => u.w ≠ [] ∧ PR C H v u.w d z
def UR (C : Addr) (H : Hp) : List UD → V → Prop
  | [], v => v = .non
  | u :: us, v => ∃ a uv r, v = .ref a ∧ H a = some (.tup [uv, .int (u.t : Nat), r]) ∧ UnV C H u uv ∧ UR C H us r
def den : List UD → List Ent
  | [] => []
  | u :: us => rp u.t u.w ++ den us
theorem den_append : ∀ a b : List UD, den (a ++ b) = den a ++ den b
  | [], b => rfl
  | u :: a, b => by
    show rp u.t u.w ++ den (a ++ b) = (rp u.t u.w ++ den a) ++ den b
    rw [den_append a b, List.append_assoc]
section
variable {C : Addr} {H H' : Hp}
theorem UnV.mono (s : Same H H') {u : UD} {v : V} (h : UnV C H u v) : UnV C H' u v := by
  unfold UnV at h ⊢
  split at h
  · obtain ⟨h0, e, h1, h2⟩ := h
    exact ⟨h0, e, h1, h2.mono s⟩
  · exact ⟨h.1, h.2.mono s⟩
theorem UnV.ne {u : UD} {v : V} (h : UnV C H u v) : u.w ≠ [] := by
  unfold UnV at h
  split at h
  · obtain ⟨_, e, h1, _⟩ := h
    rw [h1]
    exact List.cons_ne_nil _ _
  · exact h.1
theorem UnV.pos {u : UD} {v : V} (h : UnV C H u v) : 0 < u.w.length := List.length_pos_iff.mpr h.ne
theorem UR.mono (s : Same H H') : ∀ {us : List UD} {v : V}, UR C H us v → UR C H' us v
  | [], _, h => h
  | _ :: _, _, ⟨a, uv, r, h1, h2, h3, h4⟩ => ⟨a, uv, r, h1, s _ _ h2, h3.mono s, UR.mono s h4⟩
end
def uz (u : UD) : Nat := match u.s with
  | none => 0
  | some (_, z) => z
def usz : List UD → Nat
  | [] => 0
  | u :: us => 2 + uz u + usz us
theorem usz_append : ∀ a b : List UD, usz (a ++ b) = usz a + usz b
  | [], b => (Nat.zero_add _).symm
  | u :: a, b => by
    show 2 + uz u + usz (a ++ b) = 2 + uz u + usz a + usz b
    rw [usz_append a b]
    omega
/-- steps of going along m letters -/
def stp : List UD → Nat → Nat
  | [], _ => 0
  | u :: us, m => 1 + (if u.t * u.w.length ≤ m then stp us (m - u.t * u.w.length) else if m % u.w.length = 0 then 0 else uz u + 1)
theorem stp_in : ∀ (cs us : List UD) (m : Nat), m < (den cs).length → stp (cs ++ us) m ≤ usz cs
  | [], us, m, h => by cases h
  | c :: cs, us, m, h => by
    have e : (den (c :: cs)).length = c.t * c.w.length + (den cs).length := by
      show (rp c.t c.w ++ den cs).length = _
      rw [List.length_append, rp_len]
    rw [e] at h
    show 1 + (if c.t * c.w.length ≤ m then stp (cs ++ us) (m - c.t * c.w.length) else if m % c.w.length = 0 then 0 else uz c + 1) ≤ 2 + uz c + usz cs
    by_cases h1 : c.t * c.w.length ≤ m
    · rw [if_pos h1]
      have := stp_in cs us (m - c.t * c.w.length) (by omega)
      omega
    · rw [if_neg h1]
      split <;> omega
def rkm (u : UD) (m : Nat) : Nat := match u.s with
  | none => 0
  | some (d, _) => if u.t = 0 then 0 else if u.t = 1 then 2 * d else if m ≤ u.w.length then 2 * d + 1 else 2 * d + 2
def rkx (u : UD) : Nat := match u.s with
  | none => 0
  | some (d, _) => if u.t ≤ 1 then 2 * d else 2 * d + 2
theorem rkm_le (u : UD) (m : Nat) : rkm u m ≤ rkx u := by
  unfold rkm rkx
  split <;> (try split) <;> (try split) <;> (try split) <;> (try split) <;> omega
def Rk (R : Nat) : List UD → Nat → Prop
  | [], _ => True
  | u :: us, m => m = 0 ∨ (rkm u m ≤ R ∧ Rk R us (m - u.t * u.w.length))
theorem Rk.zero {R : Nat} : ∀ {us : List UD}, Rk R us 0
  | [] => trivial
  | _ :: _ => .inl rfl
theorem rkm_down (u : UD) {m m' : Nat} (h : m' ≤ m) : rkm u m' ≤ rkm u m := by
  unfold rkm
  split
  · exact Nat.le_refl _
  · split
    · exact Nat.le_refl _
    · split
      · exact Nat.le_refl _
      · split <;> split <;> omega
theorem Rk.down {R : Nat} : ∀ {us : List UD} {m m' : Nat}, m' ≤ m → Rk R us m → Rk R us m'
  | [], _, _, _, _ => trivial
  | u :: us, m, m', h, q => by
    rcases q with q | ⟨q1, q2⟩
    · exact .inl (by omega)
    · exact .inr ⟨Nat.le_trans (rkm_down u h) q1, Rk.down (Nat.sub_le_sub_right h _) q2⟩
theorem Rk.up {R R' : Nat} (hR : R ≤ R') : ∀ {us : List UD} {m : Nat}, Rk R us m → Rk R' us m
  | [], _, _ => trivial
  | u :: us, m, q => q.elim .inl fun q => .inr ⟨Nat.le_trans q.1 hR, Rk.up hR q.2⟩
theorem Rk.cons {R : Nat} {u : UD} {us : List UD} {m : Nat} (h1 : rkm u m ≤ R) (h2 : Rk R us (m - u.t * u.w.length)) : Rk R (u :: us) m := .inr ⟨h1, h2⟩
theorem Rk.head {R : Nat} {u : UD} {us : List UD} {m : Nat} (h : Rk R (u :: us) m) (hm : 0 < m) : rkm u m ≤ R := h.elim (fun z => by omega) fun z => z.1
theorem Rk.tail {R : Nat} {u : UD} {us : List UD} {m : Nat} (h : Rk R (u :: us) m) : Rk R us (m - u.t * u.w.length) := h.elim (fun z => by subst z; rw [Nat.zero_sub]; exact Rk.zero) fun z => z.2
/-- units of small ranks ahead -/
theorem Rk.front {R : Nat} : ∀ {cs us : List UD} {m : Nat}, (∀ c ∈ cs, rkx c ≤ R) → Rk R us (m - (den cs).length) → Rk R (cs ++ us) m
  | [], us, m, _, h => by
    have e : (den []).length = 0 := rfl
    rw [e, Nat.sub_zero] at h
    exact h
  | c :: cs, us, m, hc, h => by
    have e : (den (c :: cs)).length = c.t * c.w.length + (den cs).length := by
      show (rp c.t c.w ++ den cs).length = _
      rw [List.length_append, rp_len]
    refine .inr ⟨Nat.le_trans (rkm_le c m) (hc c (List.mem_cons_self ..)), Rk.front (fun x hx => hc x (List.mem_cons_of_mem _ hx)) ?_⟩
    rw [Nat.sub_sub, ← e]
    exact h
/-- the depth of a unit -/
def udp (u : UD) : Nat := match u.s with
  | none => 0
  | some (d, _) => if u.t ≤ 1 then d else d + 1
theorem rkx_udp (u : UD) : rkx u = 2 * udp u := by
  unfold rkx udp
  split
  · rfl
  · split <;> omega
end RH
set_option exponentiation.threshold 256
set_option Elab.async false
set_option linter.all false
set_option maxRecDepth 100000
set_option maxHeartbeats 4000000
namespace RH
open PySem PySem.Spec PyProof.Rows L2
@[irreducible] def rAddI : R2 := rI0 fun i j => .int (i + j)
@[irreducible] def rSubI : R2 := rI0 fun i j => .int (i - j)
@[irreducible] def rMulI : R2 := rI CMulW fun i j => .int (i * j)
@[irreducible] def rDivI : R2 := rI CDivW fun i j => .int (i / j)
@[irreducible] def rModI : R2 := rI (fun _ j => 0 < j) fun i j => .int (i % j)
@[irreducible] def rPowI : R2 := rI CPow fun i j => .int (i ^ j.toNat)
@[irreducible] def rLtI : R2 := rI0 fun i j => .bl (decide (i < j))
@[irreducible] def rLeI : R2 := rI0 fun i j => .bl (decide (i ≤ j))
@[irreducible] def rGtI : R2 := rI0 fun i j => .bl (decide (j < i))
@[irreducible] def rGeI : R2 := rI0 fun i j => .bl (decide (j ≤ i))
@[irreducible] def rEqS : R2 := rEq
@[irreducible] def rNeS : R2 := rNe
section
variable {X : Cx}
theorem op_addI : OpR X (binaryOp .Add) rAddI := by unfold rAddI; exact op_add
theorem op_subI : OpR X (binaryOp .Sub) rSubI := by unfold rSubI; exact op_sub
theorem op_mulI : OpR X (binaryOp .Mult) rMulI := by unfold rMulI; exact op_mulW
theorem op_divI : OpR X (binaryOp .FloorDiv) rDivI := by unfold rDivI; exact op_fdivW
theorem op_modI : OpR X (binaryOp .Mod) rModI := by unfold rModI; exact op_mod
theorem op_powI : OpR X (binaryOp .Pow) rPowI := by unfold rPowI; exact op_pow
theorem op_ltI : OpR X (compareOp .Lt) rLtI := by unfold rLtI; exact op_lt
theorem op_leI : OpR X (compareOp .LtE) rLeI := by unfold rLeI; exact op_le
theorem op_gtI : OpR X (compareOp .Gt) rGtI := by unfold rGtI; exact op_gt
theorem op_geI : OpR X (compareOp .GtE) rGeI := by unfold rGeI; exact op_ge
theorem op_eqS : OpR X (compareOp .Eq) rEqS := by unfold rEqS; exact op_eq
theorem op_neS : OpR X (compareOp .NotEq) rNeS := by unfold rNeS; exact op_ne
end
section
variable {i j : Int} {H : Hp} {R : VK}
theorem iAdd (q : R (.int (i + j)) H) : rAddI (.int i) (.int j) H R := by unfold rAddI; exact ⟨i, j, rfl, rfl, q⟩
theorem iSub (q : R (.int (i - j)) H) : rSubI (.int i) (.int j) H R := by unfold rSubI; exact ⟨i, j, rfl, rfl, q⟩
theorem iMul (c : CMulW i j) (q : R (.int (i * j)) H) : rMulI (.int i) (.int j) H R := by unfold rMulI; exact ⟨i, j, rfl, rfl, c, q⟩
theorem iDiv (c : CDivW i j) (q : R (.int (i / j)) H) : rDivI (.int i) (.int j) H R := by unfold rDivI; exact ⟨i, j, rfl, rfl, c, q⟩
theorem iMod (c : 0 < j) (q : R (.int (i % j)) H) : rModI (.int i) (.int j) H R := by unfold rModI; exact ⟨i, j, rfl, rfl, c, q⟩
theorem iPow (c : CPow i j) (q : R (.int (i ^ j.toNat)) H) : rPowI (.int i) (.int j) H R := by unfold rPowI; exact ⟨i, j, rfl, rfl, c, q⟩
theorem iLt (q : R (.bl (decide (i < j))) H) : rLtI (.int i) (.int j) H R := by unfold rLtI; exact ⟨i, j, rfl, rfl, q⟩
theorem iLe (q : R (.bl (decide (i ≤ j))) H) : rLeI (.int i) (.int j) H R := by unfold rLeI; exact ⟨i, j, rfl, rfl, q⟩
theorem iGt (q : R (.bl (decide (j < i))) H) : rGtI (.int i) (.int j) H R := by unfold rGtI; exact ⟨i, j, rfl, rfl, q⟩
theorem iGe (q : R (.bl (decide (j ≤ i))) H) : rGeI (.int i) (.int j) H R := by unfold rGeI; exact ⟨i, j, rfl, rfl, q⟩
theorem sEq {x y : V} (h : scal x y = true) (q : R (.bl (decide (x = y))) H) : rEqS x y H R := by unfold rEqS; exact ⟨h, q⟩
theorem sNe {x y : V} (h : scal x y = true) (q : R (.bl (!decide (x = y))) H) : rNeS x y H R := by unfold rNeS; exact ⟨h, q⟩
end
abbrev rIsN0 : R2 := fun x y H Q => y = .non ∧ Q (.bl (decide (x = .non))) H
abbrev rNotN0 : R2 := fun x y H Q => y = .non ∧ Q (.bl (!decide (x = .non))) H
abbrev rInSg : R2 := fun x y H Q => ∃ (c : Nat) (z : Str), x = .str ⟨#[c]⟩ ∧ y = .str z ∧ Q (.bl (decide (c ∈ z.cps.toList))) H
abbrev rLenA (K : PySem.W.Frag) : List V → Hp → VK → Prop := fun xs H Q => ∃ x n, xs = [x] ∧ LenV K x H n ∧ Q (.int n) H
abbrev rLenS (K : PySem.W.Frag) : List V → Hp → VK → Prop := fun xs H Q => ∃ p ys, xs = [.ref p] ∧ (SqL K H p ys ∨ SqT K H p ys) ∧ Q (.int ys.length) H
@[irreducible] def rMin2 : List V → Hp → VK → Prop := fun xs H Q => ∃ i j, xs = [.int i, .int j] ∧ Q (.int (if j < i then j else i)) H
@[irreducible] def rMax2 : List V → Hp → VK → Prop := fun xs H Q => ∃ i j, xs = [.int i, .int j] ∧ Q (.int (if j > i then j else i)) H
@[irreducible] def rMin3 : List V → Hp → VK → Prop := fun xs H Q => ∃ i j k, xs = [.int i, .int j, .int k] ∧ Q (.int (min i (min j k))) H
abbrev rInt1 : List V → Hp → VK → Prop := fun xs H Q => (∃ i, xs = [.int i] ∧ Q (.int i) H) ∨ ∃ k, xs = [.bl k] ∧ Q (.int (if k then 1 else 0)) H
abbrev rTupOf (K : PySem.W.Frag) : List V → Hp → VK → Prop := fun xs H Q => ∃ p ys, xs = [.ref p] ∧ ((SqL K H p ys ∧ ∀ l, H l = none → Q (.ref l) (upd H l (.tup ys))) ∨ (SqT K H p ys ∧ Q (.ref p) H))
abbrev rListOf (K : PySem.W.Frag) : List V → Hp → VK → Prop := fun xs H Q => ∃ p ys, xs = [.ref p] ∧ (SqL K H p ys ∨ SqT K H p ys) ∧ ∀ l, H l = none → Q (.ref l) (upd H l (.lst ys))
section
variable {X : Cx}
theorem cr_min2 (hc : X.calm = true) : CallR X (.builtin "min") rMin2 := by unfold rMin2; exact call_min2 hc
theorem cr_max2 (hc : X.calm = true) : CallR X (.builtin "max") rMax2 := by unfold rMax2; exact call_max2 hc
theorem cr_min3I (hc : X.calm = true) : CallR X (.builtin "min") rMin3 := by unfold rMin3; exact cr_min3 hc
end
section
variable {a b c : Nat} {H : Hp} {R : VK}
theorem nMin2 (q : R (.int ((min a b : Nat) : Int)) H) : rMin2 [.int (a : Nat), .int (b : Nat)] H R := by
  unfold rMin2
  refine ⟨_, _, rfl, ?_⟩
  have e : (if ((b : Nat) : Int) < ((a : Nat) : Int) then ((b : Nat) : Int) else ((a : Nat) : Int)) = ((min a b : Nat) : Int) := by split <;> omega
  rw [e]; exact q
theorem nMax2 (q : R (.int ((max a b : Nat) : Int)) H) : rMax2 [.int (a : Nat), .int (b : Nat)] H R := by
  unfold rMax2
  refine ⟨_, _, rfl, ?_⟩
  have e : (if ((b : Nat) : Int) > ((a : Nat) : Int) then ((b : Nat) : Int) else ((a : Nat) : Int)) = ((max a b : Nat) : Int) := by split <;> omega
  rw [e]; exact q
theorem nMin3 (q : R (.int ((min a (min b c) : Nat) : Int)) H) : rMin3 [.int (a : Nat), .int (b : Nat), .int (c : Nat)] H R := by
  unfold rMin3
  refine ⟨_, _, _, rfl, ?_⟩
  have e : min ((a : Nat) : Int) (min ((b : Nat) : Int) ((c : Nat) : Int)) = ((min a (min b c) : Nat) : Int) := by omega
  rw [e]; exact q
end
structure Cl (P : Program) (w : World) (K : PySem.W.Frag) (mg : Str → Option Value) (base : Heap) (k : Nat) (x : Str) (sp : Sp) (dvs : List V) : Prop where
  of : ∃ (f : Addr) (fd : FuncData) (ps : List Str) (ds : List Value), FnOk P w K mg base CX0 k f fd ps sp ∧ mg x = some (.ref f) ∧ PySem.W.keepIn K (.ref f) = true ∧ Binds K fd ps ds ∧ Vals dvs ds
structure Mkl (P : Program) (w : World) (K : PySem.W.Frag) (mg : Str → Option Value) (base : Heap) (k : Nat) (x : Str) (C : Addr) (sp : Sp) (dvs : List V) : Prop where
  of : ∃ (f : Addr) (fd : FuncData) (ps : List Str) (ds : List Value), Mk K C f ∧ FnOk P w K mg base CX0 k f fd ps sp ∧ mg x = some (.ref C) ∧ Binds K fd ps ds ∧ Vals dvs ds
structure Mtl (P : Program) (w : World) (K : PySem.W.Frag) (mg : Str → Option Value) (base : Heap) (k : Nat) (C : Addr) (m : Str) (sp : Sp) : Prop where
  of : ∃ (f : Addr) (fd : FuncData) (ps : List Str), Cls K C ∧ Meth K C m f ∧ PySem.W.selfFirst K C = true ∧ FnOk P w K mg base CX0 k f fd ps sp ∧ Binds K fd ps []
theorem Cl.mono {P : Program} {w : World} {K : PySem.W.Frag} {mg : Str → Option Value} {base : Heap} {k k' : Nat} {x : Str} {sp : Sp} {dvs : List V} (c : Cl P w K mg base k x sp dvs) (h : k ≤ k') : Cl P w K mg base k' x sp dvs := by
  obtain ⟨f, fd, ps, ds, F, r⟩ := c.of
  exact ⟨f, fd, ps, ds, F.mono h, r⟩
section
variable {X : Cx} {k j : Nat} {C : Addr} {x m : Str} {sp : Sp} {dvs : List V} {p pos apos : Pos} {e o : Expr} {es : List Expr} {ta : TE} {t : TA}
theorem pe_cl (c : Cl X.prog X.w X.K X.mg X.base k x sp dvs) (hr : Room j X.A) (hk : k ≤ j) (hg : Gl X x) (ha : PA X (e :: es) t)
    (hdb : (x == ("__debug__" : Str)) = false := by decide) (he : starEach (e :: es) X.env = (false, eval e X.env) :: starEach es X.env := by rfl) (hpl : (backTo pos (starEach es X.env)).any (·.1) = false := by rfl) :
    PE X (.Call (.Name x p) (e :: es) [] pos) (tCall sp dvs E0 t) := by
  have ⟨f, fd, ps, ds, F, hm, kp, b, d⟩ := c.of
  exact pe_call F (hr.mono hk) hg hm kp b d pass0 ha hdb he hpl
theorem pe_mkl (c : Mkl X.prog X.w X.K X.mg X.base k x C sp dvs) (hr : Room j X.A) (hk : k + 1 ≤ j) (hg : Gl X x) (ha : PA X (e :: es) t)
    (hdb : (x == ("__debug__" : Str)) = false := by decide) (he : starEach (e :: es) X.env = (false, eval e X.env) :: starEach es X.env := by rfl) (hpl : (backTo pos (starEach es X.env)).any (·.1) = false := by rfl) :
    PE X (.Call (.Name x p) (e :: es) [] pos) (tMake C sp dvs E0 t) := by
  have ⟨f, fd, ps, ds, M, F, hm, b, d⟩ := c.of
  exact pe_make M F (hr.mono hk) hg hm b d pass0 ha hdb he hpl
theorem pe_mtl {pl : Sem Bool} (c : Mtl X.prog X.w X.K X.mg X.base k C m sp) (hr : Room j X.A) (hk : k ≤ j) (he : PE X o ta) (ha : PA X (e :: es) t)
    (hst : starEach (e :: es) X.env = (false, eval e X.env) :: starEach es X.env := by rfl) (hpl : (backTo pos (starEach es X.env)).any (·.1) = false := by rfl)
    (ht : eval (.Call (.Attribute o m apos) (e :: es) [] pos) X.env = (do
      let ov ← eval o X.env
      standAt apos.atName
      let (f, first) ← holding [ov] (getMethod ov m pl)
      callWith pos f first (backTo pos (starEach (e :: es) X.env)) (backToKw pos (keywordEach [] X.env))) := by rfl) :
    PE X (.Call (.Attribute o m apos) (e :: es) [] pos) (tMeth C m sp [] E0 ta t) := by
  have ⟨f, fd, ps, hc, hm, _, F, b⟩ := c.of
  exact pe_meth (pl := pl) he hc hm F (hr.mono hk) b .nil pass0 ha hst hpl ht
theorem pe_mtl0 {pl : Sem Bool} (c : Mtl X.prog X.w X.K X.mg X.base k C m sp) (hr : Room j X.A) (hk : k ≤ j) (he : PE X o ta)
    (ht : eval (.Call (.Attribute o m apos) [] [] pos) X.env = (do
      let ov ← eval o X.env
      standAt apos.atName
      let (f, first) ← holding [ov] (getMethod ov m pl)
      callWith pos f first (backTo pos (starEach [] X.env)) (backToKw pos (keywordEach [] X.env))) := by rfl) :
    PE X (.Call (.Attribute o m apos) [] [] pos) (tMeth C m sp [] E0 ta tNil) := by
  have ⟨f, fd, ps, hc, hm, _, F, b⟩ := c.of
  exact pe_meth0 (pl := pl) he hc hm F (hr.mono hk) b .nil pass0 ht
theorem pe_gc {v : V} (hg : Gl X x) (h : ∃ u, X.mg x = some u ∧ RelV v u) (hd : (x == ("__debug__" : Str)) = false := by decide) : PE X (.Name x pos) (tC v) := by
  have ⟨u, hm, r⟩ := h
  exact pe_glob hg hm r hd
theorem op_word2 {op : Operator} (c : Mtl X.prog X.w X.K X.mg X.base k C (PySem.dunder op.info.2) sp) (hr : Room j X.A) (hk : k ≤ j) : OpR X (binaryOp op) (rOwn2 C sp E0) := by
  have ⟨f, fd, ps, hc, hm, hf, F, b⟩ := c.of
  exact op_own2 ⟨hm.at_, hm.fn, hf⟩ F (hr.mono hk) b pass0
theorem op_wordI {op : Operator} (c : Mtl X.prog X.w X.K X.mg X.base k C (PySem.dunder op.info.2) sp) (c2 : OpInt X.K C (PySem.dunder op.info.2) (PySem.dunderR op.info.2)) (hr : Room j X.A) (hk : k ≤ j) : OpR X (binaryOp op) (rOwnI C sp E0) := by
  have ⟨f, fd, ps, hc, hm, hf, F, b⟩ := c.of
  exact op_ownI ⟨hm.at_, hm.fn, hf⟩ c2 F (hr.mono hk) b pass0
end
def letters26 : Str := "abcdefghijklmnopqrstuvwxyz"
structure NameOk (x : Str) : Prop where
  lo : 1 ≤ x.length
  hi : x.length ≤ 8
  all : ∀ c ∈ x.cps.toList, c ∈ letters26.cps.toList
structure EntOk (e : Ent) : Prop where
  kind : e.k = "emit" ∨ e.k = "final"
  tag : match e.t with
    | none => e.k = "emit"
    | some x => NameOk x
def spIsInteger : Sp := fun vs H Q _ => ∃ i, vs = [.int i] ∧ Q (.bl true) H
def spIsBetween : Sp := fun vs H Q _ => ∃ i lo hi : Int, vs = [.int i, .int lo, .int hi] ∧ Q (.bl (decide (lo ≤ i) && decide (i ≤ hi))) H
def spIsName : Sp := fun vs H Q _ => (∃ x, vs = [.str x] ∧ NameOk x ∧ ∀ H', Same H H' → Q (.bl true) H') ∨ (vs = [.non] ∧ ∀ H', Same H H' → Q (.bl false) H')
def spIsEntry : Sp := fun vs H Q _ => ∃ v e, vs = [v] ∧ EntV H e v ∧ EntOk e ∧ ∀ H', Same H H' → Q (.bl true) H'
def spCheckIndex : Sp := fun vs H Q _ => ∃ i lo hi : Int, vs = [.int i, .int lo, .int hi] ∧ lo ≤ i ∧ i ≤ hi ∧ Q .non H
/-- what wide is, by left, right, times -/
def WideOk (g : G) (H : Hp) (row lv rv t : V) (n : Int) : Prop :=
  (lv = .non ∧ ∃ p ys, row = .ref p ∧ H p = some (.tup ys) ∧ n = ys.length) ∨
  (∃ a dx fs m k, lv = .ref a ∧ rv = .non ∧ t = .int k ∧ H a = some (.ins g.part dx fs) ∧ fs.lookup ("wide" : Str) = some (.int m) ∧ CMulW m k ∧ n = m * k) ∨
  (∃ a dx fs m b dy gs k, lv = .ref a ∧ rv = .ref b ∧ H a = some (.ins g.part dx fs) ∧ fs.lookup ("wide" : Str) = some (.int m) ∧ H b = some (.ins g.part dy gs) ∧ gs.lookup ("wide" : Str) = some (.int k) ∧ n = m + k)
def spPartInit (g : G) : Sp := fun vs H Q _ => ∃ a dx row lv rv t tf n, vs = [.ref a, row, lv, rv, t, tf] ∧ H a = some (.ins g.part dx []) ∧ WideOk g H row lv rv t n ∧
  Q .non (upd H a (.ins g.part dx (pf row lv rv t tf (.int n))))
def spJoined (g : G) : Sp := fun vs H Q _ => ∃ v1 v2 w1 w2 d z1 z2, vs = [v1, v2] ∧ PR g.part H v1 w1 d z1 ∧ PR g.part H v2 w2 d z2 ∧ ∀ H' v z, Same H H' → PR g.part H' v (w1 ++ w2) d z → Q v H'
/-- words stay shorter than this; a unit stands at most four times as often -/
def LIM : Nat := 2 ^ 8000
structure Sm1 (u : UD) : Prop where
  w : u.w.length < LIM
  t : u.t < 4 * LIM
def Sm (us : List UD) : Prop := ∀ u ∈ us, Sm1 u
def spRepeated (g : G) : Sp := fun vs H Q _ => ∃ v w d z n D, vs = [v, .int (n : Nat)] ∧ PR g.part H v w d z ∧ n * w.length < 8 * LIM * LIM ∧ d ≤ D ∧ (2 ≤ n → d + 1 ≤ D) ∧ ∀ H' v z, Same H H' → PR g.part H' v (rp n w) D z → Q v H'
def spWidth (g : G) : Sp := fun vs H Q _ => ∃ v u, vs = [v] ∧ UnV g.part H u v ∧ Q (.int (u.w.length : Nat)) H
structure Opn (cs : List UD) (w : List Ent) (d z : Nat) : Prop where
  den : den cs = w
  usz : usz cs ≤ z
  udp : ∀ c ∈ cs, udp c ≤ d
  sm : ∀ c ∈ cs, c.w.length ≤ w.length ∧ c.t ≤ w.length
def spOpened (g : G) : Sp := fun vs H Q _ => ∃ v r w d z us, vs = [v, r] ∧ PR g.part H v w d z ∧ UR g.part H us r ∧ ∀ H' v' cs, Same H H' → UR g.part H' (cs ++ us) v' → Opn cs w d z → Q v' H'
def spFirstUnit (g : G) : Sp := fun vs H Q _ => ∃ v us, vs = [v] ∧ UR g.part H us v ∧ (den us = [] → ∀ H', Same H H' → Q .non H') ∧
  ∀ H' v' u us', Same H H' → UR g.part H' (u :: us') v' → den (u :: us') = den us → 1 ≤ u.t → (u.s ≠ none → 2 ≤ u.t) → (∀ R m, Rk R us m → Rk R (u :: us') m) → (Sm us → Sm (u :: us')) → (∀ w ws, us = w :: ws → 1 ≤ w.t → (w.s = none ∨ 2 ≤ w.t) → u :: us' = us) → Q v' H'
def spBehind (g : G) : Sp := fun vs H Q _ => ∃ v us m, vs = [v, .int (m : Nat)] ∧ (0 < m → UR g.part H us v ∧ m ≤ (den us).length ∧ Sm us) ∧
  ∀ H' v' us', Same H H' → (m = 0 → v' = v ∧ us' = us) → (0 < m → UR g.part H' us' v' ∧ den us' = (den us).drop m ∧ (∀ D, (∀ u ∈ us, udp u ≤ D) → ∀ u ∈ us', udp u ≤ D) ∧ Sm us') → Q v' H'
def spPartOf (g : G) : Sp := fun vs H Q _ => ∃ v us m D, vs = [v, .int (m : Nat)] ∧ (0 < m → UR g.part H us v ∧ m ≤ (den us).length ∧ Sm us ∧ ∀ u ∈ us, udp u ≤ D) ∧
  ∀ H' v' z, Same H H' → PR g.part H' v' ((den us).take m) D z → Q v' H'
def spRotated (g : G) : Sp := fun vs H Q _ => ∃ v w d z m, vs = [v, .int (m : Nat)] ∧ PR g.part H v w d z ∧ 0 < m ∧ m < w.length ∧ w.length < LIM ∧ ∀ H' v' z', Same H H' → PR g.part H' v' (rot m w) d z' → Q v' H'
def spGoneBy (g : G) : Sp := fun vs H Q _ => ∃ v us m, vs = [v, .int (m : Nat)] ∧ UR g.part H us v ∧ m ≤ (den us).length ∧ Sm us ∧
  ∀ H' v' us', Same H H' → UR g.part H' us' v' → den us' = (den us).drop m → (∀ R r, Rk R us r → Rk R us' (r - m)) → Sm us' → Q v' H'
def spRunAhead (g : G) : Sp := fun vs H Q _ => ∃ v u us m, vs = [v, .int (m : Nat)] ∧ UR g.part H (u :: us) v ∧ u.s = none ∧ u.t = 1 ∧ 1 ≤ m ∧ ∀ H' k, Same H H' → 1 ≤ k → k ≤ m → k ≤ (den (u :: us)).length → Q (.int (k : Nat)) H'
def spAgreement (g : G) (n : Nat) : Sp := fun vs H Q _ => ∃ v1 v2 us1 us2 m a b, vs = [v1, v2, .int (m : Nat)] ∧
  (0 < m → UR g.part H us1 v1 ∧ UR g.part H us2 v2 ∧ m ≤ (den us1).length ∧ m ≤ (den us2).length ∧ Sm us1 ∧ Sm us2 ∧ Rk a us1 m ∧ Rk b us2 m ∧ a + b ≤ n) ∧
  ∀ H' k, Same H H' → Agr (den us1) (den us2) m k → Q (.int (k : Nat)) H'
/-- what alike_ahead opens: a part that stands at least twice, wide enough -/
structure Wd (u : UD) (us : List UD) (m : Nat) : Prop where
  part : u.s ≠ none
  t : 2 ≤ u.t
  all : m ≤ u.t * u.w.length
  two : m ≤ 2 * u.w.length
def spAlikeAhead (g : G) (n : Nat) : Sp := fun vs H Q _ => ∃ v1 v2 u1 us1 u2 us2 m m0 a b, vs = [v1, v2, .int (m : Nat)] ∧ UR g.part H (u1 :: us1) v1 ∧ UR g.part H (u2 :: us2) v2 ∧ 0 < m ∧ m ≤ m0 ∧
  m ≤ (den (u1 :: us1)).length ∧ m ≤ (den (u2 :: us2)).length ∧ Sm (u1 :: us1) ∧ Sm (u2 :: us2) ∧ Rk a (u1 :: us1) m0 ∧ Rk b (u2 :: us2) m0 ∧ a + b ≤ n ∧
  (u1.s ≠ none → u2.s ≠ none → u2.w.length ≤ u1.w.length → Wd u1 us1 m) ∧ (u1.s ≠ none → u2.s ≠ none → u1.w.length < u2.w.length → Wd u2 us2 m) ∧
  (u1.s = none → Wd u2 us2 m) ∧ (u2.s = none → Wd u1 us1 m) ∧
  ∀ H' k, Same H H' → Agr (den (u1 :: us1)) (den (u2 :: us2)) m k → Q (.int (k : Nat)) H'
def spAlikeFor (g : G) (n : Nat) : Sp := fun vs H Q _ => ∃ v1 v2 w1 w2 d1 d2 z1 z2, vs = [v1, v2] ∧ PR g.part H v1 w1 d1 z1 ∧ PR g.part H v2 w2 d2 z2 ∧ w1 ≠ [] ∧ w2 ≠ [] ∧ w1.length < LIM ∧ w2.length < LIM ∧ 2 * d1 + 2 + (2 * d2 + 2) ≤ n ∧
  ∀ H' k, Same H H' → Agr (rp (w1.length + w2.length) w1) (rp (w1.length + w2.length) w2) (w1.length + w2.length) k → Q (.int (k : Nat)) H'
end RH
set_option exponentiation.threshold 256
set_option Elab.async false
set_option linter.all false
set_option maxRecDepth 100000
set_option maxHeartbeats 4000000
namespace RH
open PySem PySem.Spec PyProof.Rows L2
/-- an own item: the def at f -/
structure Gtl (P : Program) (w : World) (K : PySem.W.Frag) (mg : Str → Option Value) (base : Heap) (k : Nat) (C : Addr) (sp : Sp) : Prop where
  of : ∃ (f : Addr) (fd : FuncData) (ps : List Str), Meth K C "__getitem__" f ∧ PySem.W.fnIn K f = true ∧ FnOk P w K mg base CX0 k f fd ps sp ∧ Binds K fd ps []
section
variable {X : Cx} {CX : CXT} {C f : Addr} {fd : FuncData} {ps : List Str} {ds : List Value} {dvs : List V} {k j : Nat} {sp : Sp} {E : XK}
/-- a def called somewhere below -/
theorem run_fnA {A : Around} {pins : List (Addr × Obj)} {σ : L2.St} {H : Hp} {s : Shared} {Q : VK} {us : List Value} {vs : List V} (F : FnOk X.prog X.w X.K X.mg X.base CX k f fd ps sp) (hr : Room k A) (fr : A.frames = X.A.frames) (hb : Binds X.K fd ps []) (hx : Passes CX X E)
    (I : Inv X pins σ H s) (r : Vals vs us) (h : sp vs H Q E) : wpAny (model X.prog X.w) A (call (.ref f) us) (EP X pins σ Q) X.xe s := by
  have e0 : Env0 X.prog X.w X.K X.mg X.base A X.stack s H := by
    have e := I.env0
    exact ⟨by rw [fr]; exact e.frames, e.mod, e.bs, e.bsz, e.funs, e.frf, e.hok, e.bare⟩
  have hl : us.length = ps.length := by rw [← r.length]; exact F.len _ _ _ _ h
  refine wpAny_call (codeAny_mono (F.run A X.stack s H ⟨us, []⟩ us vs Q E hr e0 (by
    have := hb s us I.kIn (by simpa using hl)
    simpa using this) r h) fun r s' hq => ?_)
  cases r with
  | error e => exact hx pins σ H s e s' I hq
  | ok fl =>
    cases fl with
    | ret w => exact I.after hq
    | next => exact False.elim hq
    | brk => exact False.elim hq
    | cont => exact False.elim hq
theorem pe_ixO {a b : Expr} {ta tb : TE} {pos : Pos} (c : Gtl X.prog X.w X.K X.mg X.base k C sp) (hr : Room j X.A) (hk : k + 1 ≤ j) (ha : PE X a ta) (hb : PE X b tb)
    (hsl : ∀ o i, subscripted b true o i = runValue (.builtin "lifetime.subscript" ⟨[o, i], []⟩)) : PE X (.Subscript a b pos) (tOp (rOwnI C sp E0) ta tb) := by
  have ⟨f, fd, ps, M, hfn, F, bd⟩ := c.of
  refine ⟨fun pins s σ H Q I h => ?_⟩
  refine Subscript_ (binT ha hb I h fun v u s2 x y H2 I2 rx ry q => ?_)
  obtain ⟨a', dx, fs, i, rfl, rfl, hA, q⟩ := q
  cases (show v = Value.ref a' from rx)
  obtain ⟨t, rfl⟩ := (show ∃ t, u = Value.int i t from ry)
  obtain ⟨od, J⟩ := ins_at I2 hA
  obtain ⟨m, hF⟩ := I2.fr
  refine PySem.W.sub_K hF I2.ok.mod.kin J M.at_ hfn M.fn ?_ (hsl _ _)
  exact run_fnA (us := [.ref a', .int i t]) (vs := [.ref a', .int i]) F (hr.mono hk).in1 rfl bd pass0 I2 (.cons rfl (.cons ⟨t, rfl⟩ .nil)) q
theorem op_eqO (c : Mtl X.prog X.w X.K X.mg X.base k C "__eq__" sp) (hr : Room j X.A) (hk : k ≤ j) : OpR X (compareOp .Eq) (rOwn2 C sp E0) := by
  have ⟨f, fd, ps, hc, hm, hf, F, b⟩ := c.of
  intro pins s σ H x y v u Q I rx ry h
  obtain ⟨a, dx, fs, b', dy, gs, rfl, rfl, ha, hb', q⟩ := h
  cases (show v = Value.ref a from rx)
  cases (show u = Value.ref b' from ry)
  obtain ⟨od, J⟩ := ins_at I ha
  obtain ⟨od', J'⟩ := ins_at I hb'
  obtain ⟨m, hF⟩ := I.fr
  show wpAny (model X.prog X.w) X.A (richCompare .Eq (.ref a) (.ref b')) (EP X pins σ Q) X.xe s
  refine PySem.W.cmp_K (op := .Eq) (tb := .ref C) hr.units0 hF I.ok.mod.kin J J'.type (by simp [PySem.W.notFirst]) hm.at_ hm.fn ?_
  refine thn (run_fn (us := [.ref a, .ref b']) (vs := [.ref a, .ref b']) F (hr.mono hk) b .nil pass0 I (.cons rfl (.cons rfl .nil)) q) fun w s' z => ?_
  obtain ⟨z', H', I', rz, qz⟩ := z
  exact SlX.cmpback rz ⟨z', H', I', rz, qz⟩
end
end RH
set_option exponentiation.threshold 256
set_option Elab.async false
set_option linter.all false
set_option maxRecDepth 100000
set_option maxHeartbeats 4000000
namespace RH
open PySem PySem.Spec PyProof.Rows L2
def wf1 (p n q : V) : List (Str × V) := [("part", p), ("nesting", n), ("pieces", q)]
def wf2 (p n q : V) : List (Str × V) := [("nesting", n), ("pieces", q), ("part", p)]
/-- a word: its entries, a bound of its products' depth, its nesting, its pieces -/
def WR (g : G) (H : Hp) (v : V) (w : List Ent) (d n q : Nat) : Prop := ∃ a dx fs pv z, v = .ref a ∧ H a = some (.ins g.word dx fs) ∧ (fs = wf1 pv (.int (n : Nat)) (.int (q : Nat)) ∨ fs = wf2 pv (.int (n : Nat)) (.int (q : Nat))) ∧ PR g.part H pv w d z
theorem WR.mono {g : G} {H H' : Hp} {v : V} {w : List Ent} {d n q : Nat} (s : Same H H') (h : WR g H v w d n q) : WR g H' v w d n q := by
  obtain ⟨a, dx, fs, pv, z, h1, h2, h3, h4⟩ := h
  exact ⟨a, dx, fs, pv, z, h1, s _ _ h2, h3, h4.mono s⟩
theorem WR.up {g : G} {H : Hp} {v : V} {w : List Ent} {d d' n q : Nat} (h : WR g H v w d n q) (hd : d ≤ d') : WR g H v w d' n q := by
  obtain ⟨a, dx, fs, pv, z, h1, h2, h3, h4⟩ := h
  exact ⟨a, dx, fs, pv, z, h1, h2, h3, h4.up hd⟩
/-- a list of entries -/
def LR (H : Hp) (v : V) (w : List Ent) : Prop := ∃ a es, v = .ref a ∧ H a = some (.lst es) ∧ EntsV H w es
theorem LR.mono {H H' : Hp} {v : V} {w : List Ent} (s : Same H H') (h : LR H v w) : LR H' v w := by
  obtain ⟨a, es, h1, h2, h3⟩ := h
  exact ⟨a, es, h1, s _ _ h2, h3.mono s⟩
def spMadeInit (g : G) : Sp := fun vs H Q _ => ∃ a dx p n q, vs = [.ref a, p, n, q] ∧ H a = some (.ins g.made dx []) ∧ Q .non (upd H a (.ins g.made dx (wf1 p n q)))
def spWordInit (g : G) : Sp := fun vs H Q _ =>
  (∃ a dx b dy p n q, vs = [.ref a, .ref b] ∧ H a = some (.ins g.word dx []) ∧ H b = some (.ins g.made dy (wf1 p n q)) ∧ Q .non (upd H a (.ins g.word dx (wf1 p n q)))) ∨
  (∃ a dx l es w, vs = [.ref a, .ref l] ∧ H a = some (.ins g.word dx []) ∧ H l = some (.lst es) ∧ EntsV H w es ∧ (∀ e ∈ w, EntOk e) ∧ w.length ≤ 1000000 ∧
    ∀ H' p z, (∀ b o, b ≠ a → H b = some o → H' b = some o) → H' a = some (.ins g.word dx (wf2 p (.int ((0 : Nat) : Int)) (.int ((1 : Nat) : Int)))) → PR g.part H' p w 0 z → Q .non H')
def spLength (g : G) : Sp := fun vs H Q _ => ∃ v w d n q, vs = [v] ∧ WR g H v w d n q ∧ Q (.int (w.length : Nat)) H
def spWordAdd (g : G) : Sp := fun vs H Q _ => ∃ v1 v2 w1 w2 d n1 q1 n2 q2, vs = [v1, v2] ∧ WR g H v1 w1 d n1 q1 ∧ WR g H v2 w2 d n2 q2 ∧ q1 + q2 ≤ 1000 ∧ ∀ H' v, Same H H' → WR g H' v (w1 ++ w2) d (max n1 n2) (q1 + q2) → Q v H'
def spWordMul (g : G) : Sp := fun vs H Q _ => ∃ v w d n q t, vs = [v, .int (t : Nat)] ∧ WR g H v w d n q ∧ n < 6 ∧ t * w.length < 8 * LIM * LIM ∧ ∀ H' v, Same H H' → WR g H' v (rp t w) (d + 1) (n + 1) q → Q v H'
def spAgreeing (g : G) (n : Nat) : Sp := fun vs H Q _ => ∃ v1 v2 w1 w2 d1 n1 q1 d2 n2 q2 f s, vs = [v1, .int (f : Nat), v2, .int (s : Nat)] ∧ WR g H v1 w1 d1 n1 q1 ∧ WR g H v2 w2 d2 n2 q2 ∧ f ≤ w1.length ∧ s ≤ w2.length ∧ w1.length < LIM ∧ w2.length < LIM ∧ 2 * d1 + 2 * d2 ≤ n ∧
  ∀ H' k, Same H H' → Agr (w1.drop f) (w2.drop s) (min (w1.length - f) (w2.length - s)) k → Q (.int (k : Nat)) H'
def spFirstDiff (g : G) (n : Nat) : Sp := fun vs H Q _ => ∃ v1 v2 w1 w2 d1 n1 q1 d2 n2 q2, vs = [v1, v2] ∧ WR g H v1 w1 d1 n1 q1 ∧ WR g H v2 w2 d2 n2 q2 ∧ w1.length < LIM ∧ w2.length < LIM ∧ 2 * d1 + 2 * d2 ≤ n ∧
  ∀ H' k, Same H H' → Agr w1 w2 (min w1.length w2.length) k → Q (if k = w1.length ∧ w1.length = w2.length then .non else .int (k : Nat)) H'
def spHasPeriod (g : G) (n : Nat) : Sp := fun vs H Q _ => ∃ v w d n1 q1 p, vs = [v, .int (p : Nat)] ∧ WR g H v w d n1 q1 ∧ 1 ≤ p ∧ w.length < LIM ∧ 2 * d + 2 * d ≤ n ∧
  ∀ H' b, Same H H' → (b = true ↔ w.drop p = w.take (w.length - p)) → Q (.bl b) H'
def spCut (g : G) : Sp := fun vs H Q _ => ∃ v w d n q f l, vs = [v, .int (f : Nat), .int (l : Nat)] ∧ WR g H v w d n q ∧ f ≤ l ∧ l ≤ w.length ∧ w.length < LIM ∧ ∀ H' v', Same H H' → WR g H' v' ((w.drop f).take (l - f)) d n q → Q v' H'
def spEntries (g : G) : Sp := fun vs H Q _ => ∃ v w d n q f l, vs = [v, .int (f : Nat), .int (l : Nat)] ∧ WR g H v w d n q ∧ f ≤ l ∧ l ≤ w.length ∧ l ≤ f + 1000 ∧ w.length < LIM ∧ ∀ H' v', Same H H' → LR H' v' ((w.drop f).take (l - f)) → Q v' H'
def spGetItem (g : G) : Sp := fun vs H Q _ => ∃ v w d n q i e, vs = [v, .int (i : Nat)] ∧ WR g H v w d n q ∧ w[i]? = some e ∧ w.length < LIM ∧ ∀ H' v', Same H H' → EntV H' e v' → Q v' H'
def spWordEq (g : G) (n : Nat) : Sp := fun vs H Q _ => ∃ v1 v2 w1 w2 d1 n1 q1 d2 n2 q2, vs = [v1, v2] ∧ WR g H v1 w1 d1 n1 q1 ∧ WR g H v2 w2 d2 n2 q2 ∧ w1.length < LIM ∧ w2.length < LIM ∧ 2 * d1 + 2 * d2 ≤ n ∧
  ∀ H', Same H H' → Q (.bl (decide (w1 = w2))) H'
def natsV (ns : List Nat) : List V := ns.map fun n => .int (n : Nat)
/-- a list of digits -/
def DR (H : Hp) (v : V) (ds : List Nat) : Prop := ∃ a, v = .ref a ∧ H a = some (.lst (natsV ds))
theorem DR.mono {H H' : Hp} {v : V} {ds : List Nat} (s : Same H H') (h : DR H v ds) : DR H' v ds := by
  obtain ⟨a, h1, h2⟩ := h
  exact ⟨a, h1, s _ _ h2⟩
def spCell (g : G) : Sp := fun vs H Q _ => ∃ (a : Addr) (ns : List Int) (k : Nat), vs = [.ref a, .int (k : Nat)] ∧ SqL g.K H a (ns.map V.int) ∧ ∀ c : Int, Q (.int c) H
def spDigits : Sp := fun vs H Q _ => ∃ c m, vs = [.int c, .int (m : Nat)] ∧ m ≤ 1000 ∧ ∀ H' v ds, Same H H' → DR H' v ds → ds.length = m → (∀ x ∈ ds, x < 1009) → Q v H'
/-- the four entries -/
def ent4 (i : Nat) : Ent := if i % 4 = 0 then ⟨"emit", some "a"⟩ else if i % 4 = 1 then ⟨"emit", some "b"⟩ else if i % 4 = 2 then ⟨"final", some "a"⟩ else ⟨"emit", none⟩
def spEntry : Sp := fun vs H Q _ => ∃ n, vs = [.int (n : Nat)] ∧ ∀ H' v, Same H H' → EntV H' (ent4 n) v → Q v H'
def isRow (w : List Ent) : Prop := ∀ e ∈ w, ∃ i, e = ent4 i
def spRow : Sp := fun vs H Q _ => ∃ v ds m, vs = [v, .int (m : Nat)] ∧ m ≤ 1000 ∧ DR H v ds ∧ ∀ H' r w, Same H H' → LR H' r w → isRow w → w.length ≤ m → (m ≤ ds.length → w.length = m) → Q r H'
/-- how long the built words are, at most -/
def maxLen : Nat → Nat
  | 0 => 4
  | k + 1 => 3 * maxLen k
def maxPc : Nat → Nat
  | 0 => 1
  | k + 1 => 3 * maxPc k
def spBuilt (g : G) (k : Nat) : Sp := fun vs H Q _ => ∃ v ds, vs = [v, .int (k : Nat)] ∧ DR H v ds ∧ 5 + 7 * k ≤ ds.length ∧
  ∀ H' p wv lv w n q, Same H H' → H' p = some (.tup [wv, lv]) → WR g H' wv w k n q → LR H' lv w → isRow w → w.length ≤ maxLen k → n ≤ k → q ≤ maxPc k → Q (.ref p) H'
/-- how long two lists agree -/
def spAlike : Sp := fun vs H Q _ => ∃ v1 v2 w1 w2, vs = [v1, v2] ∧ LR H v1 w1 ∧ LR H v2 w2 ∧ ∀ k, Agr w1 w2 (min w1.length w2.length) k → Q (.int (k : Nat)) H
def spPeriodRight (g : G) : Sp := fun vs H Q _ => ∃ v1 v2 w d n q, vs = [v1, v2] ∧ WR g H v1 w d n q ∧ LR H v2 w ∧ d ≤ 5 ∧ w.length ≤ 100000 ∧ ∀ H', Same H H' → Q (.bl true) H'
/-- k36: the periods up to a row's length, of the row many times -/
def spSmallRight (g : G) : Sp := fun vs H Q _ => ∃ v1 v2 w t c d n q, vs = [v1, v2] ∧ WR g H v1 (rp t w ++ w.take c) d n q ∧ LR H v2 w ∧ w ≠ [] ∧ w.length ≤ 1000 ∧ 4 ≤ t ∧ (rp t w ++ w.take c).length < LIM ∧ d ≤ 5 ∧ ∀ H', Same H H' → Q (.bl true) H'
/-- k35 -/
def spFarRight : Sp := fun vs H Q _ => ∃ v ds, vs = [v] ∧ DR H v ds ∧ 28 ≤ ds.length ∧ (∀ x ∈ ds, x < 1009) ∧ ∀ H', Same H H' → Q (.bl true) H'
def spNestedRight : Sp := fun vs H Q _ => ∃ v ds, vs = [v] ∧ DR H v ds ∧ 18 ≤ ds.length ∧ (∀ x ∈ ds, x < 1009) ∧ ∀ H', Same H H' → Q (.bl true) H'
def spLaw (g : G) : Sp := fun vs H Q _ => ∃ (a : Addr) (ns : List Int), vs = [.ref a] ∧ SqL g.K H a (ns.map V.int) ∧ ns.length ≤ 63 ∧ ∀ H', Q (.bl true) H'
end RH
set_option exponentiation.threshold 256
set_option Elab.async false
set_option linter.all false
set_option maxRecDepth 100000
set_option maxHeartbeats 4000000
namespace RH
open PySem PySem.Spec PyProof.Rows L2
def top (i : Nat) : Stmt := PySem.Challenge.pw_roundheap_k35_whole_far_words_compared.main.body.getD i (.Pass ⟨0, 0, 0, 0⟩)
abbrev s_is_integer : Stmt := top 8
abbrev N_is_integer : List Str := ["thing"]
abbrev P_is_integer : List Str := ["thing"]
theorem sc_is_integer : FnScope N_is_integer P_is_integer (defScope s_is_integer) := ⟨rfl, rfl, rfl, by decide +kernel, rfl, by decide +kernel, by decide +kernel⟩
abbrev s_is_between : Stmt := top 9
abbrev N_is_between : List Str := ["thing", "least", "most"]
abbrev P_is_between : List Str := ["thing", "least", "most"]
theorem sc_is_between : FnScope N_is_between P_is_between (defScope s_is_between) := ⟨rfl, rfl, rfl, by decide +kernel, rfl, by decide +kernel, by decide +kernel⟩
abbrev s_is_name : Stmt := top 10
abbrev N_is_name : List Str := ["thing", "sign"]
abbrev P_is_name : List Str := ["thing"]
theorem sc_is_name : FnScope N_is_name P_is_name (defScope s_is_name) := ⟨rfl, rfl, rfl, by decide +kernel, rfl, by decide +kernel, by decide +kernel⟩
abbrev s_is_entry : Stmt := top 17
abbrev N_is_entry : List Str := ["thing"]
abbrev P_is_entry : List Str := ["thing"]
theorem sc_is_entry : FnScope N_is_entry P_is_entry (defScope s_is_entry) := ⟨rfl, rfl, rfl, by decide +kernel, rfl, by decide +kernel, by decide +kernel⟩
abbrev s_Part_init : Stmt := inClass (top 18) 0
abbrev N_Part_init : List Str := ["self", "row", "left", "right", "times", "turned_from"]
abbrev P_Part_init : List Str := ["self", "row", "left", "right", "times", "turned_from"]
theorem sc_Part_init : FnScope N_Part_init P_Part_init (defScope s_Part_init) := ⟨rfl, rfl, rfl, by decide +kernel, rfl, by decide +kernel, by decide +kernel⟩
abbrev s_joined : Stmt := top 19
abbrev N_joined : List Str := ["one", "other", "last", "longer"]
abbrev P_joined : List Str := ["one", "other"]
theorem sc_joined : FnScope N_joined P_joined (defScope s_joined) := ⟨rfl, rfl, rfl, by decide +kernel, rfl, by decide +kernel, by decide +kernel⟩
abbrev s_repeated : Stmt := top 20
abbrev N_repeated : List Str := ["part", "times"]
abbrev P_repeated : List Str := ["part", "times"]
theorem sc_repeated : FnScope N_repeated P_repeated (defScope s_repeated) := ⟨rfl, rfl, rfl, by decide +kernel, rfl, by decide +kernel, by decide +kernel⟩
abbrev s_width : Stmt := top 21
abbrev N_width : List Str := ["unit"]
abbrev P_width : List Str := ["unit"]
theorem sc_width : FnScope N_width P_width (defScope s_width) := ⟨rfl, rfl, rfl, by decide +kernel, rfl, by decide +kernel, by decide +kernel⟩
abbrev s_opened : Stmt := top 22
abbrev N_opened : List Str := ["part", "rest", "entry"]
abbrev P_opened : List Str := ["part", "rest"]
theorem sc_opened : FnScope N_opened P_opened (defScope s_opened) := ⟨rfl, rfl, rfl, by decide +kernel, rfl, by decide +kernel, by decide +kernel⟩
abbrev s_first_unit : Stmt := top 23
abbrev N_first_unit : List Str := ["units", "unit", "times", "rest"]
abbrev P_first_unit : List Str := ["units"]
theorem sc_first_unit : FnScope N_first_unit P_first_unit (defScope s_first_unit) := ⟨rfl, rfl, rfl, by decide +kernel, rfl, by decide +kernel, by decide +kernel⟩
abbrev s_behind : Stmt := top 24
abbrev N_behind : List Str := ["units", "many", "unit", "times", "rest", "whole"]
abbrev P_behind : List Str := ["units", "many"]
theorem sc_behind : FnScope N_behind P_behind (defScope s_behind) := ⟨rfl, rfl, rfl, by decide +kernel, rfl, by decide +kernel, by decide +kernel⟩
abbrev s_rotated : Stmt := top 25
abbrev N_rotated : List Str := ["part", "many", "base", "shift", "found"]
abbrev P_rotated : List Str := ["part", "many"]
theorem sc_rotated : FnScope N_rotated P_rotated (defScope s_rotated) := ⟨rfl, rfl, rfl, by decide +kernel, rfl, by decide +kernel, by decide +kernel⟩
abbrev s_gone_by : Stmt := top 26
abbrev N_gone_by : List Str := ["units", "many", "unit", "times", "rest", "last"]
abbrev P_gone_by : List Str := ["units", "many"]
theorem sc_gone_by : FnScope N_gone_by P_gone_by (defScope s_gone_by) := ⟨rfl, rfl, rfl, by decide +kernel, rfl, by decide +kernel, by decide +kernel⟩
abbrev s_alike_for : Stmt := top 27
abbrev N_alike_for : List Str := ["unit", "other", "many"]
abbrev P_alike_for : List Str := ["unit", "other"]
theorem sc_alike_for : FnScope N_alike_for P_alike_for (defScope s_alike_for) := ⟨rfl, rfl, rfl, by decide +kernel, rfl, by decide +kernel, by decide +kernel⟩
abbrev s_alike_ahead : Stmt := top 28
abbrev N_alike_ahead : List Str := ["one", "other", "most", "unit", "times", "rest", "thing", "turns", "more"]
abbrev P_alike_ahead : List Str := ["one", "other", "most"]
theorem sc_alike_ahead : FnScope N_alike_ahead P_alike_ahead (defScope s_alike_ahead) := ⟨rfl, rfl, rfl, by decide +kernel, rfl, by decide +kernel, by decide +kernel⟩
abbrev s_run_ahead : Stmt := top 29
abbrev N_run_ahead : List Str := ["units", "most", "found"]
abbrev P_run_ahead : List Str := ["units", "most"]
theorem sc_run_ahead : FnScope N_run_ahead P_run_ahead (defScope s_run_ahead) := ⟨rfl, rfl, rfl, by decide +kernel, rfl, by decide +kernel, by decide +kernel⟩
abbrev s_agreement : Stmt := top 30
abbrev N_agreement : List Str := ["one", "other", "most", "found", "unit", "times", "rest", "thing", "turns", "more", "many", "alike", "due", "row", "part"]
abbrev P_agreement : List Str := ["one", "other", "most"]
theorem sc_agreement : FnScope N_agreement P_agreement (defScope s_agreement) := ⟨rfl, rfl, rfl, by decide +kernel, rfl, by decide +kernel, by decide +kernel⟩
abbrev s_part_of : Stmt := top 31
abbrev N_part_of : List Str := ["units", "many", "found", "unit", "times", "rest", "whole", "some"]
abbrev P_part_of : List Str := ["units", "many"]
theorem sc_part_of : FnScope N_part_of P_part_of (defScope s_part_of) := ⟨rfl, rfl, rfl, by decide +kernel, rfl, by decide +kernel, by decide +kernel⟩
abbrev s_check_index : Stmt := top 32
abbrev N_check_index : List Str := ["number", "least", "most"]
abbrev P_check_index : List Str := ["number", "least", "most"]
theorem sc_check_index : FnScope N_check_index P_check_index (defScope s_check_index) := ⟨rfl, rfl, rfl, by decide +kernel, rfl, by decide +kernel, by decide +kernel⟩
abbrev s_Made_init : Stmt := inClass (top 33) 0
abbrev N_Made_init : List Str := ["self", "part", "depth", "pieces"]
abbrev P_Made_init : List Str := ["self", "part", "depth", "pieces"]
theorem sc_Made_init : FnScope N_Made_init P_Made_init (defScope s_Made_init) := ⟨rfl, rfl, rfl, by decide +kernel, rfl, by decide +kernel, by decide +kernel⟩
abbrev s_Word_init : Stmt := inClass (top 34) 0
abbrev N_Word_init : List Str := ["self", "entries", "first", "entry"]
abbrev P_Word_init : List Str := ["self", "entries"]
theorem sc_Word_init : FnScope N_Word_init P_Word_init (defScope s_Word_init) := ⟨rfl, rfl, rfl, by decide +kernel, rfl, by decide +kernel, by decide +kernel⟩
abbrev s_Word_add : Stmt := inClass (top 34) 3
abbrev N_Word_add : List Str := ["self", "other", "pieces"]
abbrev P_Word_add : List Str := ["self", "other"]
theorem sc_Word_add : FnScope N_Word_add P_Word_add (defScope s_Word_add) := ⟨rfl, rfl, rfl, by decide +kernel, rfl, by decide +kernel, by decide +kernel⟩
abbrev s_Word_mul : Stmt := inClass (top 34) 4
abbrev N_Word_mul : List Str := ["self", "times"]
abbrev P_Word_mul : List Str := ["self", "times"]
theorem sc_Word_mul : FnScope N_Word_mul P_Word_mul (defScope s_Word_mul) := ⟨rfl, rfl, rfl, by decide +kernel, rfl, by decide +kernel, by decide +kernel⟩
abbrev s_length : Stmt := inClass (top 34) 8
abbrev N_length : List Str := ["self"]
abbrev P_length : List Str := ["self"]
theorem sc_length : FnScope N_length P_length (defScope s_length) := ⟨rfl, rfl, rfl, by decide +kernel, rfl, by decide +kernel, by decide +kernel⟩
abbrev s_agreeing : Stmt := top 35
abbrev N_agreeing : List Str := ["one", "first", "other", "second", "most"]
abbrev P_agreeing : List Str := ["one", "first", "other", "second"]
theorem sc_agreeing : FnScope N_agreeing P_agreeing (defScope s_agreeing) := ⟨rfl, rfl, rfl, by decide +kernel, rfl, by decide +kernel, by decide +kernel⟩
abbrev s_cell : Stmt := top 38
abbrev N_cell : List Str := ["_law_script", "_law_k"]
abbrev P_cell : List Str := ["_law_script", "_law_k"]
theorem sc_cell : FnScope N_cell P_cell (defScope s_cell) := ⟨rfl, rfl, rfl, by decide +kernel, rfl, by decide +kernel, by decide +kernel⟩
abbrev s_digits : Stmt := top 39
abbrev N_digits : List Str := ["_law_cell_here", "_law_many", "_law_digits_here", "_law_rest", "_law_number", "_law_k"]
abbrev P_digits : List Str := ["_law_cell_here", "_law_many"]
theorem sc_digits : FnScope N_digits P_digits (defScope s_digits) := ⟨rfl, rfl, rfl, by decide +kernel, rfl, by decide +kernel, by decide +kernel⟩
abbrev s_entry : Stmt := top 40
abbrev N_entry : List Str := ["_law_digit"]
abbrev P_entry : List Str := ["_law_digit"]
theorem sc_entry : FnScope N_entry P_entry (defScope s_entry) := ⟨rfl, rfl, rfl, by decide +kernel, rfl, by decide +kernel, by decide +kernel⟩
abbrev s_row : Stmt := top 41
abbrev N_row : List Str := ["_law_digits_here", "_law_many", "_law_digit"]
abbrev P_row : List Str := ["_law_digits_here", "_law_many"]
theorem sc_row : FnScope N_row P_row (defScope s_row) := ⟨rfl, rfl, rfl, by decide +kernel, rfl, by decide +kernel, by decide +kernel⟩
abbrev s_cut : Stmt := inClass (top 34) 9
abbrev N_cut : List Str := ["self", "first", "last"]
abbrev P_cut : List Str := ["self", "first", "last"]
theorem sc_cut : FnScope N_cut P_cut (defScope s_cut) := ⟨rfl, rfl, rfl, by decide +kernel, rfl, by decide +kernel, by decide +kernel⟩
abbrev s_entries : Stmt := inClass (top 34) 10
abbrev N_entries : List Str := ["self", "first", "last", "found", "units", "unit", "times", "rest"]
abbrev P_entries : List Str := ["self", "first", "last"]
theorem sc_entries : FnScope N_entries P_entries (defScope s_entries) := ⟨rfl, rfl, rfl, by decide +kernel, rfl, by decide +kernel, by decide +kernel⟩
abbrev s_getitem : Stmt := inClass (top 34) 5
abbrev N_getitem : List Str := ["self", "number"]
abbrev P_getitem : List Str := ["self", "number"]
theorem sc_getitem : FnScope N_getitem P_getitem (defScope s_getitem) := ⟨rfl, rfl, rfl, by decide +kernel, rfl, by decide +kernel, by decide +kernel⟩
abbrev s_Word_eq : Stmt := inClass (top 34) 1
abbrev N_Word_eq : List Str := ["self", "other"]
abbrev P_Word_eq : List Str := ["self", "other"]
theorem sc_Word_eq : FnScope N_Word_eq P_Word_eq (defScope s_Word_eq) := ⟨rfl, rfl, rfl, by decide +kernel, rfl, by decide +kernel, by decide +kernel⟩
abbrev s_first_difference : Stmt := top 36
abbrev N_first_difference : List Str := ["one", "other", "many"]
abbrev P_first_difference : List Str := ["one", "other"]
theorem sc_first_difference : FnScope N_first_difference P_first_difference (defScope s_first_difference) := ⟨rfl, rfl, rfl, by decide +kernel, rfl, by decide +kernel, by decide +kernel⟩
abbrev s_alike : Stmt := top 42
abbrev N_alike : List Str := ["_law_one", "_law_other", "_law_many"]
abbrev P_alike : List Str := ["_law_one", "_law_other"]
theorem sc_alike : FnScope N_alike P_alike (defScope s_alike) := ⟨rfl, rfl, rfl, by decide +kernel, rfl, by decide +kernel, by decide +kernel⟩
abbrev s_far_right : Stmt := top 43
abbrev N_far_right : List Str := ["_law_digits_here", "_law_root", "_law_one", "_law_other", "_law_ahead", "_law_turns", "_law_words", "_law_both", "_law_alike_here", "_law_lengths", "_law_due", "_law_j"]
abbrev P_far_right : List Str := ["_law_digits_here"]
theorem sc_far_right : FnScope N_far_right P_far_right (defScope s_far_right) := ⟨rfl, rfl, rfl, by decide +kernel, rfl, by decide +kernel, by decide +kernel⟩
abbrev s_nested_right : Stmt := top 44
abbrev N_nested_right : List Str := ["_law_digits_here", "_law_inner", "_law_outer", "_law_many", "_law_turns", "_law_spot", "_law_usual", "_law_odd", "_law_whole", "_law_bent", "_law_wide", "_law_at"]
abbrev P_nested_right : List Str := ["_law_digits_here"]
theorem sc_nested_right : FnScope N_nested_right P_nested_right (defScope s_nested_right) := ⟨rfl, rfl, rfl, by decide +kernel, rfl, by decide +kernel, by decide +kernel⟩
abbrev s_law : Stmt := top 45
abbrev N_law : List Str := ["_law_script", "_law_k", "_law_digits_here"]
abbrev P_law : List Str := ["_law_script"]
theorem sc_law : FnScope N_law P_law (defScope s_law) := ⟨rfl, rfl, rfl, by decide +kernel, rfl, by decide +kernel, by decide +kernel⟩
/-- what the top has left: constants, built-in names -/
structure Txt (g : G) (mg : Str → Option Value) : Prop where
  c_LETTERS : ∃ u, mg "LETTERS" = some u ∧ RelV (.str letters26) u
  c_MOST_LETTERS : ∃ u, mg "MOST_LETTERS" = some u ∧ RelV (.int 8) u
  c_MOST_IN_ROW : ∃ u, mg "MOST_IN_ROW" = some u ∧ RelV (.int 60) u
  c_MOST_DEPTH : ∃ u, mg "MOST_DEPTH" = some u ∧ RelV (.int 6) u
  c_MOST_TOLD : ∃ u, mg "MOST_TOLD" = some u ∧ RelV (.int 1000) u
  c_MOST_PIECES : ∃ u, mg "MOST_PIECES" = some u ∧ RelV (.int 1000) u
  c_KINDS : ∃ u, mg "KINDS" = some u ∧ RelV (.ref g.kinds) u
  c_Made : ∃ u, mg "Made" = some u ∧ RelV (.ref g.made) u
  c_Word : ∃ u, mg "Word" = some u ∧ RelV (.ref g.word) u
  word_cl : PySem.W.findIn g.K (.ref g.word) "__class__" = some (some (.builtin "object.__class__"))
  word_ob : PySem.W.mroIn g.K g.word (.type "object") = some true
  word_word : PySem.W.kitOne g.K (.ref g.word) (.ref g.word) = some true
  kinds : ∀ H, SqT g.K H g.kinds [.str "emit", .str "final"]
  n_int : mg "int" = none
  n_bool : mg "bool" = none
  n_str : mg "str" = none
  n_tuple : mg "tuple" = none
  n_list : mg "list" = none
  n_len : mg "len" = none
  n_min : mg "min" = none
  n_max : mg "max" = none
  n_all : mg "all" = none
  n_isinstance : mg "isinstance" = none
  n_range : mg "range" = none
  part : Cls g.K g.part
  p_letters : NoAttr g.K g.part "letters"
  p_left : NoAttr g.K g.part "left"
  p_right : NoAttr g.K g.part "right"
  p_times : NoAttr g.K g.part "times"
  p_turned : NoAttr g.K g.part "turned_from"
  p_wide : NoAttr g.K g.part "wide"
  part_cl : PySem.W.findIn g.K (.ref g.part) "__class__" = some (some (.builtin "object.__class__"))
  cls_get : PySem.W.specialIn g.K (.builtin "object.__class__") "__get__" = some (some (.builtin "getset_descriptor.__get__"))
  cls_tk : PySem.W.takesIn g.K (.builtin "object.__class__") = some true
  part_ob : PySem.W.mroIn g.K g.part (.type "object") = some true
  part_tup : PySem.W.kitOne g.K (.ref g.part) (.type "tuple") = some false
  mulI : OpInt g.K g.word (PySem.dunder (Operator.info .Mult).2) (PySem.dunderR (Operator.info .Mult).2)
  word : Cls g.K g.word
  made : Cls g.K g.made
  w_part : NoAttr g.K g.word "part"
  w_nesting : NoAttr g.K g.word "nesting"
  w_pieces : NoAttr g.K g.word "pieces"
  m_part : NoAttr g.K g.made "part"
  m_nesting : NoAttr g.K g.made "nesting"
  m_pieces : NoAttr g.K g.made "pieces"
  made_cl : PySem.W.findIn g.K (.ref g.made) "__class__" = some (some (.builtin "object.__class__"))
  made_ob : PySem.W.mroIn g.K g.made (.type "object") = some true
  made_made : PySem.W.kitOne g.K (.ref g.made) (.ref g.made) = some true
  list_made : PySem.W.kitOne g.K (.type "list") (.ref g.made) = some false
def t_is_integer (g : G) : TS :=
    (tRet (tAndV (tCB (rIsi g.K) (tCons (tVar 0) (tCons (tC (.ty "int")) tNil))) (tNotV (tCB (rIsi g.K) (tCons (tVar 0) (tCons (tC (.ty "bool")) tNil))))))
theorem d_is_integer {P : Program} {w : World} {mg : Str → Option Value} {base : Heap} {g : G} {A : Around} {outer : List Env} {s : Shared} {H : Hp} {E : XK} {f : Addr} {cdv : Value} (T : Txt g mg)
    (hr : Room 0 (A.deeper (envOfC "is_integer" (defScope s_is_integer) s.heap.objs.size f cdv))) :
    PSs (cxOf CX0 P w g.K mg base N_is_integer "is_integer" (defScope s_is_integer) f cdv A outer s H E).nox (defBody s_is_integer) (t_is_integer g) :=
    (pss_one (ps_ret (pe_and (pe_callB call_isi (by rfl) T.n_isinstance (by decide +kernel) (pa_cons (pv 0) (pa_cons (pe_bltn (v := .ty "int") (by rfl) T.n_int (by decide +kernel) rfl) pa_nil))) (pe_one (pe_not (pe_callB call_isi (by rfl) T.n_isinstance (by decide +kernel) (pa_cons (pv 0) (pa_cons (pe_bltn (v := .ty "bool") (by rfl) T.n_bool (by decide +kernel) rfl) pa_nil))))))))
def t_is_between (g : G) : TS :=
    (tRet (tAndV (tCall spIsInteger [] E0 (tCons (tVar 0) tNil)) (tChain rLeI rLeI (tVar 1) (tVar 0) (tVar 2))))
theorem d_is_between {P : Program} {w : World} {mg : Str → Option Value} {base : Heap} {g : G} {A : Around} {outer : List Env} {s : Shared} {H : Hp} {E : XK} {f : Addr} {cdv : Value} (T : Txt g mg)
    (hr : Room 1 (A.deeper (envOfC "is_between" (defScope s_is_between) s.heap.objs.size f cdv)))
    (h_is_integer : Cl P w g.K mg base 1 "is_integer" spIsInteger []) :
    PSs (cxOf CX0 P w g.K mg base N_is_between "is_between" (defScope s_is_between) f cdv A outer s H E).nox (defBody s_is_between) (t_is_between g) :=
    (pss_one (ps_ret (pe_and (pe_cl h_is_integer hr (by omega) rfl (pa_cons (pv 0) pa_nil)) (pe_one (pe_chain op_leI op_leI (pv 1) (pv 0) (pv 2))))))
def t_is_name (g : G) : TS :=
    (tSeq (tIfS (tOr (tNot (tB (tCB (rIsi g.K) (tCons (tVar 0) (tCons (tC (.ty "str")) tNil))))) (tNot (tTest (tChain rLeI rLeI (tC (.int 1)) (tCB (rLenA g.K) (tCons (tVar 0) tNil)) (tC (.int 8)))))) (tRet (tC (.bl false))) tNext)
    (tRet (tCB (rAll g.K) (tCons (tLc (iStr (tVar 0)) (gName 1) tYes (tOp rInSg (tVar 1) (tC (.str letters26))) [1]) tNil))))
theorem d_is_name {P : Program} {w : World} {mg : Str → Option Value} {base : Heap} {g : G} {A : Around} {outer : List Env} {s : Shared} {H : Hp} {E : XK} {f : Addr} {cdv : Value} (T : Txt g mg)
    (hr : Room 0 (A.deeper (envOfC "is_name" (defScope s_is_name) s.heap.objs.size f cdv))) :
    PSs (cxOf CX0 P w g.K mg base N_is_name "is_name" (defScope s_is_name) f cdv A outer s H E).nox (defBody s_is_name) (t_is_name g) :=
    (pss_cons (ps_if (PW.pt (pw_or (pt_not (pt_val (pe_callB call_isi (by rfl) T.n_isinstance (by decide +kernel) (pa_cons (pv 0) (pa_cons (pe_bltn (v := .ty "str") (by rfl) T.n_str (by decide +kernel) rfl) pa_nil))))) (pw_or1 (pt_not (pt_chain op_leI op_leI pe_int (pe_callB call_len (by rfl) T.n_len PySem.boot_len (pa_cons (pv 0) pa_nil)) (pe_gc rfl T.c_MOST_LETTERS)))))) (pss_one (ps_ret pe_bl)) pss_nil)
    (pss_one (ps_ret (pe_callB (cr_all rfl) (by rfl) T.n_all (by decide +kernel) (pa_cons (pe_lc (own := [("sign", 1)]) (g := gName 1) (tt := tYes) rfl sc_is_name.nd (pi_str (pv 0)) (blkOk_by (N := N_is_name) (sc := defScope s_is_name) (by decide +kernel)) (fun _ _ _ _ _ => pg_name (i := 1) sc_is_name.nd rfl (Or.inl rfl)) (fun _ _ _ _ _ => pts_nil) (fun _ _ _ _ _ => (pe_cmpR op_in_sign (pv 1) (pe_gc rfl T.c_LETTERS) (by rfl)))) pa_nil)))))
def t_is_entry (g : G) : TS :=
    (tSeq (tIfS (tOr (tNot (tB (tCB (rIsi g.K) (tCons (tVar 0) (tCons (tC (.ty "tuple")) tNil))))) (tOr (tTest (tOp rNeS (tCB (rLenS g.K) (tCons (tVar 0) tNil)) (tC (.int 2)))) (tOr (tNot (tB (tCB (rIsi g.K) (tCons (tOp (rIxT g.K) (tVar 0) (tC (.int 0))) (tCons (tC (.ty "str")) tNil))))) (tTest (tOp (rIn g.K true) (tOp (rIxT g.K) (tVar 0) (tC (.int 0))) (tC (.ref g.kinds))))))) (tRet (tC (.bl false))) tNext)
    (tRet (tOrV (tCall spIsName [] E0 (tCons (tOp (rIxT g.K) (tVar 0) (tC (.int 1))) tNil)) (tOp (rEqD g.K) (tVar 0) (tTup (tCons (tC (.str "emit")) (tCons (tC .non) tNil)))))))
theorem d_is_entry {P : Program} {w : World} {mg : Str → Option Value} {base : Heap} {g : G} {A : Around} {outer : List Env} {s : Shared} {H : Hp} {E : XK} {f : Addr} {cdv : Value} (T : Txt g mg)
    (hr : Room 1 (A.deeper (envOfC "is_entry" (defScope s_is_entry) s.heap.objs.size f cdv)))
    (h_is_name : Cl P w g.K mg base 1 "is_name" spIsName []) :
    PSs (cxOf CX0 P w g.K mg base N_is_entry "is_entry" (defScope s_is_entry) f cdv A outer s H E).nox (defBody s_is_entry) (t_is_entry g) :=
    (pss_cons (ps_if (PW.pt (pw_or (pt_not (pt_val (pe_callB call_isi (by rfl) T.n_isinstance (by decide +kernel) (pa_cons (pv 0) (pa_cons (pe_bltn (v := .ty "tuple") (by rfl) T.n_tuple (by decide +kernel) rfl) pa_nil))))) (pw_or (pt_cmpR op_neS (pe_callB call_len_seq (by rfl) T.n_len PySem.boot_len (pa_cons (pv 0) pa_nil)) pe_int (nomark _)) (pw_or (pt_not (pt_val (pe_callB call_isi (by rfl) T.n_isinstance (by decide +kernel) (pa_cons (pe_ix ix_tup (pv 0) pe_int (fun _ _ => rfl)) (pa_cons (pe_bltn (v := .ty "str") (by rfl) T.n_str (by decide +kernel) rfl) pa_nil))))) (pw_or1 (pt_cmpR op_notIn_seq (pe_ix ix_tup (pv 0) pe_int (fun _ _ => rfl)) (pe_gc rfl T.c_KINDS) (by rfl))))))) (pss_one (ps_ret pe_bl)) pss_nil)
    (pss_one (ps_ret (pe_or (pe_cl h_is_name hr (by omega) rfl (pa_cons (pe_ix ix_tup (pv 0) pe_int (fun _ _ => rfl)) pa_nil)) (pe_one (pe_cmpR (op_eqD hr.units) (pv 0) (pe_tup (pa_cons pe_str (pa_cons pe_non pa_nil))) (nomark _)))))))
def t_Part_init (g : G) : TS :=
    (tSeq (sFld g.K (tVar 0) (tVar 1) "letters")
    (tSeq (sFld g.K (tVar 0) (tVar 2) "left")
    (tSeq (sFld g.K (tVar 0) (tVar 3) "right")
    (tSeq (sFld g.K (tVar 0) (tVar 4) "times")
    (tSeq (sFld g.K (tVar 0) (tVar 5) "turned_from")
    (tIfS (tTest (tOp rIsN0 (tVar 2) (tC .non))) (sFld g.K (tVar 0) (tCB (rLenS g.K) (tCons (tVar 1) tNil)) "wide") (tIfS (tTest (tOp rIsN0 (tVar 3) (tC .non))) (sFld g.K (tVar 0) (tOp rMulI (tFld g.K (tVar 2) "wide") (tVar 4)) "wide") (sFld g.K (tVar 0) (tOp rAddI (tFld g.K (tVar 2) "wide") (tFld g.K (tVar 3) "wide")) "wide"))))))))
theorem d_Part_init {P : Program} {w : World} {mg : Str → Option Value} {base : Heap} {g : G} {A : Around} {outer : List Env} {s : Shared} {H : Hp} {E : XK} {f : Addr} {cdv : Value} (T : Txt g mg)
    (hr : Room 0 (A.deeper (envOfC "Part.__init__" (defScope s_Part_init) s.heap.objs.size f cdv))) :
    PSs (cxOf CX0 P w g.K mg base N_Part_init "Part.__init__" (defScope s_Part_init) f cdv A outer s H E).nox (defBody s_Part_init) (t_Part_init g) :=
    (pss_cons (ps_fld (pv 0) (pv 1) rfl)
    (pss_cons (ps_fld (pv 0) (pv 2) rfl)
    (pss_cons (ps_fld (pv 0) (pv 3) rfl)
    (pss_cons (ps_fld (pv 0) (pv 4) rfl)
    (pss_cons (ps_fld (pv 0) (pv 5) rfl)
    (pss_one (ps_if (pt_cmpR op_isN (pv 2) pe_non (nomark _)) (pss_one (ps_fld (pv 0) (pe_callB call_len_seq (by rfl) T.n_len PySem.boot_len (pa_cons (pv 1) pa_nil)) rfl)) (pss_one (ps_if (pt_cmpR op_isN (pv 3) pe_non (nomark _)) (pss_one (ps_fld (pv 0) (pe_op op_mulI (pe_fld (pv 2) rfl) (pv 4)) rfl)) (pss_one (ps_fld (pv 0) (pe_op op_addI (pe_fld (pv 2) rfl) (pe_fld (pv 3) rfl)) rfl)))))))))))
def t_joined (g : G) : TS :=
    (tSeq (tIfS (tOr (tTest (tOp rEqS (tFld g.K (tVar 0) "wide") (tC (.int 0)))) (tTest (tOp rEqS (tFld g.K (tVar 1) "wide") (tC (.int 0))))) (tRet (tIf (tTest (tOp rEqS (tFld g.K (tVar 0) "wide") (tC (.int 0)))) (tVar 1) (tVar 0))) tNext)
    (tSeq (tAsg (tIf (tTest (tOp rIsN0 (tFld g.K (tVar 0) "right") (tC .non))) (tVar 0) (tFld g.K (tVar 0) "right")) (gName 2))
    (tSeq (tIfS (tAnd (tTest (tOp rIsN0 (tFld g.K (tVar 2) "left") (tC .non))) (tAnd (tTest (tOp rIsN0 (tFld g.K (tVar 1) "left") (tC .non))) (tTest (tOp rLeI (tOp rAddI (tCB (rLenS g.K) (tCons (tFld g.K (tVar 2) "letters") tNil)) (tCB (rLenS g.K) (tCons (tFld g.K (tVar 1) "letters") tNil))) (tC (.int 60)))))) (tSeq (tAsg (tMake g.part (spPartInit g) [.non] E0 (tCons (tOp (rCatA g.K) (tFld g.K (tVar 2) "letters") (tFld g.K (tVar 1) "letters")) (tCons (tC .non) (tCons (tC .non) (tCons (tC (.int 1)) tNil))))) (gName 3))
    (tRet (tIf (tTest (tOp rIsN0 (tFld g.K (tVar 0) "right") (tC .non))) (tVar 3) (tMake g.part (spPartInit g) [.non] E0 (tCons (tTup tNil) (tCons (tFld g.K (tVar 0) "left") (tCons (tVar 3) (tCons (tC (.int 1)) tNil)))))))) tNext)
    (tRet (tMake g.part (spPartInit g) [.non] E0 (tCons (tTup tNil) (tCons (tVar 0) (tCons (tVar 1) (tCons (tC (.int 1)) tNil)))))))))
theorem d_joined {P : Program} {w : World} {mg : Str → Option Value} {base : Heap} {g : G} {A : Around} {outer : List Env} {s : Shared} {H : Hp} {E : XK} {f : Addr} {cdv : Value} (T : Txt g mg)
    (hr : Room 2 (A.deeper (envOfC "joined" (defScope s_joined) s.heap.objs.size f cdv)))
    (h_Part_d : Mkl P w g.K mg base 1 "Part" g.part (spPartInit g) [.non]) :
    PSs (cxOf CX0 P w g.K mg base N_joined "joined" (defScope s_joined) f cdv A outer s H E).nox (defBody s_joined) (t_joined g) :=
    (pss_cons (ps_if (PW.pt (pw_or (pt_cmpR op_eqS (pe_fld (pv 0) rfl) pe_int (nomark _)) (pw_or1 (pt_cmpR op_eqS (pe_fld (pv 1) rfl) pe_int (nomark _))))) (pss_one (ps_ret (pe_ifExp (pt_cmpR op_eqS (pe_fld (pv 0) rfl) pe_int (nomark _)) (pv 1) (pv 0)))) pss_nil)
    (pss_cons (ps_set (i := 2) sc_joined.nd rfl (Or.inl rfl) (pe_ifExp (pt_cmpR op_isN (pe_fld (pv 0) rfl) pe_non (nomark _)) (pv 0) (pe_fld (pv 0) rfl)))
    (pss_cons (ps_if (PW.pt (pw_and (pt_cmpR op_isN (pe_fld (pv 2) rfl) pe_non (nomark _)) (pw_and (pt_cmpR op_isN (pe_fld (pv 1) rfl) pe_non (nomark _)) (pw_and1 (pt_cmpR op_leI (pe_op op_addI (pe_callB call_len_seq (by rfl) T.n_len PySem.boot_len (pa_cons (pe_fld (pv 2) rfl) pa_nil)) (pe_callB call_len_seq (by rfl) T.n_len PySem.boot_len (pa_cons (pe_fld (pv 1) rfl) pa_nil))) (pe_gc rfl T.c_MOST_IN_ROW) (nomark _)))))) (pss_cons (ps_set (i := 3) sc_joined.nd rfl (Or.inl rfl) (pe_mkl h_Part_d hr (by omega) rfl (pa_cons (pe_op op_catA (pe_fld (pv 2) rfl) (pe_fld (pv 1) rfl)) (pa_cons pe_non (pa_cons pe_non (pa_cons pe_int pa_nil))))))
    (pss_one (ps_ret (pe_ifExp (pt_cmpR op_isN (pe_fld (pv 0) rfl) pe_non (nomark _)) (pv 3) (pe_mkl h_Part_d hr (by omega) rfl (pa_cons (pe_tup pa_nil) (pa_cons (pe_fld (pv 0) rfl) (pa_cons (pv 3) (pa_cons pe_int pa_nil))))))))) pss_nil)
    (pss_one (ps_ret (pe_mkl h_Part_d hr (by omega) rfl (pa_cons (pe_tup pa_nil) (pa_cons (pv 0) (pa_cons (pv 1) (pa_cons pe_int pa_nil))))))))))
def t_repeated (g : G) : TS :=
    (tSeq (tIfS (tOr (tTest (tOp rEqS (tVar 1) (tC (.int 0)))) (tTest (tOp rEqS (tFld g.K (tVar 0) "wide") (tC (.int 0))))) (tRet (tMake g.part (spPartInit g) [.non] E0 (tCons (tTup tNil) (tCons (tC .non) (tCons (tC .non) (tCons (tC (.int 1)) tNil)))))) tNext)
    (tSeq (tIfS (tAnd (tTest (tOp rNotN0 (tFld g.K (tVar 0) "left") (tC .non))) (tTest (tOp rIsN0 (tFld g.K (tVar 0) "right") (tC .non)))) (tRet (tMake g.part (spPartInit g) [.non] E0 (tCons (tTup tNil) (tCons (tFld g.K (tVar 0) "left") (tCons (tC .non) (tCons (tOp rMulI (tFld g.K (tVar 0) "times") (tVar 1)) tNil)))))) tNext)
    (tRet (tIf (tTest (tOp rEqS (tVar 1) (tC (.int 1)))) (tVar 0) (tMake g.part (spPartInit g) [.non] E0 (tCons (tTup tNil) (tCons (tVar 0) (tCons (tC .non) (tCons (tVar 1) tNil)))))))))
theorem d_repeated {P : Program} {w : World} {mg : Str → Option Value} {base : Heap} {g : G} {A : Around} {outer : List Env} {s : Shared} {H : Hp} {E : XK} {f : Addr} {cdv : Value} (T : Txt g mg)
    (hr : Room 2 (A.deeper (envOfC "repeated" (defScope s_repeated) s.heap.objs.size f cdv)))
    (h_Part_d : Mkl P w g.K mg base 1 "Part" g.part (spPartInit g) [.non]) :
    PSs (cxOf CX0 P w g.K mg base N_repeated "repeated" (defScope s_repeated) f cdv A outer s H E).nox (defBody s_repeated) (t_repeated g) :=
    (pss_cons (ps_if (PW.pt (pw_or (pt_cmpR op_eqS (pv 1) pe_int (nomark _)) (pw_or1 (pt_cmpR op_eqS (pe_fld (pv 0) rfl) pe_int (nomark _))))) (pss_one (ps_ret (pe_mkl h_Part_d hr (by omega) rfl (pa_cons (pe_tup pa_nil) (pa_cons pe_non (pa_cons pe_non (pa_cons pe_int pa_nil))))))) pss_nil)
    (pss_cons (ps_if (PW.pt (pw_and (pt_cmpR op_notN (pe_fld (pv 0) rfl) pe_non (nomark _)) (pw_and1 (pt_cmpR op_isN (pe_fld (pv 0) rfl) pe_non (nomark _))))) (pss_one (ps_ret (pe_mkl h_Part_d hr (by omega) rfl (pa_cons (pe_tup pa_nil) (pa_cons (pe_fld (pv 0) rfl) (pa_cons pe_non (pa_cons (pe_op op_mulI (pe_fld (pv 0) rfl) (pv 1)) pa_nil))))))) pss_nil)
    (pss_one (ps_ret (pe_ifExp (pt_cmpR op_eqS (pv 1) pe_int (nomark _)) (pv 0) (pe_mkl h_Part_d hr (by omega) rfl (pa_cons (pe_tup pa_nil) (pa_cons (pv 0) (pa_cons pe_non (pa_cons (pv 1) pa_nil))))))))))
def t_width (g : G) : TS :=
    (tRet (tIf (tB (tCB (rIsi g.K) (tCons (tVar 0) (tCons (tC (.ty "tuple")) tNil)))) (tC (.int 1)) (tFld g.K (tVar 0) "wide")))
theorem d_width {P : Program} {w : World} {mg : Str → Option Value} {base : Heap} {g : G} {A : Around} {outer : List Env} {s : Shared} {H : Hp} {E : XK} {f : Addr} {cdv : Value} (T : Txt g mg)
    (hr : Room 0 (A.deeper (envOfC "width" (defScope s_width) s.heap.objs.size f cdv))) :
    PSs (cxOf CX0 P w g.K mg base N_width "width" (defScope s_width) f cdv A outer s H E).nox (defBody s_width) (t_width g) :=
    (pss_one (ps_ret (pe_ifExp (pt_val (pe_callB call_isi (by rfl) T.n_isinstance (by decide +kernel) (pa_cons (pv 0) (pa_cons (pe_bltn (v := .ty "tuple") (by rfl) T.n_tuple (by decide +kernel) rfl) pa_nil)))) pe_int (pe_fld (pv 0) rfl))))
def t_opened (g : G) : TS :=
    (tSeq (tIfS (tTest (tOp rNotN0 (tFld g.K (tVar 0) "right") (tC .non))) (tRet (tTup (tCons (tFld g.K (tVar 0) "left") (tCons (tC (.int 1)) (tCons (tTup (tCons (tFld g.K (tVar 0) "right") (tCons (tC (.int 1)) (tCons (tVar 1) tNil)))) tNil))))) tNext)
    (tSeq (tIfS (tTest (tOp rNotN0 (tFld g.K (tVar 0) "left") (tC .non))) (tRet (tTup (tCons (tFld g.K (tVar 0) "left") (tCons (tFld g.K (tVar 0) "times") (tCons (tVar 1) tNil))))) tNext)
    (tSeq (tFor (iTup g.K (tRevT g.K (tFld g.K (tVar 0) "letters"))) (gName 2) (tAsg (tTup (tCons (tVar 2) (tCons (tC (.int 1)) (tCons (tVar 1) tNil)))) (gName 1)))
    (tRet (tVar 1)))))
theorem d_opened {P : Program} {w : World} {mg : Str → Option Value} {base : Heap} {g : G} {A : Around} {outer : List Env} {s : Shared} {H : Hp} {E : XK} {f : Addr} {cdv : Value} (T : Txt g mg)
    (hr : Room 0 (A.deeper (envOfC "opened" (defScope s_opened) s.heap.objs.size f cdv))) :
    PSs (cxOf CX0 P w g.K mg base N_opened "opened" (defScope s_opened) f cdv A outer s H E).nox (defBody s_opened) (t_opened g) :=
    (pss_cons (ps_if (pt_cmpR op_notN (pe_fld (pv 0) rfl) pe_non (nomark _)) (pss_one (ps_ret (pe_tup (pa_cons (pe_fld (pv 0) rfl) (pa_cons pe_int (pa_cons (pe_tup (pa_cons (pe_fld (pv 0) rfl) (pa_cons pe_int (pa_cons (pv 1) pa_nil)))) pa_nil)))))) pss_nil)
    (pss_cons (ps_if (pt_cmpR op_notN (pe_fld (pv 0) rfl) pe_non (nomark _)) (pss_one (ps_ret (pe_tup (pa_cons (pe_fld (pv 0) rfl) (pa_cons (pe_fld (pv 0) rfl) (pa_cons (pv 1) pa_nil)))))) pss_nil)
    (pss_cons (ps_for PassesOwn.never rfl (pi_tup (pe_revT (pe_fld (pv 0) rfl))) (pg_name (i := 2) sc_opened.nd rfl (Or.inl rfl)) (pss_one (ps_set (i := 1) sc_opened.nd rfl (Or.inl rfl) (pe_tup (pa_cons (pv 2) (pa_cons pe_int (pa_cons (pv 1) pa_nil)))))))
    (pss_one (ps_ret (pv 1))))))
def t_first_unit (g : G) : TS :=
    (tSeq (tWhile (tTest (tOp rNotN0 (tVar 0) (tC .non))) (tSeq (tAsg (tVar 0) (gTup g.K 3 (gCons (gName 1) (gCons (gName 2) (gCons (gName 3) gNil)))))
    (tIfS (tTest (tOp rEqS (tVar 2) (tC (.int 0)))) (tAsg (tVar 3) (gName 0)) (tIfS (tOr (tTest (tOp rGtI (tVar 2) (tC (.int 1)))) (tB (tCB (rIsi g.K) (tCons (tVar 1) (tCons (tC (.ty "tuple")) tNil))))) (tRet (tVar 0)) (tAsg (tCall (spOpened g) [] E0 (tCons (tVar 1) (tCons (tVar 3) tNil))) (gName 0))))))
    (tRet (tC .non)))
theorem d_first_unit {P : Program} {w : World} {mg : Str → Option Value} {base : Heap} {g : G} {A : Around} {outer : List Env} {s : Shared} {H : Hp} {E : XK} {f : Addr} {cdv : Value} (T : Txt g mg)
    (hr : Room 1 (A.deeper (envOfC "first_unit" (defScope s_first_unit) s.heap.objs.size f cdv)))
    (h_opened : Cl P w g.K mg base 1 "opened" (spOpened g) []) :
    PSs (cxOf CX0 P w g.K mg base N_first_unit "first_unit" (defScope s_first_unit) f cdv A outer s H E).nox (defBody s_first_unit) (t_first_unit g) :=
    (pss_cons (ps_while PassesOwn.never (pt_cmpR op_notN (pv 0) pe_non (nomark _)) (pss_cons (ps_asg (pv 0) (pg_tup rfl (pgs_cons (pg_name (i := 1) sc_first_unit.nd rfl (Or.inl rfl)) (pgs_cons (pg_name (i := 2) sc_first_unit.nd rfl (Or.inl rfl)) (pgs_cons (pg_name (i := 3) sc_first_unit.nd rfl (Or.inl rfl)) pgs_nil)))))
    (pss_one (ps_if (pt_cmpR op_eqS (pv 2) pe_int (nomark _)) (pss_one (ps_set (i := 0) sc_first_unit.nd rfl (Or.inl rfl) (pv 3))) (pss_one (ps_if (PW.pt (pw_or (pt_cmpR op_gtI (pv 2) pe_int (nomark _)) (pw_or1 (pt_val (pe_callB call_isi (by rfl) T.n_isinstance (by decide +kernel) (pa_cons (pv 1) (pa_cons (pe_bltn (v := .ty "tuple") (by rfl) T.n_tuple (by decide +kernel) rfl) pa_nil))))))) (pss_one (ps_ret (pv 0))) (pss_one (ps_set (i := 0) sc_first_unit.nd rfl (Or.inl rfl) (pe_cl h_opened hr (by omega) rfl (pa_cons (pv 1) (pa_cons (pv 3) pa_nil)))))))))))
    (pss_one (ps_ret pe_non)))
def t_behind (g : G) : TS :=
    (tSeq (tWhile (tTest (tOp rGtI (tVar 1) (tC (.int 0)))) (tSeq (tAsg (tVar 0) (gTup g.K 3 (gCons (gName 2) (gCons (gName 3) (gCons (gName 4) gNil)))))
    (tIfS (tTest (tOp rLeI (tOp rMulI (tCall (spWidth g) [] E0 (tCons (tVar 2) tNil)) (tVar 3)) (tVar 1))) (tSeq (tAsg (tOp rSubI (tVar 1) (tOp rMulI (tCall (spWidth g) [] E0 (tCons (tVar 2) tNil)) (tVar 3))) (gName 1))
    (tAsg (tVar 4) (gName 0))) (tSeq (tAsg (tOp rDivI (tVar 1) (tCall (spWidth g) [] E0 (tCons (tVar 2) tNil))) (gName 5))
    (tSeq (tAsg (tOp rSubI (tVar 1) (tOp rMulI (tVar 5) (tCall (spWidth g) [] E0 (tCons (tVar 2) tNil)))) (gName 1))
    (tSeq (tAsg (tTup (tCons (tVar 2) (tCons (tOp rSubI (tVar 3) (tVar 5)) (tCons (tVar 4) tNil)))) (gName 0))
    (tIfS (tTest (tOp rGtI (tVar 1) (tC (.int 0)))) (tAsg (tCall (spOpened g) [] E0 (tCons (tVar 2) (tCons (tTup (tCons (tVar 2) (tCons (tOp rSubI (tOp rSubI (tVar 3) (tVar 5)) (tC (.int 1))) (tCons (tVar 4) tNil)))) tNil))) (gName 0)) tNext)))))))
    (tRet (tVar 0)))
theorem d_behind {P : Program} {w : World} {mg : Str → Option Value} {base : Heap} {g : G} {A : Around} {outer : List Env} {s : Shared} {H : Hp} {E : XK} {f : Addr} {cdv : Value} (T : Txt g mg)
    (hr : Room 1 (A.deeper (envOfC "behind" (defScope s_behind) s.heap.objs.size f cdv)))
    (h_width : Cl P w g.K mg base 1 "width" (spWidth g) [])
    (h_opened : Cl P w g.K mg base 1 "opened" (spOpened g) []) :
    PSs (cxOf CX0 P w g.K mg base N_behind "behind" (defScope s_behind) f cdv A outer s H E).nox (defBody s_behind) (t_behind g) :=
    (pss_cons (ps_while PassesOwn.never (pt_cmpR op_gtI (pv 1) pe_int (nomark _)) (pss_cons (ps_asg (pv 0) (pg_tup rfl (pgs_cons (pg_name (i := 2) sc_behind.nd rfl (Or.inl rfl)) (pgs_cons (pg_name (i := 3) sc_behind.nd rfl (Or.inl rfl)) (pgs_cons (pg_name (i := 4) sc_behind.nd rfl (Or.inl rfl)) pgs_nil)))))
    (pss_one (ps_if (pt_cmpR op_leI (pe_op op_mulI (pe_cl h_width hr (by omega) rfl (pa_cons (pv 2) pa_nil)) (pv 3)) (pv 1) (nomark _)) (pss_cons (ps_set (i := 1) sc_behind.nd rfl (Or.inl rfl) (pe_op op_subI (pv 1) (pe_op op_mulI (pe_cl h_width hr (by omega) rfl (pa_cons (pv 2) pa_nil)) (pv 3))))
    (pss_one (ps_set (i := 0) sc_behind.nd rfl (Or.inl rfl) (pv 4)))) (pss_cons (ps_set (i := 5) sc_behind.nd rfl (Or.inl rfl) (pe_op op_divI (pv 1) (pe_cl h_width hr (by omega) rfl (pa_cons (pv 2) pa_nil))))
    (pss_cons (ps_set (i := 1) sc_behind.nd rfl (Or.inl rfl) (pe_op op_subI (pv 1) (pe_op op_mulI (pv 5) (pe_cl h_width hr (by omega) rfl (pa_cons (pv 2) pa_nil)))))
    (pss_cons (ps_set (i := 0) sc_behind.nd rfl (Or.inl rfl) (pe_tup (pa_cons (pv 2) (pa_cons (pe_op op_subI (pv 3) (pv 5)) (pa_cons (pv 4) pa_nil)))))
    (pss_one (ps_if (pt_cmpR op_gtI (pv 1) pe_int (nomark _)) (pss_one (ps_set (i := 0) sc_behind.nd rfl (Or.inl rfl) (pe_cl h_opened hr (by omega) rfl (pa_cons (pv 2) (pa_cons (pe_tup (pa_cons (pv 2) (pa_cons (pe_op op_subI (pe_op op_subI (pv 3) (pv 5)) pe_int) (pa_cons (pv 4) pa_nil)))) pa_nil))))) pss_nil)))))))))
    (pss_one (ps_ret (pv 0))))
def t_rotated (g : G) : TS :=
    (tSeq (tAsg (tIf (tTest (tOp rIsN0 (tFld g.K (tVar 0) "turned_from") (tC .non))) (tTup (tCons (tVar 0) (tCons (tC (.int 0)) tNil))) (tFld g.K (tVar 0) "turned_from")) (gTup g.K 2 (gCons (gName 2) (gCons (gName 3) gNil))))
    (tSeq (tAsg (tOp rModI (tOp rAddI (tVar 3) (tVar 1)) (tFld g.K (tVar 2) "wide")) (gName 3))
    (tSeq (tIfS (tTest (tOp rEqS (tVar 3) (tC (.int 0)))) (tRet (tVar 2)) tNext)
    (tSeq (tAsg (tCall (spJoined g) [] E0 (tCons (tCall (spPartOf g) [] E0 (tCons (tCall (spBehind g) [] E0 (tCons (tTup (tCons (tVar 2) (tCons (tC (.int 1)) (tCons (tC .non) tNil)))) (tCons (tVar 3) tNil))) (tCons (tOp rSubI (tFld g.K (tVar 2) "wide") (tVar 3)) tNil))) (tCons (tCall (spPartOf g) [] E0 (tCons (tTup (tCons (tVar 2) (tCons (tC (.int 1)) (tCons (tC .non) tNil)))) (tCons (tVar 3) tNil))) tNil))) (gName 4))
    (tRet (tMake g.part (spPartInit g) [] E0 (tCons (tFld g.K (tVar 4) "letters") (tCons (tFld g.K (tVar 4) "left") (tCons (tFld g.K (tVar 4) "right") (tCons (tFld g.K (tVar 4) "times") (tCons (tTup (tCons (tVar 2) (tCons (tVar 3) tNil))) tNil)))))))))))
theorem d_rotated {P : Program} {w : World} {mg : Str → Option Value} {base : Heap} {g : G} {A : Around} {outer : List Env} {s : Shared} {H : Hp} {E : XK} {f : Addr} {cdv : Value} (T : Txt g mg)
    (hr : Room 4 (A.deeper (envOfC "rotated" (defScope s_rotated) s.heap.objs.size f cdv)))
    (h_Part : Mkl P w g.K mg base 1 "Part" g.part (spPartInit g) [])
    (h_part_of : Cl P w g.K mg base 4 "part_of" (spPartOf g) [])
    (h_behind : Cl P w g.K mg base 2 "behind" (spBehind g) [])
    (h_joined : Cl P w g.K mg base 3 "joined" (spJoined g) []) :
    PSs (cxOf CX0 P w g.K mg base N_rotated "rotated" (defScope s_rotated) f cdv A outer s H E).nox (defBody s_rotated) (t_rotated g) :=
    (pss_cons (ps_asg (pe_ifExp (pt_cmpR op_isN (pe_fld (pv 0) rfl) pe_non (nomark _)) (pe_tup (pa_cons (pv 0) (pa_cons pe_int pa_nil))) (pe_fld (pv 0) rfl)) (pg_tup rfl (pgs_cons (pg_name (i := 2) sc_rotated.nd rfl (Or.inl rfl)) (pgs_cons (pg_name (i := 3) sc_rotated.nd rfl (Or.inl rfl)) pgs_nil))))
    (pss_cons (ps_set (i := 3) sc_rotated.nd rfl (Or.inl rfl) (pe_op op_modI (pe_op op_addI (pv 3) (pv 1)) (pe_fld (pv 2) rfl)))
    (pss_cons (ps_if (pt_cmpR op_eqS (pv 3) pe_int (nomark _)) (pss_one (ps_ret (pv 2))) pss_nil)
    (pss_cons (ps_set (i := 4) sc_rotated.nd rfl (Or.inl rfl) (pe_cl h_joined hr (by omega) rfl (pa_cons (pe_cl h_part_of hr (by omega) rfl (pa_cons (pe_cl h_behind hr (by omega) rfl (pa_cons (pe_tup (pa_cons (pv 2) (pa_cons pe_int (pa_cons pe_non pa_nil)))) (pa_cons (pv 3) pa_nil))) (pa_cons (pe_op op_subI (pe_fld (pv 2) rfl) (pv 3)) pa_nil))) (pa_cons (pe_cl h_part_of hr (by omega) rfl (pa_cons (pe_tup (pa_cons (pv 2) (pa_cons pe_int (pa_cons pe_non pa_nil)))) (pa_cons (pv 3) pa_nil))) pa_nil))))
    (pss_one (ps_ret (pe_mkl h_Part hr (by omega) rfl (pa_cons (pe_fld (pv 4) rfl) (pa_cons (pe_fld (pv 4) rfl) (pa_cons (pe_fld (pv 4) rfl) (pa_cons (pe_fld (pv 4) rfl) (pa_cons (pe_tup (pa_cons (pv 2) (pa_cons (pv 3) pa_nil))) pa_nil))))))))))))
def t_gone_by (g : G) : TS :=
    (tSeq (tWhile (tTest (tOp rGtI (tVar 1) (tC (.int 0)))) (tSeq (tAsg (tVar 0) (gTup g.K 3 (gCons (gName 2) (gCons (gName 3) (gCons (gName 4) gNil)))))
    (tIfS (tTest (tOp rLeI (tOp rMulI (tCall (spWidth g) [] E0 (tCons (tVar 2) tNil)) (tVar 3)) (tVar 1))) (tSeq (tAsg (tOp rSubI (tVar 1) (tOp rMulI (tCall (spWidth g) [] E0 (tCons (tVar 2) tNil)) (tVar 3))) (gName 1))
    (tAsg (tVar 4) (gName 0))) (tSeq (tAsg (tOp rSubI (tVar 3) (tOp rDivI (tVar 1) (tCall (spWidth g) [] E0 (tCons (tVar 2) tNil)))) (gName 3))
    (tSeq (tAsg (tOp rModI (tVar 1) (tCall (spWidth g) [] E0 (tCons (tVar 2) tNil))) (gName 1))
    (tSeq (tAsg (tTup (tCons (tVar 2) (tCons (tVar 3) (tCons (tVar 4) tNil)))) (gName 0))
    (tIfS (tAnd (tTest (tOp rGtI (tVar 1) (tC (.int 0)))) (tTest (tOp rEqS (tVar 3) (tC (.int 1))))) (tAsg (tCall (spOpened g) [] E0 (tCons (tVar 2) (tCons (tVar 4) tNil))) (gName 0)) (tIfS (tTest (tOp rGtI (tVar 1) (tC (.int 0)))) (tSeq (tAsg (tCall (spPartOf g) [] E0 (tCons (tCall (spBehind g) [] E0 (tCons (tTup (tCons (tVar 2) (tCons (tC (.int 1)) (tCons (tC .non) tNil)))) (tCons (tVar 1) tNil))) (tCons (tOp rSubI (tFld g.K (tVar 2) "wide") (tVar 1)) tNil))) (gName 5))
    (tRet (tTup (tCons (tCall (spRotated g) [] E0 (tCons (tVar 2) (tCons (tVar 1) tNil))) (tCons (tOp rSubI (tVar 3) (tC (.int 1))) (tCons (tTup (tCons (tVar 5) (tCons (tC (.int 1)) (tCons (tVar 4) tNil)))) tNil)))))) tNext))))))))
    (tRet (tVar 0)))
theorem d_gone_by {P : Program} {w : World} {mg : Str → Option Value} {base : Heap} {g : G} {A : Around} {outer : List Env} {s : Shared} {H : Hp} {E : XK} {f : Addr} {cdv : Value} (T : Txt g mg)
    (hr : Room 5 (A.deeper (envOfC "gone_by" (defScope s_gone_by) s.heap.objs.size f cdv)))
    (h_width : Cl P w g.K mg base 1 "width" (spWidth g) [])
    (h_opened : Cl P w g.K mg base 1 "opened" (spOpened g) [])
    (h_rotated : Cl P w g.K mg base 5 "rotated" (spRotated g) [])
    (h_behind : Cl P w g.K mg base 2 "behind" (spBehind g) [])
    (h_part_of : Cl P w g.K mg base 4 "part_of" (spPartOf g) []) :
    PSs (cxOf CX0 P w g.K mg base N_gone_by "gone_by" (defScope s_gone_by) f cdv A outer s H E).nox (defBody s_gone_by) (t_gone_by g) :=
    (pss_cons (ps_while PassesOwn.never (pt_cmpR op_gtI (pv 1) pe_int (nomark _)) (pss_cons (ps_asg (pv 0) (pg_tup rfl (pgs_cons (pg_name (i := 2) sc_gone_by.nd rfl (Or.inl rfl)) (pgs_cons (pg_name (i := 3) sc_gone_by.nd rfl (Or.inl rfl)) (pgs_cons (pg_name (i := 4) sc_gone_by.nd rfl (Or.inl rfl)) pgs_nil)))))
    (pss_one (ps_if (pt_cmpR op_leI (pe_op op_mulI (pe_cl h_width hr (by omega) rfl (pa_cons (pv 2) pa_nil)) (pv 3)) (pv 1) (nomark _)) (pss_cons (ps_set (i := 1) sc_gone_by.nd rfl (Or.inl rfl) (pe_op op_subI (pv 1) (pe_op op_mulI (pe_cl h_width hr (by omega) rfl (pa_cons (pv 2) pa_nil)) (pv 3))))
    (pss_one (ps_set (i := 0) sc_gone_by.nd rfl (Or.inl rfl) (pv 4)))) (pss_cons (ps_set (i := 3) sc_gone_by.nd rfl (Or.inl rfl) (pe_op op_subI (pv 3) (pe_op op_divI (pv 1) (pe_cl h_width hr (by omega) rfl (pa_cons (pv 2) pa_nil)))))
    (pss_cons (ps_set (i := 1) sc_gone_by.nd rfl (Or.inl rfl) (pe_op op_modI (pv 1) (pe_cl h_width hr (by omega) rfl (pa_cons (pv 2) pa_nil))))
    (pss_cons (ps_set (i := 0) sc_gone_by.nd rfl (Or.inl rfl) (pe_tup (pa_cons (pv 2) (pa_cons (pv 3) (pa_cons (pv 4) pa_nil)))))
    (pss_one (ps_if (PW.pt (pw_and (pt_cmpR op_gtI (pv 1) pe_int (nomark _)) (pw_and1 (pt_cmpR op_eqS (pv 3) pe_int (nomark _))))) (pss_one (ps_set (i := 0) sc_gone_by.nd rfl (Or.inl rfl) (pe_cl h_opened hr (by omega) rfl (pa_cons (pv 2) (pa_cons (pv 4) pa_nil))))) (pss_one (ps_if (pt_cmpR op_gtI (pv 1) pe_int (nomark _)) (pss_cons (ps_set (i := 5) sc_gone_by.nd rfl (Or.inl rfl) (pe_cl h_part_of hr (by omega) rfl (pa_cons (pe_cl h_behind hr (by omega) rfl (pa_cons (pe_tup (pa_cons (pv 2) (pa_cons pe_int (pa_cons pe_non pa_nil)))) (pa_cons (pv 1) pa_nil))) (pa_cons (pe_op op_subI (pe_fld (pv 2) rfl) (pv 1)) pa_nil))))
    (pss_one (ps_ret (pe_tup (pa_cons (pe_cl h_rotated hr (by omega) rfl (pa_cons (pv 2) (pa_cons (pv 1) pa_nil))) (pa_cons (pe_op op_subI (pv 3) pe_int) (pa_cons (pe_tup (pa_cons (pv 5) (pa_cons pe_int (pa_cons (pv 4) pa_nil)))) pa_nil))))))) pss_nil)))))))))))
    (pss_one (ps_ret (pv 0))))
def t_alike_for (g : G) (n : Nat) : TS :=
    (tSeq (tAsg (tOp rAddI (tFld g.K (tVar 0) "wide") (tFld g.K (tVar 1) "wide")) (gName 2))
    (tSeq (tIfS (tTest (tOp rGtI (tFld g.K (tVar 1) "wide") (tFld g.K (tVar 0) "wide"))) (tRet (tCall (spAgreement g n) [] E0 (tCons (tTup (tCons (tVar 0) (tCons (tVar 2) (tCons (tC .non) tNil)))) (tCons (tCall (spOpened g) [] E0 (tCons (tVar 1) (tCons (tTup (tCons (tVar 1) (tCons (tVar 2) (tCons (tC .non) tNil)))) tNil))) (tCons (tVar 2) tNil))))) tNext)
    (tRet (tCall (spAgreement g n) [] E0 (tCons (tCall (spOpened g) [] E0 (tCons (tVar 0) (tCons (tTup (tCons (tVar 0) (tCons (tVar 2) (tCons (tC .non) tNil)))) tNil))) (tCons (tTup (tCons (tVar 1) (tCons (tVar 2) (tCons (tC .non) tNil)))) (tCons (tVar 2) tNil)))))))
theorem d_alike_for {P : Program} {w : World} {mg : Str → Option Value} {base : Heap} {g : G} {n : Nat} {A : Around} {outer : List Env} {s : Shared} {H : Hp} {E : XK} {f : Addr} {cdv : Value} (T : Txt g mg)
    (hr : Room (8 + 2 * n) (A.deeper (envOfC "alike_for" (defScope s_alike_for) s.heap.objs.size f cdv)))
    (h_opened : Cl P w g.K mg base 1 "opened" (spOpened g) [])
    (h_agreement : Cl P w g.K mg base (8 + 2 * n) "agreement" (spAgreement g n) []) :
    PSs (cxOf CX0 P w g.K mg base N_alike_for "alike_for" (defScope s_alike_for) f cdv A outer s H E).nox (defBody s_alike_for) (t_alike_for g n) :=
    (pss_cons (ps_set (i := 2) sc_alike_for.nd rfl (Or.inl rfl) (pe_op op_addI (pe_fld (pv 0) rfl) (pe_fld (pv 1) rfl)))
    (pss_cons (ps_if (pt_cmpR op_gtI (pe_fld (pv 1) rfl) (pe_fld (pv 0) rfl) (nomark _)) (pss_one (ps_ret (pe_cl h_agreement hr (by omega) rfl (pa_cons (pe_tup (pa_cons (pv 0) (pa_cons (pv 2) (pa_cons pe_non pa_nil)))) (pa_cons (pe_cl h_opened hr (by omega) rfl (pa_cons (pv 1) (pa_cons (pe_tup (pa_cons (pv 1) (pa_cons (pv 2) (pa_cons pe_non pa_nil)))) pa_nil))) (pa_cons (pv 2) pa_nil)))))) pss_nil)
    (pss_one (ps_ret (pe_cl h_agreement hr (by omega) rfl (pa_cons (pe_cl h_opened hr (by omega) rfl (pa_cons (pv 0) (pa_cons (pe_tup (pa_cons (pv 0) (pa_cons (pv 2) (pa_cons pe_non pa_nil)))) pa_nil))) (pa_cons (pe_tup (pa_cons (pv 1) (pa_cons (pv 2) (pa_cons pe_non pa_nil)))) (pa_cons (pv 2) pa_nil))))))))
def t_alike_ahead (g : G) (n : Nat) : TS :=
    (tSeq (tAsg (tVar 0) (gTup g.K 3 (gCons (gName 3) (gCons (gName 4) (gCons (gName 5) gNil)))))
    (tSeq (tAsg (tVar 1) (gTup g.K 3 (gCons (gName 6) (gCons (gName 7) (gCons (gName 8) gNil)))))
    (tSeq (tIfS (tOr (tB (tCB (rIsi g.K) (tCons (tVar 3) (tCons (tC (.ty "tuple")) tNil)))) (tAnd (tNot (tB (tCB (rIsi g.K) (tCons (tVar 6) (tCons (tC (.ty "tuple")) tNil))))) (tTest (tOp rGtI (tFld g.K (tVar 6) "wide") (tFld g.K (tVar 3) "wide"))))) (tRet (tCall (spAgreement g n) [] E0 (tCons (tVar 0) (tCons (tCall (spOpened g) [] E0 (tCons (tVar 6) (tCons (tTup (tCons (tVar 6) (tCons (tOp rSubI (tVar 7) (tC (.int 1))) (tCons (tVar 8) tNil)))) tNil))) (tCons (tVar 2) tNil))))) tNext)
    (tRet (tCall (spAgreement g n) [] E0 (tCons (tCall (spOpened g) [] E0 (tCons (tVar 3) (tCons (tTup (tCons (tVar 3) (tCons (tOp rSubI (tVar 4) (tC (.int 1))) (tCons (tVar 5) tNil)))) tNil))) (tCons (tVar 1) (tCons (tVar 2) tNil))))))))
theorem d_alike_ahead {P : Program} {w : World} {mg : Str → Option Value} {base : Heap} {g : G} {n : Nat} {A : Around} {outer : List Env} {s : Shared} {H : Hp} {E : XK} {f : Addr} {cdv : Value} (T : Txt g mg)
    (hr : Room (8 + 2 * n) (A.deeper (envOfC "alike_ahead" (defScope s_alike_ahead) s.heap.objs.size f cdv)))
    (h_opened : Cl P w g.K mg base 1 "opened" (spOpened g) [])
    (h_agreement : Cl P w g.K mg base (8 + 2 * n) "agreement" (spAgreement g n) []) :
    PSs (cxOf CX0 P w g.K mg base N_alike_ahead "alike_ahead" (defScope s_alike_ahead) f cdv A outer s H E).nox (defBody s_alike_ahead) (t_alike_ahead g n) :=
    (pss_cons (ps_asg (pv 0) (pg_tup rfl (pgs_cons (pg_name (i := 3) sc_alike_ahead.nd rfl (Or.inl rfl)) (pgs_cons (pg_name (i := 4) sc_alike_ahead.nd rfl (Or.inl rfl)) (pgs_cons (pg_name (i := 5) sc_alike_ahead.nd rfl (Or.inl rfl)) pgs_nil)))))
    (pss_cons (ps_asg (pv 1) (pg_tup rfl (pgs_cons (pg_name (i := 6) sc_alike_ahead.nd rfl (Or.inl rfl)) (pgs_cons (pg_name (i := 7) sc_alike_ahead.nd rfl (Or.inl rfl)) (pgs_cons (pg_name (i := 8) sc_alike_ahead.nd rfl (Or.inl rfl)) pgs_nil)))))
    (pss_cons (ps_if (PW.pt (pw_or (pt_val (pe_callB call_isi (by rfl) T.n_isinstance (by decide +kernel) (pa_cons (pv 3) (pa_cons (pe_bltn (v := .ty "tuple") (by rfl) T.n_tuple (by decide +kernel) rfl) pa_nil)))) (pw_or1 (PW.pt (pw_and (pt_not (pt_val (pe_callB call_isi (by rfl) T.n_isinstance (by decide +kernel) (pa_cons (pv 6) (pa_cons (pe_bltn (v := .ty "tuple") (by rfl) T.n_tuple (by decide +kernel) rfl) pa_nil))))) (pw_and1 (pt_cmpR op_gtI (pe_fld (pv 6) rfl) (pe_fld (pv 3) rfl) (nomark _)))))))) (pss_one (ps_ret (pe_cl h_agreement hr (by omega) rfl (pa_cons (pv 0) (pa_cons (pe_cl h_opened hr (by omega) rfl (pa_cons (pv 6) (pa_cons (pe_tup (pa_cons (pv 6) (pa_cons (pe_op op_subI (pv 7) pe_int) (pa_cons (pv 8) pa_nil)))) pa_nil))) (pa_cons (pv 2) pa_nil)))))) pss_nil)
    (pss_one (ps_ret (pe_cl h_agreement hr (by omega) rfl (pa_cons (pe_cl h_opened hr (by omega) rfl (pa_cons (pv 3) (pa_cons (pe_tup (pa_cons (pv 3) (pa_cons (pe_op op_subI (pv 4) pe_int) (pa_cons (pv 5) pa_nil)))) pa_nil))) (pa_cons (pv 1) (pa_cons (pv 2) pa_nil)))))))))
def t_run_ahead (g : G) : TS :=
    (tSeq (tPar 2 0 (tCons (tC (.int 0)) (tCons (tCall (spFirstUnit g) [] E0 (tCons (tVar 0) tNil)) tNil)))
    (tSeq (tWhile (tAnd (tTest (tOp rLtI (tVar 2) (tVar 1))) (tAnd (tTest (tOp rNotN0 (tVar 0) (tC .non))) (tB (tCB (rIsi g.K) (tCons (tOp (rIxT g.K) (tVar 0) (tC (.int 0))) (tCons (tC (.ty "tuple")) tNil)))))) (tPar 2 0 (tCons (tOp rAddI (tVar 2) (tC (.int 1))) (tCons (tCall (spFirstUnit g) [] E0 (tCons (tOp (rIxT g.K) (tVar 0) (tC (.int 2))) tNil)) tNil))))
    (tRet (tVar 2))))
theorem d_run_ahead {P : Program} {w : World} {mg : Str → Option Value} {base : Heap} {g : G} {A : Around} {outer : List Env} {s : Shared} {H : Hp} {E : XK} {f : Addr} {cdv : Value} (T : Txt g mg)
    (hr : Room 2 (A.deeper (envOfC "run_ahead" (defScope s_run_ahead) s.heap.objs.size f cdv)))
    (h_first_unit : Cl P w g.K mg base 2 "first_unit" (spFirstUnit g) []) :
    PSs (cxOf CX0 P w g.K mg base N_run_ahead "run_ahead" (defScope s_run_ahead) f cdv A outer s H E).nox (defBody s_run_ahead) (t_run_ahead g) :=
    (pss_cons (ps_par (i := 2) (j := 0) rfl sc_run_ahead.nd rfl rfl (by decide) rfl rfl (pa_cons pe_int (pa_cons (pe_cl h_first_unit hr (by omega) rfl (pa_cons (pv 0) pa_nil)) pa_nil)) (by rfl))
    (pss_cons (ps_while PassesOwn.never (PW.pt (pw_and (pt_cmpR op_ltI (pv 2) (pv 1) (nomark _)) (pw_and (pt_cmpR op_notN (pv 0) pe_non (nomark _)) (pw_and1 (pt_val (pe_callB call_isi (by rfl) T.n_isinstance (by decide +kernel) (pa_cons (pe_ix ix_tup (pv 0) pe_int (fun _ _ => rfl)) (pa_cons (pe_bltn (v := .ty "tuple") (by rfl) T.n_tuple (by decide +kernel) rfl) pa_nil)))))))) (pss_one (ps_par (i := 2) (j := 0) rfl sc_run_ahead.nd rfl rfl (by decide) rfl rfl (pa_cons (pe_op op_addI (pv 2) pe_int) (pa_cons (pe_cl h_first_unit hr (by omega) rfl (pa_cons (pe_ix ix_tup (pv 0) pe_int (fun _ _ => rfl)) pa_nil)) pa_nil)) (by rfl))))
    (pss_one (ps_ret (pv 2)))))
def t_agreement (g : G) (n : Nat) : TS :=
    (tSeq (tAsg (tC (.int 0)) (gName 3))
    (tSeq (tWhile (tTest (tOp rLtI (tVar 3) (tVar 2))) (tSeq (tPar 0 1 (tCons (tCall (spFirstUnit g) [] E0 (tCons (tVar 0) tNil)) (tCons (tCall (spFirstUnit g) [] E0 (tCons (tVar 1) tNil)) tNil)))
    (tSeq (tIfS (tOr (tTest (tOp rIsN0 (tVar 0) (tC .non))) (tTest (tOp rIsN0 (tVar 1) (tC .non)))) (tRet (tVar 3)) tNext)
    (tSeq (tAsg (tVar 0) (gTup g.K 3 (gCons (gName 4) (gCons (gName 5) (gCons (gName 6) gNil)))))
    (tSeq (tAsg (tVar 1) (gTup g.K 3 (gCons (gName 7) (gCons (gName 8) (gCons (gName 9) gNil)))))
    (tSeq (tAsg (tCB rMin3 (tCons (tOp rMulI (tVar 5) (tCall (spWidth g) [] E0 (tCons (tVar 4) tNil))) (tCons (tOp rMulI (tVar 8) (tCall (spWidth g) [] E0 (tCons (tVar 7) tNil))) (tCons (tOp rSubI (tVar 2) (tVar 3)) tNil)))) (gName 10))
    (Evl.tCut (tIfS (tAnd (tB (tCB (rIsi g.K) (tCons (tVar 4) (tCons (tC (.ty "tuple")) tNil)))) (tB (tCB (rIsi g.K) (tCons (tVar 7) (tCons (tC (.ty "tuple")) tNil))))) (tPar 11 12 (tCons (tCB rInt1 (tCons (tOp (rEqD g.K) (tVar 4) (tVar 7)) tNil)) (tCons (tC (.int 1)) tNil))) (tIfS (tOr (tB (tCB (rIsi g.K) (tCons (tVar 4) (tCons (tC (.ty "tuple")) tNil)))) (tB (tCB (rIsi g.K) (tCons (tVar 7) (tCons (tC (.ty "tuple")) tNil))))) (tSeq (tAsg (tIf (tB (tCB (rIsi g.K) (tCons (tVar 4) (tCons (tC (.ty "tuple")) tNil)))) (tTup (tCons (tVar 0) (tCons (tVar 7) tNil))) (tTup (tCons (tVar 1) (tCons (tVar 4) tNil)))) (gTup g.K 2 (gCons (gName 13) (gCons (gName 14) gNil))))
    (tSeq (tAsg (tCall (spRunAhead g) [] E0 (tCons (tVar 13) (tCons (tCB rMin2 (tCons (tFld g.K (tVar 14) "wide") (tCons (tOp rSubI (tVar 2) (tVar 3)) tNil))) tNil))) (gName 10))
    (tPar 11 12 (tCons (tCall (spAlikeAhead g n) [] E0 (tCons (tVar 0) (tCons (tVar 1) (tCons (tVar 10) tNil)))) (tCons (tVar 10) tNil))))) (tIfS (tTest (tOp rLtI (tVar 10) (tOp rAddI (tCall (spWidth g) [] E0 (tCons (tVar 4) tNil)) (tCall (spWidth g) [] E0 (tCons (tVar 7) tNil))))) (tPar 11 12 (tCons (tCall (spAlikeAhead g n) [] E0 (tCons (tVar 0) (tCons (tVar 1) (tCons (tVar 10) tNil)))) (tCons (tVar 10) tNil))) (tPar 11 12 (tCons (tCall (spAlikeFor g n) [] E0 (tCons (tVar 4) (tCons (tVar 7) tNil))) (tCons (tOp rAddI (tCall (spWidth g) [] E0 (tCons (tVar 4) tNil)) (tCall (spWidth g) [] E0 (tCons (tVar 7) tNil))) tNil))))))
    (tSeq (tIfS (tTest (tOp rLtI (tVar 11) (tVar 12))) (tRet (tOp rAddI (tVar 3) (tVar 11))) tNext)
    (tSeq (tAsg (tOp rAddI (tVar 3) (tVar 10)) (gName 3))
    (tPar 0 1 (tCons (tCall (spGoneBy g) [] E0 (tCons (tVar 0) (tCons (tVar 10) tNil))) (tCons (tCall (spGoneBy g) [] E0 (tCons (tVar 1) (tCons (tVar 10) tNil))) tNil))))))))))))
    (tRet (tVar 3))))
theorem d_agreement {P : Program} {w : World} {mg : Str → Option Value} {base : Heap} {g : G} {n : Nat} {A : Around} {outer : List Env} {s : Shared} {H : Hp} {E : XK} {f : Addr} {cdv : Value} (T : Txt g mg)
    (hr : Room (7 + 2 * n) (A.deeper (envOfC "agreement" (defScope s_agreement) s.heap.objs.size f cdv)))
    (h_gone_by : Cl P w g.K mg base 6 "gone_by" (spGoneBy g) [])
    (h_alike_ahead : Cl P w g.K mg base (7 + 2 * n) "alike_ahead" (spAlikeAhead g n) [])
    (h_run_ahead : Cl P w g.K mg base 3 "run_ahead" (spRunAhead g) [])
    (h_width : Cl P w g.K mg base 1 "width" (spWidth g) [])
    (h_alike_for : Cl P w g.K mg base (7 + 2 * n) "alike_for" (spAlikeFor g n) [])
    (h_first_unit : Cl P w g.K mg base 2 "first_unit" (spFirstUnit g) []) :
    PSs (cxOf CX0 P w g.K mg base N_agreement "agreement" (defScope s_agreement) f cdv A outer s H E).nox (defBody s_agreement) (t_agreement g n) :=
    (pss_cons (ps_set (i := 3) sc_agreement.nd rfl (Or.inl rfl) pe_int)
    (pss_cons (ps_while PassesOwn.never (pt_cmpR op_ltI (pv 3) (pv 2) (nomark _)) (pss_cons (ps_par (i := 0) (j := 1) rfl sc_agreement.nd rfl rfl (by decide) rfl rfl (pa_cons (pe_cl h_first_unit hr (by omega) rfl (pa_cons (pv 0) pa_nil)) (pa_cons (pe_cl h_first_unit hr (by omega) rfl (pa_cons (pv 1) pa_nil)) pa_nil)) (by rfl))
    (pss_cons (ps_if (PW.pt (pw_or (pt_cmpR op_isN (pv 0) pe_non (nomark _)) (pw_or1 (pt_cmpR op_isN (pv 1) pe_non (nomark _))))) (pss_one (ps_ret (pv 3))) pss_nil)
    (pss_cons (ps_asg (pv 0) (pg_tup rfl (pgs_cons (pg_name (i := 4) sc_agreement.nd rfl (Or.inl rfl)) (pgs_cons (pg_name (i := 5) sc_agreement.nd rfl (Or.inl rfl)) (pgs_cons (pg_name (i := 6) sc_agreement.nd rfl (Or.inl rfl)) pgs_nil)))))
    (pss_cons (ps_asg (pv 1) (pg_tup rfl (pgs_cons (pg_name (i := 7) sc_agreement.nd rfl (Or.inl rfl)) (pgs_cons (pg_name (i := 8) sc_agreement.nd rfl (Or.inl rfl)) (pgs_cons (pg_name (i := 9) sc_agreement.nd rfl (Or.inl rfl)) pgs_nil)))))
    (pss_cons (ps_set (i := 10) sc_agreement.nd rfl (Or.inl rfl) (pe_callB (cr_min3I rfl) (by rfl) T.n_min (by decide +kernel) (pa_cons (pe_op op_mulI (pv 5) (pe_cl h_width hr (by omega) rfl (pa_cons (pv 4) pa_nil))) (pa_cons (pe_op op_mulI (pv 8) (pe_cl h_width hr (by omega) rfl (pa_cons (pv 7) pa_nil))) (pa_cons (pe_op op_subI (pv 2) (pv 3)) pa_nil)))))
    (Evl.pss_cut (ps_if (PW.pt (pw_and (pt_val (pe_callB call_isi (by rfl) T.n_isinstance (by decide +kernel) (pa_cons (pv 4) (pa_cons (pe_bltn (v := .ty "tuple") (by rfl) T.n_tuple (by decide +kernel) rfl) pa_nil)))) (pw_and1 (pt_val (pe_callB call_isi (by rfl) T.n_isinstance (by decide +kernel) (pa_cons (pv 7) (pa_cons (pe_bltn (v := .ty "tuple") (by rfl) T.n_tuple (by decide +kernel) rfl) pa_nil))))))) (pss_one (ps_par (i := 11) (j := 12) rfl sc_agreement.nd rfl rfl (by decide) rfl rfl (pa_cons (pe_callTy call_int1 (by rfl) T.n_int (by decide +kernel) (pa_cons (pe_cmpR (op_eqD hr.units) (pv 4) (pv 7) (nomark _)) pa_nil)) (pa_cons pe_int pa_nil)) (by rfl))) (pss_one (ps_if (PW.pt (pw_or (pt_val (pe_callB call_isi (by rfl) T.n_isinstance (by decide +kernel) (pa_cons (pv 4) (pa_cons (pe_bltn (v := .ty "tuple") (by rfl) T.n_tuple (by decide +kernel) rfl) pa_nil)))) (pw_or1 (pt_val (pe_callB call_isi (by rfl) T.n_isinstance (by decide +kernel) (pa_cons (pv 7) (pa_cons (pe_bltn (v := .ty "tuple") (by rfl) T.n_tuple (by decide +kernel) rfl) pa_nil))))))) (pss_cons (ps_asg (pe_ifExp (pt_val (pe_callB call_isi (by rfl) T.n_isinstance (by decide +kernel) (pa_cons (pv 4) (pa_cons (pe_bltn (v := .ty "tuple") (by rfl) T.n_tuple (by decide +kernel) rfl) pa_nil)))) (pe_tup (pa_cons (pv 0) (pa_cons (pv 7) pa_nil))) (pe_tup (pa_cons (pv 1) (pa_cons (pv 4) pa_nil)))) (pg_tup rfl (pgs_cons (pg_name (i := 13) sc_agreement.nd rfl (Or.inl rfl)) (pgs_cons (pg_name (i := 14) sc_agreement.nd rfl (Or.inl rfl)) pgs_nil))))
    (pss_cons (ps_set (i := 10) sc_agreement.nd rfl (Or.inl rfl) (pe_cl h_run_ahead hr (by omega) rfl (pa_cons (pv 13) (pa_cons (pe_callB (cr_min2 rfl) (by rfl) T.n_min (by decide +kernel) (pa_cons (pe_fld (pv 14) rfl) (pa_cons (pe_op op_subI (pv 2) (pv 3)) pa_nil))) pa_nil))))
    (pss_one (ps_par (i := 11) (j := 12) rfl sc_agreement.nd rfl rfl (by decide) rfl rfl (pa_cons (pe_cl h_alike_ahead hr (by omega) rfl (pa_cons (pv 0) (pa_cons (pv 1) (pa_cons (pv 10) pa_nil)))) (pa_cons (pv 10) pa_nil)) (by rfl))))) (pss_one (ps_if (pt_cmpR op_ltI (pv 10) (pe_op op_addI (pe_cl h_width hr (by omega) rfl (pa_cons (pv 4) pa_nil)) (pe_cl h_width hr (by omega) rfl (pa_cons (pv 7) pa_nil))) (nomark _)) (pss_one (ps_par (i := 11) (j := 12) rfl sc_agreement.nd rfl rfl (by decide) rfl rfl (pa_cons (pe_cl h_alike_ahead hr (by omega) rfl (pa_cons (pv 0) (pa_cons (pv 1) (pa_cons (pv 10) pa_nil)))) (pa_cons (pv 10) pa_nil)) (by rfl))) (pss_one (ps_par (i := 11) (j := 12) rfl sc_agreement.nd rfl rfl (by decide) rfl rfl (pa_cons (pe_cl h_alike_for hr (by omega) rfl (pa_cons (pv 4) (pa_cons (pv 7) pa_nil))) (pa_cons (pe_op op_addI (pe_cl h_width hr (by omega) rfl (pa_cons (pv 4) pa_nil)) (pe_cl h_width hr (by omega) rfl (pa_cons (pv 7) pa_nil))) pa_nil)) (by rfl))))))))
    (pss_cons (ps_if (pt_cmpR op_ltI (pv 11) (pv 12) (nomark _)) (pss_one (ps_ret (pe_op op_addI (pv 3) (pv 11)))) pss_nil)
    (pss_cons (ps_set (i := 3) sc_agreement.nd rfl (Or.inl rfl) (pe_op op_addI (pv 3) (pv 10)))
    (pss_one (ps_par (i := 0) (j := 1) rfl sc_agreement.nd rfl rfl (by decide) rfl rfl (pa_cons (pe_cl h_gone_by hr (by omega) rfl (pa_cons (pv 0) (pa_cons (pv 10) pa_nil))) (pa_cons (pe_cl h_gone_by hr (by omega) rfl (pa_cons (pv 1) (pa_cons (pv 10) pa_nil))) pa_nil)) (by rfl))))))))))))
    (pss_one (ps_ret (pv 3)))))
def t_part_of (g : G) : TS :=
    (tSeq (tAsg (tMake g.part (spPartInit g) [.non] E0 (tCons (tTup tNil) (tCons (tC .non) (tCons (tC .non) (tCons (tC (.int 1)) tNil))))) (gName 2))
    (tSeq (tWhile (tTest (tOp rGtI (tVar 1) (tC (.int 0)))) (tSeq (tAsg (tVar 0) (gTup g.K 3 (gCons (gName 3) (gCons (gName 4) (gCons (gName 5) gNil)))))
    (tSeq (tAsg (tCB rMin2 (tCons (tVar 4) (tCons (tOp rDivI (tVar 1) (tCall (spWidth g) [] E0 (tCons (tVar 3) tNil))) tNil))) (gName 6))
    (tIfS (tTest (tOp rEqS (tVar 4) (tC (.int 0)))) (tAsg (tVar 5) (gName 0)) (tIfS (tTest (tOp rEqS (tVar 6) (tC (.int 0)))) (tAsg (tCall (spOpened g) [] E0 (tCons (tVar 3) (tCons (tTup (tCons (tVar 3) (tCons (tOp rSubI (tVar 4) (tC (.int 1))) (tCons (tVar 5) tNil)))) tNil))) (gName 0)) (tSeq (tAsg (tIf (tB (tCB (rIsi g.K) (tCons (tVar 3) (tCons (tC (.ty "tuple")) tNil)))) (tMake g.part (spPartInit g) [.non] E0 (tCons (tTup (tCons (tVar 3) tNil)) (tCons (tC .non) (tCons (tC .non) (tCons (tC (.int 1)) tNil))))) (tVar 3)) (gName 7))
    (tSeq (tAsg (tCall (spJoined g) [] E0 (tCons (tVar 2) (tCons (tCall (spRepeated g) [] E0 (tCons (tVar 7) (tCons (tVar 6) tNil))) tNil))) (gName 2))
    (tSeq (tAsg (tOp rSubI (tVar 1) (tOp rMulI (tVar 6) (tCall (spWidth g) [] E0 (tCons (tVar 3) tNil)))) (gName 1))
    (tAsg (tTup (tCons (tVar 3) (tCons (tOp rSubI (tVar 4) (tVar 6)) (tCons (tVar 5) tNil)))) (gName 0))))))))))
    (tRet (tVar 2))))
theorem d_part_of {P : Program} {w : World} {mg : Str → Option Value} {base : Heap} {g : G} {A : Around} {outer : List Env} {s : Shared} {H : Hp} {E : XK} {f : Addr} {cdv : Value} (T : Txt g mg)
    (hr : Room 3 (A.deeper (envOfC "part_of" (defScope s_part_of) s.heap.objs.size f cdv)))
    (h_opened : Cl P w g.K mg base 1 "opened" (spOpened g) [])
    (h_width : Cl P w g.K mg base 1 "width" (spWidth g) [])
    (h_repeated : Cl P w g.K mg base 3 "repeated" (spRepeated g) [])
    (h_joined : Cl P w g.K mg base 3 "joined" (spJoined g) [])
    (h_Part_d : Mkl P w g.K mg base 1 "Part" g.part (spPartInit g) [.non]) :
    PSs (cxOf CX0 P w g.K mg base N_part_of "part_of" (defScope s_part_of) f cdv A outer s H E).nox (defBody s_part_of) (t_part_of g) :=
    (pss_cons (ps_set (i := 2) sc_part_of.nd rfl (Or.inl rfl) (pe_mkl h_Part_d hr (by omega) rfl (pa_cons (pe_tup pa_nil) (pa_cons pe_non (pa_cons pe_non (pa_cons pe_int pa_nil))))))
    (pss_cons (ps_while PassesOwn.never (pt_cmpR op_gtI (pv 1) pe_int (nomark _)) (pss_cons (ps_asg (pv 0) (pg_tup rfl (pgs_cons (pg_name (i := 3) sc_part_of.nd rfl (Or.inl rfl)) (pgs_cons (pg_name (i := 4) sc_part_of.nd rfl (Or.inl rfl)) (pgs_cons (pg_name (i := 5) sc_part_of.nd rfl (Or.inl rfl)) pgs_nil)))))
    (pss_cons (ps_set (i := 6) sc_part_of.nd rfl (Or.inl rfl) (pe_callB (cr_min2 rfl) (by rfl) T.n_min (by decide +kernel) (pa_cons (pv 4) (pa_cons (pe_op op_divI (pv 1) (pe_cl h_width hr (by omega) rfl (pa_cons (pv 3) pa_nil))) pa_nil))))
    (pss_one (ps_if (pt_cmpR op_eqS (pv 4) pe_int (nomark _)) (pss_one (ps_set (i := 0) sc_part_of.nd rfl (Or.inl rfl) (pv 5))) (pss_one (ps_if (pt_cmpR op_eqS (pv 6) pe_int (nomark _)) (pss_one (ps_set (i := 0) sc_part_of.nd rfl (Or.inl rfl) (pe_cl h_opened hr (by omega) rfl (pa_cons (pv 3) (pa_cons (pe_tup (pa_cons (pv 3) (pa_cons (pe_op op_subI (pv 4) pe_int) (pa_cons (pv 5) pa_nil)))) pa_nil))))) (pss_cons (ps_set (i := 7) sc_part_of.nd rfl (Or.inl rfl) (pe_ifExp (pt_val (pe_callB call_isi (by rfl) T.n_isinstance (by decide +kernel) (pa_cons (pv 3) (pa_cons (pe_bltn (v := .ty "tuple") (by rfl) T.n_tuple (by decide +kernel) rfl) pa_nil)))) (pe_mkl h_Part_d hr (by omega) rfl (pa_cons (pe_tup (pa_cons (pv 3) pa_nil)) (pa_cons pe_non (pa_cons pe_non (pa_cons pe_int pa_nil))))) (pv 3)))
    (pss_cons (ps_set (i := 2) sc_part_of.nd rfl (Or.inl rfl) (pe_cl h_joined hr (by omega) rfl (pa_cons (pv 2) (pa_cons (pe_cl h_repeated hr (by omega) rfl (pa_cons (pv 7) (pa_cons (pv 6) pa_nil))) pa_nil))))
    (pss_cons (ps_set (i := 1) sc_part_of.nd rfl (Or.inl rfl) (pe_op op_subI (pv 1) (pe_op op_mulI (pv 6) (pe_cl h_width hr (by omega) rfl (pa_cons (pv 3) pa_nil)))))
    (pss_one (ps_set (i := 0) sc_part_of.nd rfl (Or.inl rfl) (pe_tup (pa_cons (pv 3) (pa_cons (pe_op op_subI (pv 4) (pv 6)) (pa_cons (pv 5) pa_nil))))))))))))))))
    (pss_one (ps_ret (pv 2)))))
def t_check_index (g : G) : TS :=
    (tIfS (tNot (tB (tCall spIsBetween [] E0 (tCons (tVar 0) (tCons (tVar 1) (tCons (tVar 2) tNil)))))) tNever tNext)
theorem d_check_index {P : Program} {w : World} {mg : Str → Option Value} {base : Heap} {g : G} {A : Around} {outer : List Env} {s : Shared} {H : Hp} {E : XK} {f : Addr} {cdv : Value} (T : Txt g mg)
    (hr : Room 2 (A.deeper (envOfC "check_index" (defScope s_check_index) s.heap.objs.size f cdv)))
    (h_is_between : Cl P w g.K mg base 2 "is_between" spIsBetween []) :
    PSs (cxOf CX0 P w g.K mg base N_check_index "check_index" (defScope s_check_index) f cdv A outer s H E).nox (defBody s_check_index) (t_check_index g) :=
    (pss_one (ps_if (pt_not (pt_val (pe_cl h_is_between hr (by omega) rfl (pa_cons (pv 0) (pa_cons (pv 1) (pa_cons (pv 2) pa_nil)))))) (pss_one ps_never) pss_nil))
def t_Made_init (g : G) : TS :=
    (tSeq (sFld g.K (tVar 0) (tVar 1) "part")
    (tSeq (sFld g.K (tVar 0) (tVar 2) "nesting")
    (sFld g.K (tVar 0) (tVar 3) "pieces")))
theorem d_Made_init {P : Program} {w : World} {mg : Str → Option Value} {base : Heap} {g : G} {A : Around} {outer : List Env} {s : Shared} {H : Hp} {E : XK} {f : Addr} {cdv : Value} (T : Txt g mg)
    (hr : Room 0 (A.deeper (envOfC "Made.__init__" (defScope s_Made_init) s.heap.objs.size f cdv))) :
    PSs (cxOf CX0 P w g.K mg base N_Made_init "Made.__init__" (defScope s_Made_init) f cdv A outer s H E).nox (defBody s_Made_init) (t_Made_init g) :=
    (pss_cons (ps_fld (pv 0) (pv 1) rfl)
    (pss_cons (ps_fld (pv 0) (pv 2) rfl)
    (pss_one (ps_fld (pv 0) (pv 3) rfl))))
def t_Word_init (g : G) : TS :=
    (tIfS (tB (tCB (rIsi g.K) (tCons (tVar 1) (tCons (tC (.ref g.made)) tNil)))) (tSeq (sFld g.K (tVar 0) (tFld g.K (tVar 1) "part") "part")
    (tSeq (sFld g.K (tVar 0) (tFld g.K (tVar 1) "nesting") "nesting")
    (sFld g.K (tVar 0) (tFld g.K (tVar 1) "pieces") "pieces"))) (tSeq (tIfS (tOr (tNot (tB (tCB (rIsi g.K) (tCons (tVar 1) (tCons (tC (.ty "list")) tNil))))) (tNot (tB (tCB (rAll g.K) (tCons (tLc (iList g.K (tVar 1)) (gName 3) tYes (tCall spIsEntry [] E0 (tCons (tVar 3) tNil)) [3]) tNil))))) tNever tNext)
    (tSeq (sFld g.K (tVar 0) (tC (.int 0)) "nesting")
    (tSeq (sFld g.K (tVar 0) (tC (.int 1)) "pieces")
    (tSeq (sFld g.K (tVar 0) (tMake g.part (spPartInit g) [.non] E0 (tCons (tTup tNil) (tCons (tC .non) (tCons (tC .non) (tCons (tC (.int 1)) tNil))))) "part")
    (tFor (iRng3 (tCons (tC (.int 0)) (tCons (tCB (rLenS g.K) (tCons (tVar 1) tNil)) (tCons (tC (.int 60)) tNil)))) (gName 2) (sFld g.K (tVar 0) (tCall (spJoined g) [] E0 (tCons (tFld g.K (tVar 0) "part") (tCons (tMake g.part (spPartInit g) [.non] E0 (tCons (tCB (rTupOf g.K) (tCons (tSl (rSlL g.K) (tVar 1) (tPart (tVar 2)) (tPart (tOp rAddI (tVar 2) (tC (.int 60))))) tNil)) (tCons (tC .non) (tCons (tC .non) (tCons (tC (.int 1)) tNil))))) tNil))) "part")))))))
theorem d_Word_init {P : Program} {w : World} {mg : Str → Option Value} {base : Heap} {g : G} {A : Around} {outer : List Env} {s : Shared} {H : Hp} {E : XK} {f : Addr} {cdv : Value} (T : Txt g mg)
    (hr : Room 3 (A.deeper (envOfC "Word.__init__" (defScope s_Word_init) s.heap.objs.size f cdv)))
    (h_Part_d : Mkl P w g.K mg base 1 "Part" g.part (spPartInit g) [.non])
    (h_joined : Cl P w g.K mg base 3 "joined" (spJoined g) [])
    (h_is_entry : Cl P w g.K mg base 2 "is_entry" spIsEntry []) :
    PSs (cxOf CX0 P w g.K mg base N_Word_init "Word.__init__" (defScope s_Word_init) f cdv A outer s H E).nox (defBody s_Word_init) (t_Word_init g) :=
    (pss_one (ps_if (pt_val (pe_callB call_isi (by rfl) T.n_isinstance (by decide +kernel) (pa_cons (pv 1) (pa_cons (pe_gc rfl T.c_Made) pa_nil)))) (pss_cons (ps_fld (pv 0) (pe_fld (pv 1) rfl) rfl)
    (pss_cons (ps_fld (pv 0) (pe_fld (pv 1) rfl) rfl)
    (pss_one (ps_fld (pv 0) (pe_fld (pv 1) rfl) rfl)))) (pss_cons (ps_if (PW.pt (pw_or (pt_not (pt_val (pe_callB call_isi (by rfl) T.n_isinstance (by decide +kernel) (pa_cons (pv 1) (pa_cons (pe_bltn (v := .ty "list") (by rfl) T.n_list (by decide +kernel) rfl) pa_nil))))) (pw_or1 (pt_not (pt_val (pe_callB (cr_all rfl) (by rfl) T.n_all (by decide +kernel) (pa_cons (pe_lc (own := [("entry", 3)]) (g := gName 3) (tt := tYes) rfl sc_Word_init.nd (pi_list (pv 1)) (blkOk_by (N := N_Word_init) (sc := defScope s_Word_init) (by decide +kernel)) (fun _ _ _ _ _ => pg_name (i := 3) sc_Word_init.nd rfl (Or.inl rfl)) (fun _ _ _ _ _ => pts_nil) (fun _ _ _ _ _ => (pe_cl h_is_entry hr (by omega) rfl (pa_cons (pv 3) pa_nil)))) pa_nil))))))) (pss_one ps_never) pss_nil)
    (pss_cons (ps_fld (pv 0) pe_int rfl)
    (pss_cons (ps_fld (pv 0) pe_int rfl)
    (pss_cons (ps_fld (pv 0) (pe_mkl h_Part_d hr (by omega) rfl (pa_cons (pe_tup pa_nil) (pa_cons pe_non (pa_cons pe_non (pa_cons pe_int pa_nil))))) rfl)
    (pss_one (ps_for PassesOwn.never rfl (pi_range3 rfl T.n_range (pa_cons pe_int (pa_cons (pe_callB call_len_seq (by rfl) T.n_len PySem.boot_len (pa_cons (pv 1) pa_nil)) (pa_cons (pe_gc rfl T.c_MOST_IN_ROW) pa_nil)))) (pg_name (i := 2) sc_Word_init.nd rfl (Or.inl rfl)) (pss_one (ps_fld (pv 0) (pe_cl h_joined hr (by omega) rfl (pa_cons (pe_fld (pv 0) rfl) (pa_cons (pe_mkl h_Part_d hr (by omega) rfl (pa_cons (pe_callTy call_tuple_of (by rfl) T.n_tuple (by decide +kernel) (pa_cons (pe_slice sl_list (pv 1) (po_some (pv 2)) (po_some (pe_op op_addI (pv 2) (pe_gc rfl T.c_MOST_IN_ROW)))) pa_nil)) (pa_cons pe_non (pa_cons pe_non (pa_cons pe_int pa_nil))))) pa_nil))) rfl))))))))))
def t_Word_add (g : G) : TS :=
    (tSeq (tAsg (tOp rAddI (tFld g.K (tVar 0) "pieces") (tFld g.K (tVar 1) "pieces")) (gName 2))
    (tSeq (tIfS (tTest (tOp rGtI (tVar 2) (tC (.int 1000)))) tNever tNext)
    (tRet (tMake g.word (spWordInit g) [] E0 (tCons (tMake g.made (spMadeInit g) [] E0 (tCons (tCall (spJoined g) [] E0 (tCons (tFld g.K (tVar 0) "part") (tCons (tFld g.K (tVar 1) "part") tNil))) (tCons (tCB (rMax g.K) (tCons (tLst (tCons (tFld g.K (tVar 0) "nesting") (tCons (tFld g.K (tVar 1) "nesting") tNil))) tNil)) (tCons (tVar 2) tNil)))) tNil)))))
theorem d_Word_add {P : Program} {w : World} {mg : Str → Option Value} {base : Heap} {g : G} {A : Around} {outer : List Env} {s : Shared} {H : Hp} {E : XK} {f : Addr} {cdv : Value} (T : Txt g mg)
    (hr : Room 5 (A.deeper (envOfC "Word.__add__" (defScope s_Word_add) s.heap.objs.size f cdv)))
    (h_joined : Cl P w g.K mg base 3 "joined" (spJoined g) [])
    (h_Made : Mkl P w g.K mg base 1 "Made" g.made (spMadeInit g) [])
    (h_Word : Mkl P w g.K mg base 4 "Word" g.word (spWordInit g) []) :
    PSs (cxOf CX0 P w g.K mg base N_Word_add "Word.__add__" (defScope s_Word_add) f cdv A outer s H E).nox (defBody s_Word_add) (t_Word_add g) :=
    (pss_cons (ps_set (i := 2) sc_Word_add.nd rfl (Or.inl rfl) (pe_op op_addI (pe_fld (pv 0) rfl) (pe_fld (pv 1) rfl)))
    (pss_cons (ps_if (pt_cmpR op_gtI (pv 2) (pe_gc rfl T.c_MOST_PIECES) (nomark _)) (pss_one ps_never) pss_nil)
    (pss_one (ps_ret (pe_mkl h_Word hr (by omega) rfl (pa_cons (pe_mkl h_Made hr (by omega) rfl (pa_cons (pe_cl h_joined hr (by omega) rfl (pa_cons (pe_fld (pv 0) rfl) (pa_cons (pe_fld (pv 1) rfl) pa_nil))) (pa_cons (pe_callB (cr_max rfl) (by rfl) T.n_max (by decide +kernel) (pa_cons (pe_lst (pa_cons (pe_fld (pv 0) rfl) (pa_cons (pe_fld (pv 1) rfl) pa_nil))) pa_nil)) (pa_cons (pv 2) pa_nil)))) pa_nil))))))
def t_Word_mul (g : G) : TS :=
    (tSeq (tIfS (tNot (tB (tCall spIsBetween [] E0 (tCons (tVar 1) (tCons (tC (.int 0)) (tCons (tVar 1) tNil)))))) tNever tNext)
    (tSeq (tIfS (tTest (tOp rEqS (tFld g.K (tVar 0) "nesting") (tC (.int 6)))) tNever tNext)
    (tRet (tMake g.word (spWordInit g) [] E0 (tCons (tMake g.made (spMadeInit g) [] E0 (tCons (tCall (spRepeated g) [] E0 (tCons (tFld g.K (tVar 0) "part") (tCons (tVar 1) tNil))) (tCons (tOp rAddI (tFld g.K (tVar 0) "nesting") (tC (.int 1))) (tCons (tFld g.K (tVar 0) "pieces") tNil)))) tNil)))))
theorem d_Word_mul {P : Program} {w : World} {mg : Str → Option Value} {base : Heap} {g : G} {A : Around} {outer : List Env} {s : Shared} {H : Hp} {E : XK} {f : Addr} {cdv : Value} (T : Txt g mg)
    (hr : Room 5 (A.deeper (envOfC "Word.__mul__" (defScope s_Word_mul) s.heap.objs.size f cdv)))
    (h_repeated : Cl P w g.K mg base 3 "repeated" (spRepeated g) [])
    (h_Made : Mkl P w g.K mg base 1 "Made" g.made (spMadeInit g) [])
    (h_Word : Mkl P w g.K mg base 4 "Word" g.word (spWordInit g) [])
    (h_is_between : Cl P w g.K mg base 2 "is_between" spIsBetween []) :
    PSs (cxOf CX0 P w g.K mg base N_Word_mul "Word.__mul__" (defScope s_Word_mul) f cdv A outer s H E).nox (defBody s_Word_mul) (t_Word_mul g) :=
    (pss_cons (ps_if (pt_not (pt_val (pe_cl h_is_between hr (by omega) rfl (pa_cons (pv 1) (pa_cons pe_int (pa_cons (pv 1) pa_nil)))))) (pss_one ps_never) pss_nil)
    (pss_cons (ps_if (pt_cmpR op_eqS (pe_fld (pv 0) rfl) (pe_gc rfl T.c_MOST_DEPTH) (nomark _)) (pss_one ps_never) pss_nil)
    (pss_one (ps_ret (pe_mkl h_Word hr (by omega) rfl (pa_cons (pe_mkl h_Made hr (by omega) rfl (pa_cons (pe_cl h_repeated hr (by omega) rfl (pa_cons (pe_fld (pv 0) rfl) (pa_cons (pv 1) pa_nil))) (pa_cons (pe_op op_addI (pe_fld (pv 0) rfl) pe_int) (pa_cons (pe_fld (pv 0) rfl) pa_nil)))) pa_nil))))))
def t_length (g : G) : TS :=
    (tRet (tFld g.K (tFld g.K (tVar 0) "part") "wide"))
theorem d_length {P : Program} {w : World} {mg : Str → Option Value} {base : Heap} {g : G} {A : Around} {outer : List Env} {s : Shared} {H : Hp} {E : XK} {f : Addr} {cdv : Value} (T : Txt g mg)
    (hr : Room 0 (A.deeper (envOfC "Word.length" (defScope s_length) s.heap.objs.size f cdv))) :
    PSs (cxOf CX0 P w g.K mg base N_length "Word.length" (defScope s_length) f cdv A outer s H E).nox (defBody s_length) (t_length g) :=
    (pss_one (ps_ret (pe_fld (pe_fld (pv 0) rfl) rfl)))
def t_agreeing (g : G) (n : Nat) : TS :=
    (tSeq (tDrop (tCall spCheckIndex [] E0 (tCons (tVar 1) (tCons (tC (.int 0)) (tCons (tMeth g.word "length" (spLength g) [] E0 (tVar 0) tNil) tNil)))))
    (tSeq (tDrop (tCall spCheckIndex [] E0 (tCons (tVar 3) (tCons (tC (.int 0)) (tCons (tMeth g.word "length" (spLength g) [] E0 (tVar 2) tNil) tNil)))))
    (tSeq (tAsg (tCB rMin2 (tCons (tOp rSubI (tMeth g.word "length" (spLength g) [] E0 (tVar 0) tNil) (tVar 1)) (tCons (tOp rSubI (tMeth g.word "length" (spLength g) [] E0 (tVar 2) tNil) (tVar 3)) tNil))) (gName 4))
    (tRet (tCall (spAgreement g n) [] E0 (tCons (tCall (spBehind g) [] E0 (tCons (tTup (tCons (tFld g.K (tVar 0) "part") (tCons (tC (.int 1)) (tCons (tC .non) tNil)))) (tCons (tVar 1) tNil))) (tCons (tCall (spBehind g) [] E0 (tCons (tTup (tCons (tFld g.K (tVar 2) "part") (tCons (tC (.int 1)) (tCons (tC .non) tNil)))) (tCons (tVar 3) tNil))) (tCons (tVar 4) tNil))))))))
theorem d_agreeing {P : Program} {w : World} {mg : Str → Option Value} {base : Heap} {g : G} {n : Nat} {A : Around} {outer : List Env} {s : Shared} {H : Hp} {E : XK} {f : Addr} {cdv : Value} (T : Txt g mg)
    (hr : Room (8 + 2 * n) (A.deeper (envOfC "agreeing" (defScope s_agreeing) s.heap.objs.size f cdv)))
    (h_behind : Cl P w g.K mg base 2 "behind" (spBehind g) [])
    (h_agreement : Cl P w g.K mg base (8 + 2 * n) "agreement" (spAgreement g n) [])
    (h_length : Mtl P w g.K mg base 1 g.word "length" (spLength g))
    (h_check_index : Cl P w g.K mg base 3 "check_index" spCheckIndex []) :
    PSs (cxOf CX0 P w g.K mg base N_agreeing "agreeing" (defScope s_agreeing) f cdv A outer s H E).nox (defBody s_agreeing) (t_agreeing g n) :=
    (pss_cons (ps_expr (pe_cl h_check_index hr (by omega) rfl (pa_cons (pv 1) (pa_cons pe_int (pa_cons (pe_mtl0 h_length hr (by omega) (pv 0)) pa_nil)))))
    (pss_cons (ps_expr (pe_cl h_check_index hr (by omega) rfl (pa_cons (pv 3) (pa_cons pe_int (pa_cons (pe_mtl0 h_length hr (by omega) (pv 2)) pa_nil)))))
    (pss_cons (ps_set (i := 4) sc_agreeing.nd rfl (Or.inl rfl) (pe_callB (cr_min2 rfl) (by rfl) T.n_min (by decide +kernel) (pa_cons (pe_op op_subI (pe_mtl0 h_length hr (by omega) (pv 0)) (pv 1)) (pa_cons (pe_op op_subI (pe_mtl0 h_length hr (by omega) (pv 2)) (pv 3)) pa_nil))))
    (pss_one (ps_ret (pe_cl h_agreement hr (by omega) rfl (pa_cons (pe_cl h_behind hr (by omega) rfl (pa_cons (pe_tup (pa_cons (pe_fld (pv 0) rfl) (pa_cons pe_int (pa_cons pe_non pa_nil)))) (pa_cons (pv 1) pa_nil))) (pa_cons (pe_cl h_behind hr (by omega) rfl (pa_cons (pe_tup (pa_cons (pe_fld (pv 2) rfl) (pa_cons pe_int (pa_cons pe_non pa_nil)))) (pa_cons (pv 3) pa_nil))) (pa_cons (pv 4) pa_nil)))))))))
def t_cell (g : G) : TS :=
    (tSeq (tIfS (tTest (tOp rLtI (tVar 1) (tCB (rLenS g.K) (tCons (tVar 0) tNil)))) (tRet (tOp (rIxL g.K) (tVar 0) (tVar 1))) tNext)
    (tRet (tOp rAddI (tVar 1) (tC (.int 1)))))
theorem d_cell {P : Program} {w : World} {mg : Str → Option Value} {base : Heap} {g : G} {A : Around} {outer : List Env} {s : Shared} {H : Hp} {E : XK} {f : Addr} {cdv : Value} (T : Txt g mg)
    (hr : Room 0 (A.deeper (envOfC "_law_cell" (defScope s_cell) s.heap.objs.size f cdv))) :
    PSs (cxOf CX0 P w g.K mg base N_cell "_law_cell" (defScope s_cell) f cdv A outer s H E).nox (defBody s_cell) (t_cell g) :=
    (pss_cons (ps_if (pt_cmpR op_ltI (pv 1) (pe_callB call_len_seq (by rfl) T.n_len PySem.boot_len (pa_cons (pv 0) pa_nil)) (nomark _)) (pss_one (ps_ret (pe_ix ix_list (pv 0) (pv 1) (fun _ _ => rfl)))) pss_nil)
    (pss_one (ps_ret (pe_op op_addI (pv 1) pe_int))))
def t_digits (g : G) : TS :=
    (tSeq (tAsg (tLst tNil) (gName 2))
    (tSeq (tAsg (tC (.int 0)) (gName 3))
    (tSeq (tIfS (tTest (tOp rGeI (tVar 0) (tOp rPowI (tC (.int 10)) (tC (.int 18))))) (tAsg (tVar 0) (gName 3)) tNext)
    (tSeq (tAsg (tOp rModI (tCB rInt1 (tCons (tVar 0) tNil)) (tC (.int 2147483647))) (gName 4))
    (tSeq (tFor (iRng1 (tCons (tVar 1) tNil)) (gName 5) (tSeq (tAsg (tOp rModI (tCB rInt1 (tCons (tOp rAddI (tOp rAddI (tOp rMulI (tVar 4) (tC (.int 48271))) (tOp rMulI (tC (.int 30103)) (tVar 5))) (tC (.int 11))) tNil)) (tC (.int 2147483647))) (gName 4))
    (tSeq (tAsg (tOp rModI (tCB rInt1 (tCons (tOp rMulI (tVar 4) (tOp rAddI (tOp rDivI (tVar 4) (tC (.int 1009))) (tC (.int 69621)))) tNil)) (tC (.int 2147483629))) (gName 4))
    (tIfS (tTest (tOp rGtI (tVar 3) (tC (.int 0)))) (tSeq (tDrop (tBM g.K "list" rAppend (tVar 2) (tCons (tOp rModI (tCB rInt1 (tCons (tVar 3) tNil)) (tC (.int 1009))) tNil)))
    (tAsg (tOp rDivI (tVar 3) (tC (.int 1009))) (gName 3))) (tDrop (tBM g.K "list" rAppend (tVar 2) (tCons (tOp rModI (tCB rInt1 (tCons (tOp rDivI (tVar 4) (tC (.int 7))) tNil)) (tC (.int 1009))) tNil)))))))
    (tRet (tVar 2)))))))
theorem d_digits {P : Program} {w : World} {mg : Str → Option Value} {base : Heap} {g : G} {A : Around} {outer : List Env} {s : Shared} {H : Hp} {E : XK} {f : Addr} {cdv : Value} (T : Txt g mg)
    (hr : Room 0 (A.deeper (envOfC "_law_digits" (defScope s_digits) s.heap.objs.size f cdv))) :
    PSs (cxOf CX0 P w g.K mg base N_digits "_law_digits" (defScope s_digits) f cdv A outer s H E).nox (defBody s_digits) (t_digits g) :=
    (pss_cons (ps_set (i := 2) sc_digits.nd rfl (Or.inl rfl) (pe_lst pa_nil))
    (pss_cons (ps_set (i := 3) sc_digits.nd rfl (Or.inl rfl) pe_int)
    (pss_cons (ps_if (pt_cmpR op_geI (pv 0) (pe_op op_powI pe_int pe_int) (nomark _)) (pss_one (ps_set (i := 3) sc_digits.nd rfl (Or.inl rfl) (pv 0))) pss_nil)
    (pss_cons (ps_set (i := 4) sc_digits.nd rfl (Or.inl rfl) (pe_op op_modI (pe_callTy call_int1 (by rfl) T.n_int (by decide +kernel) (pa_cons (pv 0) pa_nil)) pe_int))
    (pss_cons (ps_for PassesOwn.never rfl (pi_range1 rfl T.n_range (pa_cons (pv 1) pa_nil)) (pg_name (i := 5) sc_digits.nd rfl (Or.inl rfl)) (pss_cons (ps_set (i := 4) sc_digits.nd rfl (Or.inl rfl) (pe_op op_modI (pe_callTy call_int1 (by rfl) T.n_int (by decide +kernel) (pa_cons (pe_op op_addI (pe_op op_addI (pe_op op_mulI (pv 4) pe_int) (pe_op op_mulI pe_int (pv 5))) pe_int) pa_nil)) pe_int))
    (pss_cons (ps_set (i := 4) sc_digits.nd rfl (Or.inl rfl) (pe_op op_modI (pe_callTy call_int1 (by rfl) T.n_int (by decide +kernel) (pa_cons (pe_op op_mulI (pv 4) (pe_op op_addI (pe_op op_divI (pv 4) pe_int) pe_int)) pa_nil)) pe_int))
    (pss_one (ps_if (pt_cmpR op_gtI (pv 3) pe_int (nomark _)) (pss_cons (ps_expr (pe_bm PySem.F.plainAttrs_list PySem.F.slot_list_append PySem.F.type_list_append mt_append (pv 2) (pa_cons (pe_op op_modI (pe_callTy call_int1 (by rfl) T.n_int (by decide +kernel) (pa_cons (pv 3) pa_nil)) pe_int) pa_nil)))
    (pss_one (ps_set (i := 3) sc_digits.nd rfl (Or.inl rfl) (pe_op op_divI (pv 3) pe_int)))) (pss_one (ps_expr (pe_bm PySem.F.plainAttrs_list PySem.F.slot_list_append PySem.F.type_list_append mt_append (pv 2) (pa_cons (pe_op op_modI (pe_callTy call_int1 (by rfl) T.n_int (by decide +kernel) (pa_cons (pe_op op_divI (pv 4) pe_int) pa_nil)) pe_int) pa_nil)))))))))
    (pss_one (ps_ret (pv 2))))))))
def t_entry (g : G) : TS :=
    (tRet (tOp (rIxL g.K) (tLst (tCons (tTup (tCons (tC (.str "emit")) (tCons (tC (.str "a")) tNil))) (tCons (tTup (tCons (tC (.str "emit")) (tCons (tC (.str "b")) tNil))) (tCons (tTup (tCons (tC (.str "final")) (tCons (tC (.str "a")) tNil))) (tCons (tTup (tCons (tC (.str "emit")) (tCons (tC .non) tNil))) tNil))))) (tOp rModI (tCB rInt1 (tCons (tVar 0) tNil)) (tC (.int 4)))))
theorem d_entry {P : Program} {w : World} {mg : Str → Option Value} {base : Heap} {g : G} {A : Around} {outer : List Env} {s : Shared} {H : Hp} {E : XK} {f : Addr} {cdv : Value} (T : Txt g mg)
    (hr : Room 0 (A.deeper (envOfC "_law_entry" (defScope s_entry) s.heap.objs.size f cdv))) :
    PSs (cxOf CX0 P w g.K mg base N_entry "_law_entry" (defScope s_entry) f cdv A outer s H E).nox (defBody s_entry) (t_entry g) :=
    (pss_one (ps_ret (pe_ix ix_list (pe_lst (pa_cons (pe_tup (pa_cons pe_str (pa_cons pe_str pa_nil))) (pa_cons (pe_tup (pa_cons pe_str (pa_cons pe_str pa_nil))) (pa_cons (pe_tup (pa_cons pe_str (pa_cons pe_str pa_nil))) (pa_cons (pe_tup (pa_cons pe_str (pa_cons pe_non pa_nil))) pa_nil))))) (pe_op op_modI (pe_callTy call_int1 (by rfl) T.n_int (by decide +kernel) (pa_cons (pv 0) pa_nil)) pe_int) (fun _ _ => rfl))))
def t_row (g : G) : TS :=
    (tRet (tLc (iList g.K (tSl (rSlL g.K) (tVar 0) tNoPart (tPart (tVar 1)))) (gName 2) tYes (tCall spEntry [] E0 (tCons (tOp (rIxL g.K) (tLst (tCons (tOp rModI (tCB rInt1 (tCons (tVar 2) tNil)) (tC (.int 2))) (tCons (tOp rModI (tCB rInt1 (tCons (tVar 2) tNil)) (tC (.int 4))) tNil))) (tCB rInt1 (tCons (tOp rGtI (tVar 2) (tC (.int 700))) tNil))) tNil)) [2]))
theorem d_row {P : Program} {w : World} {mg : Str → Option Value} {base : Heap} {g : G} {A : Around} {outer : List Env} {s : Shared} {H : Hp} {E : XK} {f : Addr} {cdv : Value} (T : Txt g mg)
    (hr : Room 1 (A.deeper (envOfC "_law_row" (defScope s_row) s.heap.objs.size f cdv)))
    (h_entry : Cl P w g.K mg base 1 "_law_entry" spEntry []) :
    PSs (cxOf CX0 P w g.K mg base N_row "_law_row" (defScope s_row) f cdv A outer s H E).nox (defBody s_row) (t_row g) :=
    (pss_one (ps_ret (pe_lc (own := [("_law_digit", 2)]) (g := gName 2) (tt := tYes) rfl sc_row.nd (pi_list (pe_slice sl_list (pv 0) po_none (po_some (pv 1)))) (blkOk_by (N := N_row) (sc := defScope s_row) (by decide +kernel)) (fun _ _ _ _ _ => pg_name (i := 2) sc_row.nd rfl (Or.inl rfl)) (fun _ _ _ _ _ => pts_nil) (fun _ _ _ _ _ => (pe_cl h_entry hr (by omega) rfl (pa_cons (pe_ix ix_list (pe_lst (pa_cons (pe_op op_modI (pe_callTy call_int1 (by rfl) T.n_int (by decide +kernel) (pa_cons (pv 2) pa_nil)) pe_int) (pa_cons (pe_op op_modI (pe_callTy call_int1 (by rfl) T.n_int (by decide +kernel) (pa_cons (pv 2) pa_nil)) pe_int) pa_nil))) (pe_callTy call_int1 (by rfl) T.n_int (by decide +kernel) (pa_cons (pe_cmpR op_gtI (pv 2) pe_int (nomark _)) pa_nil)) (fun _ _ => rfl)) pa_nil))))))
def t_cut (g : G) : TS :=
    (tSeq (tDrop (tCall spCheckIndex [] E0 (tCons (tVar 1) (tCons (tC (.int 0)) (tCons (tFld g.K (tFld g.K (tVar 0) "part") "wide") tNil)))))
    (tSeq (tDrop (tCall spCheckIndex [] E0 (tCons (tVar 2) (tCons (tVar 1) (tCons (tFld g.K (tFld g.K (tVar 0) "part") "wide") tNil)))))
    (tRet (tMake g.word (spWordInit g) [] E0 (tCons (tMake g.made (spMadeInit g) [] E0 (tCons (tCall (spPartOf g) [] E0 (tCons (tCall (spBehind g) [] E0 (tCons (tTup (tCons (tFld g.K (tVar 0) "part") (tCons (tC (.int 1)) (tCons (tC .non) tNil)))) (tCons (tVar 1) tNil))) (tCons (tOp rSubI (tVar 2) (tVar 1)) tNil))) (tCons (tFld g.K (tVar 0) "nesting") (tCons (tFld g.K (tVar 0) "pieces") tNil)))) tNil)))))
theorem d_cut {P : Program} {w : World} {mg : Str → Option Value} {base : Heap} {g : G} {A : Around} {outer : List Env} {s : Shared} {H : Hp} {E : XK} {f : Addr} {cdv : Value} (T : Txt g mg)
    (hr : Room 5 (A.deeper (envOfC "Word.cut" (defScope s_cut) s.heap.objs.size f cdv)))
    (h_behind : Cl P w g.K mg base 2 "behind" (spBehind g) [])
    (h_part_of : Cl P w g.K mg base 4 "part_of" (spPartOf g) [])
    (h_Made : Mkl P w g.K mg base 1 "Made" g.made (spMadeInit g) [])
    (h_Word : Mkl P w g.K mg base 4 "Word" g.word (spWordInit g) [])
    (h_check_index : Cl P w g.K mg base 3 "check_index" spCheckIndex []) :
    PSs (cxOf CX0 P w g.K mg base N_cut "Word.cut" (defScope s_cut) f cdv A outer s H E).nox (defBody s_cut) (t_cut g) :=
    (pss_cons (ps_expr (pe_cl h_check_index hr (by omega) rfl (pa_cons (pv 1) (pa_cons pe_int (pa_cons (pe_fld (pe_fld (pv 0) rfl) rfl) pa_nil)))))
    (pss_cons (ps_expr (pe_cl h_check_index hr (by omega) rfl (pa_cons (pv 2) (pa_cons (pv 1) (pa_cons (pe_fld (pe_fld (pv 0) rfl) rfl) pa_nil)))))
    (pss_one (ps_ret (pe_mkl h_Word hr (by omega) rfl (pa_cons (pe_mkl h_Made hr (by omega) rfl (pa_cons (pe_cl h_part_of hr (by omega) rfl (pa_cons (pe_cl h_behind hr (by omega) rfl (pa_cons (pe_tup (pa_cons (pe_fld (pv 0) rfl) (pa_cons pe_int (pa_cons pe_non pa_nil)))) (pa_cons (pv 1) pa_nil))) (pa_cons (pe_op op_subI (pv 2) (pv 1)) pa_nil))) (pa_cons (pe_fld (pv 0) rfl) (pa_cons (pe_fld (pv 0) rfl) pa_nil)))) pa_nil))))))
def t_entries (g : G) : TS :=
    (tSeq (tDrop (tCall spCheckIndex [] E0 (tCons (tVar 1) (tCons (tC (.int 0)) (tCons (tFld g.K (tFld g.K (tVar 0) "part") "wide") tNil)))))
    (tSeq (tDrop (tCall spCheckIndex [] E0 (tCons (tVar 2) (tCons (tVar 1) (tCons (tCB rMin2 (tCons (tFld g.K (tFld g.K (tVar 0) "part") "wide") (tCons (tOp rAddI (tVar 1) (tC (.int 1000))) tNil))) tNil)))))
    (tSeq (tAsg (tLst tNil) (gName 3))
    (tSeq (tAsg (tCall (spBehind g) [] E0 (tCons (tTup (tCons (tFld g.K (tVar 0) "part") (tCons (tC (.int 1)) (tCons (tC .non) tNil)))) (tCons (tVar 1) tNil))) (gName 4))
    (tSeq (tWhile (tTest (tOp rLtI (tCB (rLenS g.K) (tCons (tVar 3) tNil)) (tOp rSubI (tVar 2) (tVar 1)))) (tSeq (tAsg (tCall (spFirstUnit g) [] E0 (tCons (tVar 4) tNil)) (gTup g.K 3 (gCons (gName 5) (gCons (gName 6) (gCons (gName 7) gNil)))))
    (tSeq (tAsg (tTup (tCons (tVar 5) (tCons (tOp rSubI (tVar 6) (tC (.int 1))) (tCons (tVar 7) tNil)))) (gName 4))
    (tIfS (tB (tCB (rIsi g.K) (tCons (tVar 5) (tCons (tC (.ty "tuple")) tNil)))) (tDrop (tBM g.K "list" rAppend (tVar 3) (tCons (tVar 5) tNil))) (tAsg (tCall (spOpened g) [] E0 (tCons (tVar 5) (tCons (tVar 4) tNil))) (gName 4))))))
    (tRet (tVar 3)))))))
theorem d_entries {P : Program} {w : World} {mg : Str → Option Value} {base : Heap} {g : G} {A : Around} {outer : List Env} {s : Shared} {H : Hp} {E : XK} {f : Addr} {cdv : Value} (T : Txt g mg)
    (hr : Room 3 (A.deeper (envOfC "Word.entries" (defScope s_entries) s.heap.objs.size f cdv)))
    (h_opened : Cl P w g.K mg base 1 "opened" (spOpened g) [])
    (h_first_unit : Cl P w g.K mg base 2 "first_unit" (spFirstUnit g) [])
    (h_behind : Cl P w g.K mg base 2 "behind" (spBehind g) [])
    (h_check_index : Cl P w g.K mg base 3 "check_index" spCheckIndex []) :
    PSs (cxOf CX0 P w g.K mg base N_entries "Word.entries" (defScope s_entries) f cdv A outer s H E).nox (defBody s_entries) (t_entries g) :=
    (pss_cons (ps_expr (pe_cl h_check_index hr (by omega) rfl (pa_cons (pv 1) (pa_cons pe_int (pa_cons (pe_fld (pe_fld (pv 0) rfl) rfl) pa_nil)))))
    (pss_cons (ps_expr (pe_cl h_check_index hr (by omega) rfl (pa_cons (pv 2) (pa_cons (pv 1) (pa_cons (pe_callB (cr_min2 rfl) (by rfl) T.n_min (by decide +kernel) (pa_cons (pe_fld (pe_fld (pv 0) rfl) rfl) (pa_cons (pe_op op_addI (pv 1) (pe_gc rfl T.c_MOST_TOLD)) pa_nil))) pa_nil)))))
    (pss_cons (ps_set (i := 3) sc_entries.nd rfl (Or.inl rfl) (pe_lst pa_nil))
    (pss_cons (ps_set (i := 4) sc_entries.nd rfl (Or.inl rfl) (pe_cl h_behind hr (by omega) rfl (pa_cons (pe_tup (pa_cons (pe_fld (pv 0) rfl) (pa_cons pe_int (pa_cons pe_non pa_nil)))) (pa_cons (pv 1) pa_nil))))
    (pss_cons (ps_while PassesOwn.never (pt_cmpR op_ltI (pe_callB call_len_seq (by rfl) T.n_len PySem.boot_len (pa_cons (pv 3) pa_nil)) (pe_op op_subI (pv 2) (pv 1)) (nomark _)) (pss_cons (ps_asg (pe_cl h_first_unit hr (by omega) rfl (pa_cons (pv 4) pa_nil)) (pg_tup rfl (pgs_cons (pg_name (i := 5) sc_entries.nd rfl (Or.inl rfl)) (pgs_cons (pg_name (i := 6) sc_entries.nd rfl (Or.inl rfl)) (pgs_cons (pg_name (i := 7) sc_entries.nd rfl (Or.inl rfl)) pgs_nil)))))
    (pss_cons (ps_set (i := 4) sc_entries.nd rfl (Or.inl rfl) (pe_tup (pa_cons (pv 5) (pa_cons (pe_op op_subI (pv 6) pe_int) (pa_cons (pv 7) pa_nil)))))
    (pss_one (ps_if (pt_val (pe_callB call_isi (by rfl) T.n_isinstance (by decide +kernel) (pa_cons (pv 5) (pa_cons (pe_bltn (v := .ty "tuple") (by rfl) T.n_tuple (by decide +kernel) rfl) pa_nil)))) (pss_one (ps_expr (pe_bm PySem.F.plainAttrs_list PySem.F.slot_list_append PySem.F.type_list_append mt_append (pv 3) (pa_cons (pv 5) pa_nil)))) (pss_one (ps_set (i := 4) sc_entries.nd rfl (Or.inl rfl) (pe_cl h_opened hr (by omega) rfl (pa_cons (pv 5) (pa_cons (pv 4) pa_nil))))))))))
    (pss_one (ps_ret (pv 3))))))))
def t_getitem (g : G) : TS :=
    (tSeq (tDrop (tCall spCheckIndex [] E0 (tCons (tVar 1) (tCons (tC (.int 0)) (tCons (tOp rSubI (tFld g.K (tFld g.K (tVar 0) "part") "wide") (tC (.int 1))) tNil)))))
    (tRet (tOp (rIxL g.K) (tMeth g.word "entries" (spEntries g) [] E0 (tVar 0) (tCons (tVar 1) (tCons (tOp rAddI (tVar 1) (tC (.int 1))) tNil))) (tC (.int 0)))))
theorem d_getitem {P : Program} {w : World} {mg : Str → Option Value} {base : Heap} {g : G} {A : Around} {outer : List Env} {s : Shared} {H : Hp} {E : XK} {f : Addr} {cdv : Value} (T : Txt g mg)
    (hr : Room 4 (A.deeper (envOfC "Word.__getitem__" (defScope s_getitem) s.heap.objs.size f cdv)))
    (h_entries : Mtl P w g.K mg base 4 g.word "entries" (spEntries g))
    (h_check_index : Cl P w g.K mg base 3 "check_index" spCheckIndex []) :
    PSs (cxOf CX0 P w g.K mg base N_getitem "Word.__getitem__" (defScope s_getitem) f cdv A outer s H E).nox (defBody s_getitem) (t_getitem g) :=
    (pss_cons (ps_expr (pe_cl h_check_index hr (by omega) rfl (pa_cons (pv 1) (pa_cons pe_int (pa_cons (pe_op op_subI (pe_fld (pe_fld (pv 0) rfl) rfl) pe_int) pa_nil)))))
    (pss_one (ps_ret (pe_ix ix_list (pe_mtl h_entries hr (by omega) (pv 0) (pa_cons (pv 1) (pa_cons (pe_op op_addI (pv 1) pe_int) pa_nil))) pe_int (fun _ _ => rfl)))))
def t_Word_eq (g : G) (n : Nat) : TS :=
    (tSeq (tIfS (tOr (tNot (tB (tCB (rIsi g.K) (tCons (tVar 1) (tCons (tC (.ref g.word)) tNil))))) (tTest (tOp rNeS (tFld g.K (tFld g.K (tVar 0) "part") "wide") (tFld g.K (tFld g.K (tVar 1) "part") "wide")))) (tRet (tC (.bl false))) tNext)
    (tRet (tOp rEqS (tCall (spAgreement g n) [] E0 (tCons (tTup (tCons (tFld g.K (tVar 0) "part") (tCons (tC (.int 1)) (tCons (tC .non) tNil)))) (tCons (tTup (tCons (tFld g.K (tVar 1) "part") (tCons (tC (.int 1)) (tCons (tC .non) tNil)))) (tCons (tFld g.K (tFld g.K (tVar 0) "part") "wide") tNil)))) (tFld g.K (tFld g.K (tVar 0) "part") "wide"))))
theorem d_Word_eq {P : Program} {w : World} {mg : Str → Option Value} {base : Heap} {g : G} {n : Nat} {A : Around} {outer : List Env} {s : Shared} {H : Hp} {E : XK} {f : Addr} {cdv : Value} (T : Txt g mg)
    (hr : Room (8 + 2 * n) (A.deeper (envOfC "Word.__eq__" (defScope s_Word_eq) s.heap.objs.size f cdv)))
    (h_agreement : Cl P w g.K mg base (8 + 2 * n) "agreement" (spAgreement g n) []) :
    PSs (cxOf CX0 P w g.K mg base N_Word_eq "Word.__eq__" (defScope s_Word_eq) f cdv A outer s H E).nox (defBody s_Word_eq) (t_Word_eq g n) :=
    (pss_cons (ps_if (PW.pt (pw_or (pt_not (pt_val (pe_callB call_isi (by rfl) T.n_isinstance (by decide +kernel) (pa_cons (pv 1) (pa_cons (pe_gc rfl T.c_Word) pa_nil))))) (pw_or1 (pt_cmpR op_neS (pe_fld (pe_fld (pv 0) rfl) rfl) (pe_fld (pe_fld (pv 1) rfl) rfl) (nomark _))))) (pss_one (ps_ret pe_bl)) pss_nil)
    (pss_one (ps_ret (pe_cmpR op_eqS (pe_cl h_agreement hr (by omega) rfl (pa_cons (pe_tup (pa_cons (pe_fld (pv 0) rfl) (pa_cons pe_int (pa_cons pe_non pa_nil)))) (pa_cons (pe_tup (pa_cons (pe_fld (pv 1) rfl) (pa_cons pe_int (pa_cons pe_non pa_nil)))) (pa_cons (pe_fld (pe_fld (pv 0) rfl) rfl) pa_nil)))) (pe_fld (pe_fld (pv 0) rfl) rfl) (nomark _)))))
def t_first_difference (g : G) (n : Nat) : TS :=
    (tSeq (tAsg (tCall (spAgreeing g n) [] E0 (tCons (tVar 0) (tCons (tC (.int 0)) (tCons (tVar 1) (tCons (tC (.int 0)) tNil))))) (gName 2))
    (tRet (tIf (tTest (tChain rEqS rEqS (tVar 2) (tMeth g.word "length" (spLength g) [] E0 (tVar 0) tNil) (tMeth g.word "length" (spLength g) [] E0 (tVar 1) tNil))) (tC .non) (tVar 2))))
theorem d_first_difference {P : Program} {w : World} {mg : Str → Option Value} {base : Heap} {g : G} {n : Nat} {A : Around} {outer : List Env} {s : Shared} {H : Hp} {E : XK} {f : Addr} {cdv : Value} (T : Txt g mg)
    (hr : Room (9 + 2 * n) (A.deeper (envOfC "first_difference" (defScope s_first_difference) s.heap.objs.size f cdv)))
    (h_length : Mtl P w g.K mg base 1 g.word "length" (spLength g))
    (h_agreeing : Cl P w g.K mg base (9 + 2 * n) "agreeing" (spAgreeing g n) []) :
    PSs (cxOf CX0 P w g.K mg base N_first_difference "first_difference" (defScope s_first_difference) f cdv A outer s H E).nox (defBody s_first_difference) (t_first_difference g n) :=
    (pss_cons (ps_set (i := 2) sc_first_difference.nd rfl (Or.inl rfl) (pe_cl h_agreeing hr (by omega) rfl (pa_cons (pv 0) (pa_cons pe_int (pa_cons (pv 1) (pa_cons pe_int pa_nil))))))
    (pss_one (ps_ret (pe_ifExp (pt_chain op_eqS op_eqS (pv 2) (pe_mtl0 h_length hr (by omega) (pv 0)) (pe_mtl0 h_length hr (by omega) (pv 1))) pe_non (pv 2)))))
def t_alike (g : G) : TS :=
    (tSeq (tAsg (tC (.int 0)) (gName 2))
    (tSeq (tWhile (tAnd (tTest (tOp rLtI (tVar 2) (tCB rMin2 (tCons (tCB (rLenS g.K) (tCons (tVar 0) tNil)) (tCons (tCB (rLenS g.K) (tCons (tVar 1) tNil)) tNil))))) (tTest (tOp (rEqD g.K) (tOp (rIxL g.K) (tVar 0) (tVar 2)) (tOp (rIxL g.K) (tVar 1) (tVar 2))))) (tAsg (tOp rAddI (tVar 2) (tC (.int 1))) (gName 2)))
    (tRet (tVar 2))))
theorem d_alike {P : Program} {w : World} {mg : Str → Option Value} {base : Heap} {g : G} {A : Around} {outer : List Env} {s : Shared} {H : Hp} {E : XK} {f : Addr} {cdv : Value} (T : Txt g mg)
    (hr : Room 0 (A.deeper (envOfC "_law_alike" (defScope s_alike) s.heap.objs.size f cdv))) :
    PSs (cxOf CX0 P w g.K mg base N_alike "_law_alike" (defScope s_alike) f cdv A outer s H E).nox (defBody s_alike) (t_alike g) :=
    (pss_cons (ps_set (i := 2) sc_alike.nd rfl (Or.inl rfl) pe_int)
    (pss_cons (ps_while PassesOwn.never (PW.pt (pw_and (pt_cmpR op_ltI (pv 2) (pe_callB (cr_min2 rfl) (by rfl) T.n_min (by decide +kernel) (pa_cons (pe_callB call_len_seq (by rfl) T.n_len PySem.boot_len (pa_cons (pv 0) pa_nil)) (pa_cons (pe_callB call_len_seq (by rfl) T.n_len PySem.boot_len (pa_cons (pv 1) pa_nil)) pa_nil))) (nomark _)) (pw_and1 (pt_cmpR (op_eqD hr.units) (pe_ix ix_list (pv 0) (pv 2) (fun _ _ => rfl)) (pe_ix ix_list (pv 1) (pv 2) (fun _ _ => rfl)) (nomark _))))) (pss_one (ps_set (i := 2) sc_alike.nd rfl (Or.inl rfl) (pe_op op_addI (pv 2) pe_int))))
    (pss_one (ps_ret (pv 2)))))
def t_far_right (g : G) (n : Nat) : TS :=
    (tSeq (tAsg (tCall spRow [] E0 (tCons (tVar 0) (tCons (tOp rAddI (tC (.int 1)) (tOp rModI (tCB rInt1 (tCons (tOp (rIxL g.K) (tVar 0) (tC (.int 6))) tNil)) (tC (.int 3)))) tNil))) (gName 1))
    (tSeq (tAsg (tOp rRep (tVar 1) (tOp rAddI (tC (.int 1)) (tOp rModI (tCB rInt1 (tCons (tOp (rIxL g.K) (tVar 0) (tC (.int 7))) tNil)) (tC (.int 3))))) (gName 2))
    (tSeq (tAsg (tOp rRep (tVar 1) (tOp rAddI (tC (.int 1)) (tOp rModI (tCB rInt1 (tCons (tOp (rIxL g.K) (tVar 0) (tC (.int 8))) tNil)) (tC (.int 3))))) (gName 3))
    (Evl.tCut (tIfS (tTest (tOp rEqS (tOp rModI (tCB rInt1 (tCons (tOp (rIxL g.K) (tVar 0) (tC (.int 9))) tNil)) (tC (.int 3))) (tC (.int 0)))) (tAsg (tCall spRow [] E0 (tCons (tSl (rSlL g.K) (tVar 0) (tPart (tC (.int 10))) tNoPart) (tCons (tOp rAddI (tC (.int 1)) (tOp rModI (tCB rInt1 (tCons (tOp (rIxL g.K) (tVar 0) (tC (.int 16))) tNil)) (tC (.int 5)))) tNil))) (gName 3)) tNext)
    (Evl.tCut (tIfS (tTest (tOp rEqS (tOp rModI (tCB rInt1 (tCons (tOp (rIxL g.K) (tVar 0) (tC (.int 9))) tNil)) (tC (.int 3))) (tC (.int 1)))) (tAsg (tOp rCat (tVar 3) (tSl (rSlL g.K) (tVar 3) tNoPart (tPart (tC (.int 1))))) (gName 3)) tNext)
    (tSeq (tAsg (tCall spRow [] E0 (tCons (tSl (rSlL g.K) (tVar 0) (tPart (tC (.int 17))) tNoPart) (tCons (tOp rModI (tCB rInt1 (tCons (tOp (rIxL g.K) (tVar 0) (tC (.int 23))) tNil)) (tC (.int 4))) tNil))) (gName 4))
    (tSeq (tAsg (tLc (iRng1 (tCons (tC (.int 2)) tNil)) (gName 11) tYes (tOp rAddI (tC (.int 1)) (tOp rMulI (tOp (rIxL g.K) (tVar 0) (tOp rAddI (tC (.int 24)) (tVar 11))) (tOp (rIxL g.K) (tLst (tCons (tC (.int 1)) (tCons (tOp rPowI (tC (.int 10)) (tC (.int 9))) (tCons (tOp rPowI (tC (.int 10)) (tC (.int 29))) tNil)))) (tOp rModI (tCB rInt1 (tCons (tOp (rIxL g.K) (tVar 0) (tOp rAddI (tC (.int 26)) (tVar 11))) tNil)) (tC (.int 3)))))) [11]) (gName 5))
    (tSeq (tAsg (tLst (tCons (tOp (rOwn2 g.word (spWordAdd g) E0) (tMake g.word (spWordInit g) [] E0 (tCons (tVar 4) tNil)) (tOp (rOwnI g.word (spWordMul g) E0) (tMake g.word (spWordInit g) [] E0 (tCons (tVar 2) tNil)) (tOp (rIxL g.K) (tVar 5) (tC (.int 0))))) (tCons (tOp (rOwn2 g.word (spWordAdd g) E0) (tMake g.word (spWordInit g) [] E0 (tCons (tVar 4) tNil)) (tOp (rOwnI g.word (spWordMul g) E0) (tMake g.word (spWordInit g) [] E0 (tCons (tVar 3) tNil)) (tOp (rIxL g.K) (tVar 5) (tC (.int 1))))) tNil))) (gName 6))
    (tSeq (tAsg (tOp rAddI (tCB (rLenS g.K) (tCons (tVar 2) tNil)) (tCB (rLenS g.K) (tCons (tVar 3) tNil))) (gName 7))
    (tSeq (tAsg (tCall spAlike [] E0 (tCons (tSl (rSlL g.K) (tOp rRep (tVar 2) (tVar 7)) tNoPart (tPart (tVar 7))) (tCons (tSl (rSlL g.K) (tOp rRep (tVar 3) (tVar 7)) tNoPart (tPart (tVar 7))) tNil))) (gName 8))
    (tSeq (tAsg (tLst (tCons (tOp rMulI (tOp (rIxL g.K) (tVar 5) (tC (.int 0))) (tCB (rLenS g.K) (tCons (tVar 2) tNil))) (tCons (tOp rMulI (tOp (rIxL g.K) (tVar 5) (tC (.int 1))) (tCB (rLenS g.K) (tCons (tVar 3) tNil))) tNil))) (gName 9))
    (Evl.tCut (tAsg (tIf (tTest (tOp rEqS (tVar 8) (tVar 7))) (tCB (rMin g.K) (tCons (tVar 9) tNil)) (tCB rMin2 (tCons (tVar 8) (tCons (tCB (rMin g.K) (tCons (tVar 9) tNil)) tNil)))) (gName 10))
    (tSeq (tIfS (tTest (tOp rNeS (tCall (spAgreeing g n) [] E0 (tCons (tOp (rIxL g.K) (tVar 6) (tC (.int 0))) (tCons (tC (.int 0)) (tCons (tOp (rIxL g.K) (tVar 6) (tC (.int 1))) (tCons (tC (.int 0)) tNil))))) (tOp rAddI (tCB (rLenS g.K) (tCons (tVar 4) tNil)) (tVar 10)))) (tRet (tC (.bl false))) tNext)
    (tSeq (tIfS (tTest (tOp rNeS (tCall (spFirstDiff g n) [] E0 (tCons (tOp (rIxL g.K) (tVar 6) (tC (.int 1))) (tCons (tOp (rIxL g.K) (tVar 6) (tC (.int 0))) tNil))) (tOp (rIxL g.K) (tLst (tCons (tOp rAddI (tCB (rLenS g.K) (tCons (tVar 4) tNil)) (tVar 10)) (tCons (tC .non) tNil))) (tCB rInt1 (tCons (tOp rEqS (tVar 10) (tCB (rMax g.K) (tCons (tVar 9) tNil))) tNil))))) (tRet (tC (.bl false))) tNext)
    (tRet (tOp rEqS (tOp (rOwn2 g.word (spWordEq g n) E0) (tOp (rIxL g.K) (tVar 6) (tC (.int 0))) (tOp (rIxL g.K) (tVar 6) (tC (.int 1)))) (tOp rEqS (tVar 10) (tCB (rMax g.K) (tCons (tVar 9) tNil)))))))))))))))))))
theorem d_far_right {P : Program} {w : World} {mg : Str → Option Value} {base : Heap} {g : G} {n : Nat} {A : Around} {outer : List Env} {s : Shared} {H : Hp} {E : XK} {f : Addr} {cdv : Value} (T : Txt g mg)
    (hr : Room (10 + 2 * n) (A.deeper (envOfC "_law_far_right" (defScope s_far_right) s.heap.objs.size f cdv)))
    (h_Word_eq : Mtl P w g.K mg base (9 + 2 * n) g.word "__eq__" (spWordEq g n))
    (h_first_difference : Cl P w g.K mg base (10 + 2 * n) "first_difference" (spFirstDiff g n) [])
    (h_agreeing : Cl P w g.K mg base (9 + 2 * n) "agreeing" (spAgreeing g n) [])
    (h_alike : Cl P w g.K mg base 1 "_law_alike" spAlike [])
    (h_Word_add : Mtl P w g.K mg base 6 g.word (PySem.dunder (Operator.info .Add).2) (spWordAdd g))
    (h_Word : Mkl P w g.K mg base 4 "Word" g.word (spWordInit g) [])
    (h_Word_mul : Mtl P w g.K mg base 6 g.word (PySem.dunder (Operator.info .Mult).2) (spWordMul g))
    (h_row : Cl P w g.K mg base 2 "_law_row" spRow []) :
    PSs (cxOf CX0 P w g.K mg base N_far_right "_law_far_right" (defScope s_far_right) f cdv A outer s H E).nox (defBody s_far_right) (t_far_right g n) :=
    (pss_cons (ps_set (i := 1) sc_far_right.nd rfl (Or.inl rfl) (pe_cl h_row hr (by omega) rfl (pa_cons (pv 0) (pa_cons (pe_op op_addI pe_int (pe_op op_modI (pe_callTy call_int1 (by rfl) T.n_int (by decide +kernel) (pa_cons (pe_ix ix_list (pv 0) pe_int (fun _ _ => rfl)) pa_nil)) pe_int)) pa_nil))))
    (pss_cons (ps_set (i := 2) sc_far_right.nd rfl (Or.inl rfl) (pe_op op_rep (pv 1) (pe_op op_addI pe_int (pe_op op_modI (pe_callTy call_int1 (by rfl) T.n_int (by decide +kernel) (pa_cons (pe_ix ix_list (pv 0) pe_int (fun _ _ => rfl)) pa_nil)) pe_int))))
    (pss_cons (ps_set (i := 3) sc_far_right.nd rfl (Or.inl rfl) (pe_op op_rep (pv 1) (pe_op op_addI pe_int (pe_op op_modI (pe_callTy call_int1 (by rfl) T.n_int (by decide +kernel) (pa_cons (pe_ix ix_list (pv 0) pe_int (fun _ _ => rfl)) pa_nil)) pe_int))))
    (Evl.pss_cut (ps_if (pt_cmpR op_eqS (pe_op op_modI (pe_callTy call_int1 (by rfl) T.n_int (by decide +kernel) (pa_cons (pe_ix ix_list (pv 0) pe_int (fun _ _ => rfl)) pa_nil)) pe_int) pe_int (nomark _)) (pss_one (ps_set (i := 3) sc_far_right.nd rfl (Or.inl rfl) (pe_cl h_row hr (by omega) rfl (pa_cons (pe_slice sl_list (pv 0) (po_some pe_int) po_none) (pa_cons (pe_op op_addI pe_int (pe_op op_modI (pe_callTy call_int1 (by rfl) T.n_int (by decide +kernel) (pa_cons (pe_ix ix_list (pv 0) pe_int (fun _ _ => rfl)) pa_nil)) pe_int)) pa_nil))))) pss_nil)
    (Evl.pss_cut (ps_if (pt_cmpR op_eqS (pe_op op_modI (pe_callTy call_int1 (by rfl) T.n_int (by decide +kernel) (pa_cons (pe_ix ix_list (pv 0) pe_int (fun _ _ => rfl)) pa_nil)) pe_int) pe_int (nomark _)) (pss_one (ps_set (i := 3) sc_far_right.nd rfl (Or.inl rfl) (pe_op op_cat (pv 3) (pe_slice sl_list (pv 3) po_none (po_some pe_int))))) pss_nil)
    (pss_cons (ps_set (i := 4) sc_far_right.nd rfl (Or.inl rfl) (pe_cl h_row hr (by omega) rfl (pa_cons (pe_slice sl_list (pv 0) (po_some pe_int) po_none) (pa_cons (pe_op op_modI (pe_callTy call_int1 (by rfl) T.n_int (by decide +kernel) (pa_cons (pe_ix ix_list (pv 0) pe_int (fun _ _ => rfl)) pa_nil)) pe_int) pa_nil))))
    (pss_cons (ps_setLc (i := 5) (own := [("_law_j", 11)]) (g := gName 11) (tt := tYes) rfl sc_far_right.nd rfl rfl (sw_true rfl rfl rfl (by decide +kernel)) (pi_range1 rfl T.n_range (pa_cons pe_int pa_nil)) (blkOk_by (N := N_far_right) (sc := defScope s_far_right) (by decide +kernel)) (fun _ _ _ _ _ => pg_name (i := 11) sc_far_right.nd rfl (Or.inl rfl)) (fun _ _ _ _ _ => pts_nil) (fun _ _ _ _ _ => (pe_op op_addI pe_int (pe_op op_mulI (pe_ix ix_list (pv 0) (pe_op op_addI pe_int (pv 11)) (fun _ _ => rfl)) (pe_ix ix_list (pe_lst (pa_cons pe_int (pa_cons (pe_op op_powI pe_int pe_int) (pa_cons (pe_op op_powI pe_int pe_int) pa_nil)))) (pe_op op_modI (pe_callTy call_int1 (by rfl) T.n_int (by decide +kernel) (pa_cons (pe_ix ix_list (pv 0) (pe_op op_addI pe_int (pv 11)) (fun _ _ => rfl)) pa_nil)) pe_int) (fun _ _ => rfl))))))
    (pss_cons (ps_set (i := 6) sc_far_right.nd rfl (Or.inl rfl) (pe_lst (pa_cons (pe_op (op_word2 (op := .Add) h_Word_add hr (by omega)) (pe_mkl h_Word hr (by omega) rfl (pa_cons (pv 4) pa_nil)) (pe_op (op_wordI (op := .Mult) h_Word_mul T.mulI hr (by omega)) (pe_mkl h_Word hr (by omega) rfl (pa_cons (pv 2) pa_nil)) (pe_ix ix_list (pv 5) pe_int (fun _ _ => rfl)))) (pa_cons (pe_op (op_word2 (op := .Add) h_Word_add hr (by omega)) (pe_mkl h_Word hr (by omega) rfl (pa_cons (pv 4) pa_nil)) (pe_op (op_wordI (op := .Mult) h_Word_mul T.mulI hr (by omega)) (pe_mkl h_Word hr (by omega) rfl (pa_cons (pv 3) pa_nil)) (pe_ix ix_list (pv 5) pe_int (fun _ _ => rfl)))) pa_nil))))
    (pss_cons (ps_set (i := 7) sc_far_right.nd rfl (Or.inl rfl) (pe_op op_addI (pe_callB call_len_seq (by rfl) T.n_len PySem.boot_len (pa_cons (pv 2) pa_nil)) (pe_callB call_len_seq (by rfl) T.n_len PySem.boot_len (pa_cons (pv 3) pa_nil))))
    (pss_cons (ps_set (i := 8) sc_far_right.nd rfl (Or.inl rfl) (pe_cl h_alike hr (by omega) rfl (pa_cons (pe_slice sl_list (pe_op op_rep (pv 2) (pv 7)) po_none (po_some (pv 7))) (pa_cons (pe_slice sl_list (pe_op op_rep (pv 3) (pv 7)) po_none (po_some (pv 7))) pa_nil))))
    (pss_cons (ps_set (i := 9) sc_far_right.nd rfl (Or.inl rfl) (pe_lst (pa_cons (pe_op op_mulI (pe_ix ix_list (pv 5) pe_int (fun _ _ => rfl)) (pe_callB call_len_seq (by rfl) T.n_len PySem.boot_len (pa_cons (pv 2) pa_nil))) (pa_cons (pe_op op_mulI (pe_ix ix_list (pv 5) pe_int (fun _ _ => rfl)) (pe_callB call_len_seq (by rfl) T.n_len PySem.boot_len (pa_cons (pv 3) pa_nil))) pa_nil))))
    (Evl.pss_cut (ps_set (i := 10) sc_far_right.nd rfl (Or.inl rfl) (pe_ifExp (pt_cmpR op_eqS (pv 8) (pv 7) (nomark _)) (pe_callB (cr_min rfl) (by rfl) T.n_min (by decide +kernel) (pa_cons (pv 9) pa_nil)) (pe_callB (cr_min2 rfl) (by rfl) T.n_min (by decide +kernel) (pa_cons (pv 8) (pa_cons (pe_callB (cr_min rfl) (by rfl) T.n_min (by decide +kernel) (pa_cons (pv 9) pa_nil)) pa_nil)))))
    (pss_cons (ps_if (pt_cmpR op_neS (pe_cl h_agreeing hr (by omega) rfl (pa_cons (pe_ix ix_list (pv 6) pe_int (fun _ _ => rfl)) (pa_cons pe_int (pa_cons (pe_ix ix_list (pv 6) pe_int (fun _ _ => rfl)) (pa_cons pe_int pa_nil))))) (pe_op op_addI (pe_callB call_len_seq (by rfl) T.n_len PySem.boot_len (pa_cons (pv 4) pa_nil)) (pv 10)) (nomark _)) (pss_one (ps_ret pe_bl)) pss_nil)
    (pss_cons (ps_if (pt_cmpR op_neS (pe_cl h_first_difference hr (by omega) rfl (pa_cons (pe_ix ix_list (pv 6) pe_int (fun _ _ => rfl)) (pa_cons (pe_ix ix_list (pv 6) pe_int (fun _ _ => rfl)) pa_nil))) (pe_ix ix_list (pe_lst (pa_cons (pe_op op_addI (pe_callB call_len_seq (by rfl) T.n_len PySem.boot_len (pa_cons (pv 4) pa_nil)) (pv 10)) (pa_cons pe_non pa_nil))) (pe_callTy call_int1 (by rfl) T.n_int (by decide +kernel) (pa_cons (pe_cmpR op_eqS (pv 10) (pe_callB (cr_max rfl) (by rfl) T.n_max (by decide +kernel) (pa_cons (pv 9) pa_nil)) (nomark _)) pa_nil)) (fun _ _ => rfl)) (nomark _)) (pss_one (ps_ret pe_bl)) pss_nil)
    (pss_one (ps_ret (pe_cmpR op_eqS (pe_cmpR (op_eqO h_Word_eq hr (by omega)) (pe_ix ix_list (pv 6) pe_int (fun _ _ => rfl)) (pe_ix ix_list (pv 6) pe_int (fun _ _ => rfl)) (nomark _)) (pe_cmpR op_eqS (pv 10) (pe_callB (cr_max rfl) (by rfl) T.n_max (by decide +kernel) (pa_cons (pv 9) pa_nil)) (nomark _)) (nomark _))))))))))))))))))
def t_nested_right (g : G) (n : Nat) : TS :=
    (tSeq (tAsg (tCall spRow [] E0 (tCons (tVar 0) (tCons (tOp rAddI (tC (.int 1)) (tOp rModI (tCB rInt1 (tCons (tOp (rIxL g.K) (tVar 0) (tC (.int 6))) tNil)) (tC (.int 4)))) tNil))) (gName 1))
    (tSeq (tAsg (tOp rCat (tCall spRow [] E0 (tCons (tSl (rSlL g.K) (tVar 0) (tPart (tC (.int 7))) tNoPart) (tCons (tOp rModI (tCB rInt1 (tCons (tOp (rIxL g.K) (tVar 0) (tC (.int 12))) tNil)) (tC (.int 3))) tNil))) (tLst (tCons (tTup (tCons (tC (.str "final")) (tCons (tC (.str "b")) tNil))) tNil))) (gName 2))
    (tSeq (tPar 3 4 (tCons (tOp rAddI (tC (.int 1)) (tOp rMulI (tOp (rIxL g.K) (tVar 0) (tC (.int 13))) (tOp rPowI (tC (.int 10)) (tC (.int 27))))) (tCons (tOp rAddI (tC (.int 3)) (tOp rMulI (tOp (rIxL g.K) (tVar 0) (tC (.int 14))) (tOp rPowI (tC (.int 10)) (tC (.int 27))))) tNil)))
    (tSeq (tAsg (tOp rAddI (tOp rModI (tCB rInt1 (tCons (tOp (rIxL g.K) (tVar 0) (tC (.int 15))) tNil)) (tC (.int 3))) (tOp rMulI (tOp rModI (tCB rInt1 (tCons (tOp (rIxL g.K) (tVar 0) (tC (.int 16))) tNil)) (tC (.int 2))) (tOp rSubI (tVar 4) (tC (.int 3))))) (gName 5))
    (tSeq (tAsg (tOp (rOwn2 g.word (spWordAdd g) E0) (tOp (rOwnI g.word (spWordMul g) E0) (tMake g.word (spWordInit g) [] E0 (tCons (tVar 1) tNil)) (tVar 3)) (tMake g.word (spWordInit g) [] E0 (tCons (tVar 2) tNil))) (gName 6))
    (tSeq (tAsg (tOp (rOwn2 g.word (spWordAdd g) E0) (tOp (rOwn2 g.word (spWordAdd g) E0) (tOp (rOwnI g.word (spWordMul g) E0) (tMake g.word (spWordInit g) [] E0 (tCons (tVar 1) tNil)) (tVar 3)) (tMake g.word (spWordInit g) [] E0 (tCons (tSl (rSlL g.K) (tVar 2) tNoPart (tPart (tUn (rU fun i => .int (-i)) (tC (.int 1))))) tNil))) (tMake g.word (spWordInit g) [] E0 (tCons (tLst (tCons (tTup (tCons (tC (.str "final")) (tCons (tC (.str "c")) tNil))) tNil)) tNil))) (gName 7))
    (Evl.tCut (tIfS (tTest (tOp rEqS (tOp rModI (tCB rInt1 (tCons (tOp (rIxL g.K) (tVar 0) (tC (.int 17))) tNil)) (tC (.int 2))) (tC (.int 0)))) (tAsg (tOp (rOwn2 g.word (spWordAdd g) E0) (tOp (rOwn2 g.word (spWordAdd g) E0) (tOp (rOwn2 g.word (spWordAdd g) E0) (tOp (rOwnI g.word (spWordMul g) E0) (tMake g.word (spWordInit g) [] E0 (tCons (tVar 1) tNil)) (tOp rSubI (tVar 3) (tC (.int 1)))) (tMake g.word (spWordInit g) [] E0 (tCons (tLst (tCons (tTup (tCons (tC (.str "emit")) (tCons (tC (.str "c")) tNil))) tNil)) tNil))) (tMake g.word (spWordInit g) [] E0 (tCons (tSl (rSlL g.K) (tVar 1) (tPart (tC (.int 1))) tNoPart) tNil))) (tMake g.word (spWordInit g) [] E0 (tCons (tVar 2) tNil))) (gName 7)) tNext)
    (tSeq (tAsg (tOp (rOwnI g.word (spWordMul g) E0) (tVar 6) (tVar 4)) (gName 8))
    (tSeq (tAsg (tOp (rOwn2 g.word (spWordAdd g) E0) (tOp (rOwn2 g.word (spWordAdd g) E0) (tOp (rOwnI g.word (spWordMul g) E0) (tVar 6) (tVar 5)) (tVar 7)) (tOp (rOwnI g.word (spWordMul g) E0) (tVar 6) (tOp rSubI (tOp rSubI (tVar 4) (tVar 5)) (tC (.int 1))))) (gName 9))
    (tSeq (tAsg (tOp rAddI (tOp rMulI (tVar 3) (tCB (rLenS g.K) (tCons (tVar 1) tNil))) (tCB (rLenS g.K) (tCons (tVar 2) tNil))) (gName 10))
    (tSeq (tAsg (tOp rAddI (tOp rMulI (tVar 5) (tVar 10)) (tOp (rIxL g.K) (tLst (tCons (tOp rSubI (tVar 10) (tC (.int 1))) (tCons (tOp rMulI (tOp rSubI (tVar 3) (tC (.int 1))) (tCB (rLenS g.K) (tCons (tVar 1) tNil))) tNil))) (tCB rInt1 (tCons (tOp rEqS (tOp rModI (tCB rInt1 (tCons (tOp (rIxL g.K) (tVar 0) (tC (.int 17))) tNil)) (tC (.int 2))) (tC (.int 0))) tNil)))) (gName 11))
    (tSeq (tIfS (tOr (tTest (tOp rNeS (tMeth g.word "length" (spLength g) [] E0 (tVar 8) tNil) (tOp rMulI (tVar 4) (tVar 10)))) (tOr (tTest (tOp rNeS (tMeth g.word "length" (spLength g) [] E0 (tVar 9) tNil) (tMeth g.word "length" (spLength g) [] E0 (tVar 8) tNil))) (tTest (tOp (rOwn2 g.word (spWordEq g n) E0) (tVar 8) (tVar 9))))) (tRet (tC (.bl false))) tNext)
    (tSeq (tIfS (tOr (tTest (tOp rNeS (tCall (spFirstDiff g n) [] E0 (tCons (tVar 8) (tCons (tVar 9) tNil))) (tVar 11))) (tTest (tOp rNeS (tCall (spAgreeing g n) [] E0 (tCons (tVar 9) (tCons (tOp rAddI (tVar 11) (tC (.int 1))) (tCons (tVar 8) (tCons (tOp rAddI (tVar 11) (tC (.int 1))) tNil))))) (tOp rSubI (tOp rSubI (tOp rMulI (tVar 4) (tVar 10)) (tVar 11)) (tC (.int 1)))))) (tRet (tC (.bl false))) tNext)
    (tRet (tAndV (tOp (rEqD g.K) (tOp (rOwnI g.word (spGetItem g) E0) (tVar 8) (tVar 11)) (tOp (rOwnI g.word (spGetItem g) E0) (tVar 8) (tOp rModI (tCB rInt1 (tCons (tVar 11) tNil)) (tVar 10)))) (tAndV (tOp (rNeD g.K) (tOp (rOwnI g.word (spGetItem g) E0) (tVar 9) (tVar 11)) (tOp (rOwnI g.word (spGetItem g) E0) (tVar 8) (tVar 11))) (tOp (rOwn2 g.word (spWordEq g n) E0) (tVar 8) (tOp (rOwn2 g.word (spWordAdd g) E0) (tOp (rOwnI g.word (spWordMul g) E0) (tVar 6) (tOp rSubI (tVar 4) (tC (.int 1)))) (tVar 6)))))))))))))))))))
theorem d_nested_right {P : Program} {w : World} {mg : Str → Option Value} {base : Heap} {g : G} {n : Nat} {A : Around} {outer : List Env} {s : Shared} {H : Hp} {E : XK} {f : Addr} {cdv : Value} (T : Txt g mg)
    (hr : Room (10 + 2 * n) (A.deeper (envOfC "_law_nested_right" (defScope s_nested_right) s.heap.objs.size f cdv)))
    (h_Word_eq : Mtl P w g.K mg base (9 + 2 * n) g.word "__eq__" (spWordEq g n))
    (h_Word_add : Mtl P w g.K mg base 6 g.word (PySem.dunder (Operator.info .Add).2) (spWordAdd g))
    (h_Word_mul : Mtl P w g.K mg base 6 g.word (PySem.dunder (Operator.info .Mult).2) (spWordMul g))
    (h_getitem : Gtl P w g.K mg base 5 g.word (spGetItem g))
    (h_agreeing : Cl P w g.K mg base (9 + 2 * n) "agreeing" (spAgreeing g n) [])
    (h_first_difference : Cl P w g.K mg base (10 + 2 * n) "first_difference" (spFirstDiff g n) [])
    (h_length : Mtl P w g.K mg base 1 g.word "length" (spLength g))
    (h_Word : Mkl P w g.K mg base 4 "Word" g.word (spWordInit g) [])
    (h_row : Cl P w g.K mg base 2 "_law_row" spRow []) :
    PSs (cxOf CX0 P w g.K mg base N_nested_right "_law_nested_right" (defScope s_nested_right) f cdv A outer s H E).nox (defBody s_nested_right) (t_nested_right g n) :=
    (pss_cons (ps_set (i := 1) sc_nested_right.nd rfl (Or.inl rfl) (pe_cl h_row hr (by omega) rfl (pa_cons (pv 0) (pa_cons (pe_op op_addI pe_int (pe_op op_modI (pe_callTy call_int1 (by rfl) T.n_int (by decide +kernel) (pa_cons (pe_ix ix_list (pv 0) pe_int (fun _ _ => rfl)) pa_nil)) pe_int)) pa_nil))))
    (pss_cons (ps_set (i := 2) sc_nested_right.nd rfl (Or.inl rfl) (pe_op op_cat (pe_cl h_row hr (by omega) rfl (pa_cons (pe_slice sl_list (pv 0) (po_some pe_int) po_none) (pa_cons (pe_op op_modI (pe_callTy call_int1 (by rfl) T.n_int (by decide +kernel) (pa_cons (pe_ix ix_list (pv 0) pe_int (fun _ _ => rfl)) pa_nil)) pe_int) pa_nil))) (pe_lst (pa_cons (pe_tup (pa_cons pe_str (pa_cons pe_str pa_nil))) pa_nil))))
    (pss_cons (ps_par (i := 3) (j := 4) rfl sc_nested_right.nd rfl rfl (by decide) rfl rfl (pa_cons (pe_op op_addI pe_int (pe_op op_mulI (pe_ix ix_list (pv 0) pe_int (fun _ _ => rfl)) (pe_op op_powI pe_int pe_int))) (pa_cons (pe_op op_addI pe_int (pe_op op_mulI (pe_ix ix_list (pv 0) pe_int (fun _ _ => rfl)) (pe_op op_powI pe_int pe_int))) pa_nil)) (by rfl))
    (pss_cons (ps_set (i := 5) sc_nested_right.nd rfl (Or.inl rfl) (pe_op op_addI (pe_op op_modI (pe_callTy call_int1 (by rfl) T.n_int (by decide +kernel) (pa_cons (pe_ix ix_list (pv 0) pe_int (fun _ _ => rfl)) pa_nil)) pe_int) (pe_op op_mulI (pe_op op_modI (pe_callTy call_int1 (by rfl) T.n_int (by decide +kernel) (pa_cons (pe_ix ix_list (pv 0) pe_int (fun _ _ => rfl)) pa_nil)) pe_int) (pe_op op_subI (pv 4) pe_int))))
    (pss_cons (ps_set (i := 6) sc_nested_right.nd rfl (Or.inl rfl) (pe_op (op_word2 (op := .Add) h_Word_add hr (by omega)) (pe_op (op_wordI (op := .Mult) h_Word_mul T.mulI hr (by omega)) (pe_mkl h_Word hr (by omega) rfl (pa_cons (pv 1) pa_nil)) (pv 3)) (pe_mkl h_Word hr (by omega) rfl (pa_cons (pv 2) pa_nil))))
    (pss_cons (ps_set (i := 7) sc_nested_right.nd rfl (Or.inl rfl) (pe_op (op_word2 (op := .Add) h_Word_add hr (by omega)) (pe_op (op_word2 (op := .Add) h_Word_add hr (by omega)) (pe_op (op_wordI (op := .Mult) h_Word_mul T.mulI hr (by omega)) (pe_mkl h_Word hr (by omega) rfl (pa_cons (pv 1) pa_nil)) (pv 3)) (pe_mkl h_Word hr (by omega) rfl (pa_cons (pe_slice sl_list (pv 2) po_none (po_some (pe_un un_neg pe_int))) pa_nil))) (pe_mkl h_Word hr (by omega) rfl (pa_cons (pe_lst (pa_cons (pe_tup (pa_cons pe_str (pa_cons pe_str pa_nil))) pa_nil)) pa_nil))))
    (Evl.pss_cut (ps_if (pt_cmpR op_eqS (pe_op op_modI (pe_callTy call_int1 (by rfl) T.n_int (by decide +kernel) (pa_cons (pe_ix ix_list (pv 0) pe_int (fun _ _ => rfl)) pa_nil)) pe_int) pe_int (nomark _)) (pss_one (ps_set (i := 7) sc_nested_right.nd rfl (Or.inl rfl) (pe_op (op_word2 (op := .Add) h_Word_add hr (by omega)) (pe_op (op_word2 (op := .Add) h_Word_add hr (by omega)) (pe_op (op_word2 (op := .Add) h_Word_add hr (by omega)) (pe_op (op_wordI (op := .Mult) h_Word_mul T.mulI hr (by omega)) (pe_mkl h_Word hr (by omega) rfl (pa_cons (pv 1) pa_nil)) (pe_op op_subI (pv 3) pe_int)) (pe_mkl h_Word hr (by omega) rfl (pa_cons (pe_lst (pa_cons (pe_tup (pa_cons pe_str (pa_cons pe_str pa_nil))) pa_nil)) pa_nil))) (pe_mkl h_Word hr (by omega) rfl (pa_cons (pe_slice sl_list (pv 1) (po_some pe_int) po_none) pa_nil))) (pe_mkl h_Word hr (by omega) rfl (pa_cons (pv 2) pa_nil))))) pss_nil)
    (pss_cons (ps_set (i := 8) sc_nested_right.nd rfl (Or.inl rfl) (pe_op (op_wordI (op := .Mult) h_Word_mul T.mulI hr (by omega)) (pv 6) (pv 4)))
    (pss_cons (ps_set (i := 9) sc_nested_right.nd rfl (Or.inl rfl) (pe_op (op_word2 (op := .Add) h_Word_add hr (by omega)) (pe_op (op_word2 (op := .Add) h_Word_add hr (by omega)) (pe_op (op_wordI (op := .Mult) h_Word_mul T.mulI hr (by omega)) (pv 6) (pv 5)) (pv 7)) (pe_op (op_wordI (op := .Mult) h_Word_mul T.mulI hr (by omega)) (pv 6) (pe_op op_subI (pe_op op_subI (pv 4) (pv 5)) pe_int))))
    (pss_cons (ps_set (i := 10) sc_nested_right.nd rfl (Or.inl rfl) (pe_op op_addI (pe_op op_mulI (pv 3) (pe_callB call_len_seq (by rfl) T.n_len PySem.boot_len (pa_cons (pv 1) pa_nil))) (pe_callB call_len_seq (by rfl) T.n_len PySem.boot_len (pa_cons (pv 2) pa_nil))))
    (pss_cons (ps_set (i := 11) sc_nested_right.nd rfl (Or.inl rfl) (pe_op op_addI (pe_op op_mulI (pv 5) (pv 10)) (pe_ix ix_list (pe_lst (pa_cons (pe_op op_subI (pv 10) pe_int) (pa_cons (pe_op op_mulI (pe_op op_subI (pv 3) pe_int) (pe_callB call_len_seq (by rfl) T.n_len PySem.boot_len (pa_cons (pv 1) pa_nil))) pa_nil))) (pe_callTy call_int1 (by rfl) T.n_int (by decide +kernel) (pa_cons (pe_cmpR op_eqS (pe_op op_modI (pe_callTy call_int1 (by rfl) T.n_int (by decide +kernel) (pa_cons (pe_ix ix_list (pv 0) pe_int (fun _ _ => rfl)) pa_nil)) pe_int) pe_int (nomark _)) pa_nil)) (fun _ _ => rfl))))
    (pss_cons (ps_if (PW.pt (pw_or (pt_cmpR op_neS (pe_mtl0 h_length hr (by omega) (pv 8)) (pe_op op_mulI (pv 4) (pv 10)) (nomark _)) (pw_or (pt_cmpR op_neS (pe_mtl0 h_length hr (by omega) (pv 9)) (pe_mtl0 h_length hr (by omega) (pv 8)) (nomark _)) (pw_or1 (pt_cmpR (op_eqO h_Word_eq hr (by omega)) (pv 8) (pv 9) (nomark _)))))) (pss_one (ps_ret pe_bl)) pss_nil)
    (pss_cons (ps_if (PW.pt (pw_or (pt_cmpR op_neS (pe_cl h_first_difference hr (by omega) rfl (pa_cons (pv 8) (pa_cons (pv 9) pa_nil))) (pv 11) (nomark _)) (pw_or1 (pt_cmpR op_neS (pe_cl h_agreeing hr (by omega) rfl (pa_cons (pv 9) (pa_cons (pe_op op_addI (pv 11) pe_int) (pa_cons (pv 8) (pa_cons (pe_op op_addI (pv 11) pe_int) pa_nil))))) (pe_op op_subI (pe_op op_subI (pe_op op_mulI (pv 4) (pv 10)) (pv 11)) pe_int) (nomark _))))) (pss_one (ps_ret pe_bl)) pss_nil)
    (pss_one (ps_ret (pe_and (pe_cmpR (op_eqD hr.units) (pe_ixO h_getitem hr (by omega) (pv 8) (pv 11) (fun _ _ => by with_unfolding_all rfl)) (pe_ixO h_getitem hr (by omega) (pv 8) (pe_op op_modI (pe_callTy call_int1 (by rfl) T.n_int (by decide +kernel) (pa_cons (pv 11) pa_nil)) (pv 10)) (fun _ _ => by with_unfolding_all rfl)) (nomark _)) (pe_and (pe_cmpR (op_neD hr.units) (pe_ixO h_getitem hr (by omega) (pv 9) (pv 11) (fun _ _ => by with_unfolding_all rfl)) (pe_ixO h_getitem hr (by omega) (pv 8) (pv 11) (fun _ _ => by with_unfolding_all rfl)) (nomark _)) (pe_one (pe_cmpR (op_eqO h_Word_eq hr (by omega)) (pv 8) (pe_op (op_word2 (op := .Add) h_Word_add hr (by omega)) (pe_op (op_wordI (op := .Mult) h_Word_mul T.mulI hr (by omega)) (pv 6) (pe_op op_subI (pv 4) pe_int)) (pv 6)) (nomark _))))))))))))))))))))
def t_law (g : G) (n : Nat) : TS :=
    (tSeq (tFor (iRng1 (tCons (tCB rMin2 (tCons (tC (.int 3)) (tCons (tOp rAddI (tC (.int 1)) (tCB (rLenS g.K) (tCons (tVar 0) tNil))) tNil))) tNil)) (gName 1) (tSeq (tAsg (tCall spDigits [] E0 (tCons (tCall (spCell g) [] E0 (tCons (tVar 0) (tCons (tVar 1) tNil))) (tCons (tC (.int 60)) tNil))) (gName 2))
    (tIfS (tOr (tNot (tB (tCall spFarRight [] E0 (tCons (tVar 2) tNil)))) (tNot (tB (tCall spNestedRight [] E0 (tCons (tSl (rSlL g.K) (tVar 2) (tPart (tC (.int 30))) tNoPart) tNil))))) (tRet (tC (.bl false))) tNext)))
    (tRet (tC (.bl true))))
theorem d_law {P : Program} {w : World} {mg : Str → Option Value} {base : Heap} {g : G} {n : Nat} {A : Around} {outer : List Env} {s : Shared} {H : Hp} {E : XK} {f : Addr} {cdv : Value} (T : Txt g mg)
    (hr : Room (11 + 2 * n) (A.deeper (envOfC "law" (defScope s_law) s.heap.objs.size f cdv)))
    (h_nested_right : Cl P w g.K mg base (11 + 2 * n) "_law_nested_right" spNestedRight [])
    (h_far_right : Cl P w g.K mg base (11 + 2 * n) "_law_far_right" spFarRight [])
    (h_cell : Cl P w g.K mg base 1 "_law_cell" (spCell g) [])
    (h_digits : Cl P w g.K mg base 1 "_law_digits" spDigits []) :
    PSs (cxOf CX0 P w g.K mg base N_law "law" (defScope s_law) f cdv A outer s H E).nox (defBody s_law) (t_law g n) :=
    (pss_cons (ps_for PassesOwn.never rfl (pi_range1 rfl T.n_range (pa_cons (pe_callB (cr_min2 rfl) (by rfl) T.n_min (by decide +kernel) (pa_cons pe_int (pa_cons (pe_op op_addI pe_int (pe_callB call_len_seq (by rfl) T.n_len PySem.boot_len (pa_cons (pv 0) pa_nil))) pa_nil))) pa_nil)) (pg_name (i := 1) sc_law.nd rfl (Or.inl rfl)) (pss_cons (ps_set (i := 2) sc_law.nd rfl (Or.inl rfl) (pe_cl h_digits hr (by omega) rfl (pa_cons (pe_cl h_cell hr (by omega) rfl (pa_cons (pv 0) (pa_cons (pv 1) pa_nil))) (pa_cons pe_int pa_nil))))
    (pss_one (ps_if (PW.pt (pw_or (pt_not (pt_val (pe_cl h_far_right hr (by omega) rfl (pa_cons (pv 2) pa_nil)))) (pw_or1 (pt_not (pt_val (pe_cl h_nested_right hr (by omega) rfl (pa_cons (pe_slice sl_list (pv 2) (po_some pe_int) po_none) pa_nil))))))) (pss_one (ps_ret pe_bl)) pss_nil))))
    (pss_one (ps_ret pe_bl)))
end RH
set_option exponentiation.threshold 256
set_option Elab.async false
set_option linter.all false
set_option maxRecDepth 100000
set_option maxHeartbeats 4000000
namespace RH
open PySem PySem.Spec PyProof.Rows L2
/-- the ends of a def's body -/
abbrev EndQ (Q : VK) : Ends := { nx := fun _ H' => Q .non H', rt := Q }
theorem sameNew {H : Hp} {p : Addr} {o : HO} (h : H p = none) : Same H (upd H p o) := fun b u e => by
  rw [upd_ne (ne_of_none e h)]; exact e
theorem samePut {H H' : Hp} {p : Addr} {o : HO} (s : Same H H') (h : H p = none) : Same H (upd H' p o) := fun b u e => by
  rw [upd_ne (ne_of_none e h)]; exact s b u e
theorem sT {K : PySem.W.Frag} {H : Hp} {a : Addr} {xs : List V} (h : H a = some (.tup xs)) : SqT K H a xs := Or.inl (Or.inl h)
theorem sL {K : PySem.W.Frag} {H : Hp} {a : Addr} {xs : List V} (h : H a = some (.lst xs)) : SqL K H a xs := Or.inl (Or.inl h)
section
variable {g : G} {mg : Str → Option Value} {σ : L2.St} {H : Hp} {i : Nat}
/-- isinstance(x, T), x a name -/
theorem q_isi {Q : VK} {v : V} {T : String} {t : Value} {b : Bool} (hv : σ[i]? = some (some v)) (ty : TyX g.K H v t) (hk : PySem.W.kitOne g.K t (.type T) = some b) (q : Q (.bl b) H) :
    tCB (rIsi g.K) (tCons (tVar i) (tCons (tC (.ty T)) tNil)) σ H Q := ⟨v, hv, v, .ty T, t, .type T, b, rfl, .ty T, ty, hk, q⟩
theorem ty_int (n : Int) : TyX g.K H (.int n) (.type "int") := .base (.int n)
theorem kit_ii : PySem.W.kitOne g.K (.type "int") (.type "int") = some true := kit_ty (by decide +kernel)
theorem kit_ib : PySem.W.kitOne g.K (.type "int") (.type "bool") = some false := kit_ty (by decide +kernel)
theorem kit_tt : PySem.W.kitOne g.K (.type "tuple") (.type "tuple") = some true := kit_ty (by decide +kernel)
theorem kit_ss : PySem.W.kitOne g.K (.type "str") (.type "str") = some true := kit_ty (by decide +kernel)
theorem kit_ns : PySem.W.kitOne g.K (.type "NoneType") (.type "str") = some false := kit_ty (by decide +kernel)
theorem kit_ll : PySem.W.kitOne g.K (.type "list") (.type "list") = some true := kit_ty (by decide +kernel)
theorem ty_ent {e : Ent} {v : V} (h : EntV H e v) : TyX g.K H v (.type "tuple") := by
  obtain ⟨_, a, rfl, h⟩ := h
  exact .base (.tup h)
theorem ty_part (T : Txt g mg) {v : V} {w : List Ent} {d z : Nat} (h : PR g.part H v w d z) : TyX g.K H v (.ref g.part) := by
  obtain ⟨a, dx, l, lv, rv, t, tf, rfl, e⟩ := h.ins
  exact .base (.ins e T.part T.part_cl T.cls_get T.cls_tk T.part_ob)
/-- isinstance(unit, tuple) -/
theorem q_isU (T : Txt g mg) {Q : Bool → Hp → Prop} {v : V} {u : UD} (hv : σ[i]? = some (some v)) (h : UnV g.part H u v) (q : Q u.s.isNone H) :
    tB (tCB (rIsi g.K) (tCons (tVar i) (tCons (tC (.ty "tuple")) tNil))) σ H Q := by
  unfold UnV at h
  split at h
  · rename_i hs
    rw [hs] at q
    obtain ⟨_, e, _, he⟩ := h
    exact q_isi hv (ty_ent he) kit_tt ⟨true, rfl, q⟩
  · rename_i hs
    rw [hs] at q
    exact q_isi hv (ty_part T h.2) T.part_tup ⟨false, rfl, q⟩
/-- the same of any expression -/
theorem q_isT (T : Txt g mg) {te : TE} {Q : Bool → Hp → Prop} {v : V} {u : UD} (hv : ∀ R : VK, R v H → te σ H R) (h : UnV g.part H u v) (q : Q u.s.isNone H) :
    tB (tCB (rIsi g.K) (tCons te (tCons (tC (.ty "tuple")) tNil))) σ H Q := by
  unfold UnV at h
  split at h
  · rename_i hs
    rw [hs] at q
    obtain ⟨_, e, _, he⟩ := h
    exact hv _ ⟨v, .ty "tuple", _, _, true, rfl, .ty "tuple", ty_ent he, kit_tt, true, rfl, q⟩
  · rename_i hs
    rw [hs] at q
    exact hv _ ⟨v, .ty "tuple", _, _, false, rfl, .ty "tuple", ty_part T h.2, T.part_tup, false, rfl, q⟩
end
section
variable {g : G} {mg : Str → Option Value} {vs : List V} {H : Hp} {Q : VK} {E : XK}
theorem p_is_integer (h : spIsInteger vs H Q E) : t_is_integer g (EndQ Q) (start N_is_integer vs) H := by
  obtain ⟨i, rfl, q⟩ := h
  refine q_isi (v := .int i) rfl (ty_int i) kit_ii ⟨true, rfl, iteT ?_⟩
  exact q_isi (v := .int i) rfl (ty_int i) kit_ib ⟨false, rfl, q⟩
theorem p_is_between (h : spIsBetween vs H Q E) : t_is_between g (EndQ Q) (start N_is_between vs) H := by
  obtain ⟨i, lo, hi, rfl, q⟩ := h
  refine ⟨_, rfl, i, rfl, true, rfl, iteT ?_⟩
  refine ⟨_, rfl, _, rfl, iLe ⟨_, rfl, ?_⟩⟩
  by_cases h1 : lo ≤ i
  · rw [decide_eq_true h1] at q ⊢
    exact iteT ⟨_, rfl, iLe q⟩
  · rw [decide_eq_false h1] at q ⊢
    exact iteF q
theorem pf_letters (l lv rv t tf w : V) : (pf l lv rv t tf w).lookup ("letters" : Str) = some l := by rfl
theorem pf_left (l lv rv t tf w : V) : (pf l lv rv t tf w).lookup ("left" : Str) = some lv := by rfl
theorem pf_right (l lv rv t tf w : V) : (pf l lv rv t tf w).lookup ("right" : Str) = some rv := by rfl
theorem pf_times (l lv rv t tf w : V) : (pf l lv rv t tf w).lookup ("times" : Str) = some t := by rfl
theorem pf_turned (l lv rv t tf w : V) : (pf l lv rv t tf w).lookup ("turned_from" : Str) = some tf := by rfl
theorem pf_wide (l lv rv t tf w : V) : (pf l lv rv t tf w).lookup ("wide" : Str) = some w := by rfl
/-- e.wide of a part -/
theorem q_wide (T : Txt g mg) {ta : TE} {σ : L2.St} {v : V} {w : List Ent} {d z : Nat} (h : PR g.part H v w d z) (hv : ∀ R : VK, R v H → ta σ H R) (q : Q (.int (w.length : Nat)) H) : tFld g.K ta "wide" σ H Q := by
  obtain ⟨a, dx, l, lv, rv, t, tf, rfl, e⟩ := h.ins
  exact hv _ ⟨a, _, dx, _, _, rfl, e, T.part, T.p_wide, pf_wide .., q⟩
theorem p_width (T : Txt g mg) (h : spWidth g vs H Q E) : t_width g (EndQ Q) (start N_width vs) H := by
  obtain ⟨v, u, rfl, hu, q⟩ := h
  refine q_isU T (u := u) rfl hu ?_
  unfold UnV at hu
  split at hu
  · rename_i hs
    obtain ⟨_, e, he, _⟩ := hu
    rw [hs]
    refine iteT ?_
    rw [he] at q
    exact q
  · rename_i hs
    rw [hs]
    exact iteF (q_wide T hu.2 (fun R r => ⟨_, rfl, r⟩) q)
end
end RH
set_option exponentiation.threshold 256
set_option Elab.async false
set_option linter.all false
set_option maxRecDepth 100000
set_option maxHeartbeats 4000000
namespace RH
open PySem PySem.Spec PyProof.Rows L2
theorem upd_self {H : Hp} {a : Addr} {o : HO} (h : H a = some o) : upd H a o = H := by
  funext b
  unfold upd
  split
  · rename_i e; rw [e, h]
  · rfl
theorem q_setf {K : PySem.W.Frag} {C a dx : Addr} {fs : List (Str × V)} {f : Str} {tv : TE} {σ : L2.St} {H : Hp} {i : Nat} {y : V} {D : Ends} (hi : σ[i]? = some (some (.ref a))) (c : Cls K C) (n : NoAttr K C f) (hl : fs.length < 1000)
    (hv : ∀ R : VK, R y (upd H a (.ins C dx fs)) → tv σ (upd H a (.ins C dx fs)) R) (q : D.nx σ (upd H a (.ins C dx (putF f y fs)))) : sFld K (tVar i) tv f D σ (upd H a (.ins C dx fs)) :=
  hv _ ⟨_, hi, a, C, dx, fs, rfl, upd_same, c, n, hl, by rw [upd_upd]; exact q⟩
section
variable {g : G} {mg : Str → Option Value} {vs : List V} {H : Hp} {Q : VK} {E : XK}
theorem dec_ref (a : Addr) : decide (V.ref a = V.non) = false := decide_eq_false (fun h => nomatch h)
theorem p_Part_init (T : Txt g mg) (h : spPartInit g vs H Q E) : t_Part_init g (EndQ Q) (start N_Part_init vs) H := by
  obtain ⟨a, dx, row, lv, rv, t, tf, n, rfl, ha, hw, q⟩ := h
  rw [← upd_self ha]
  refine (show sFld g.K (tVar 0) (tVar 1) "letters" _ _ _ from q_setf (y := row) rfl T.part T.p_letters (by show (0 : Nat) < 1000; decide) (fun R r => ⟨_, rfl, r⟩) ?_)
  refine (show sFld g.K (tVar 0) (tVar 2) "left" _ _ _ from q_setf (y := lv) rfl T.part T.p_left (by show (1 : Nat) < 1000; decide) (fun R r => ⟨_, rfl, r⟩) ?_)
  refine (show sFld g.K (tVar 0) (tVar 3) "right" _ _ _ from q_setf (y := rv) rfl T.part T.p_right (by show (2 : Nat) < 1000; decide) (fun R r => ⟨_, rfl, r⟩) ?_)
  refine (show sFld g.K (tVar 0) (tVar 4) "times" _ _ _ from q_setf (y := t) rfl T.part T.p_times (by show (3 : Nat) < 1000; decide) (fun R r => ⟨_, rfl, r⟩) ?_)
  refine (show sFld g.K (tVar 0) (tVar 5) "turned_from" _ _ _ from q_setf (y := tf) rfl T.part T.p_turned (by show (4 : Nat) < 1000; decide) (fun R r => ⟨_, rfl, r⟩) ?_)
  rcases hw with ⟨rfl, p, ys, rfl, hp, rfl⟩ | ⟨b, db, fs, m, k, rfl, rfl, rfl, hb, hm, hc, rfl⟩ | ⟨b, db, fs, m, c, dc, gs, k, rfl, rfl, hb, hm, hcc, hk, rfl⟩
  · refine ⟨_, rfl, rfl, true, rfl, iteT ?_⟩
    have hp' : ∀ o, upd H a o p = some (.tup ys) := fun o => by rw [upd_ne (ne_of hp ha (by intro z; cases z))]; exact hp
    exact (show sFld g.K (tVar 0) _ "wide" _ _ _ from q_setf (y := .int (ys.length : Nat)) rfl T.part T.p_wide (by show (5 : Nat) < 1000; decide) (fun R r => ⟨_, rfl, p, ys, rfl, .inr (sT (hp' _)), r⟩) q)
  · have hb' : ∀ o, upd H a o b = some (.ins g.part db fs) := fun o => by
      rw [upd_ne (ne_of hb ha (by rintro z; injection z with _ _ z; subst z; cases hm))]; exact hb
    refine ⟨_, rfl, rfl, false, by rw [dec_ref], iteF ?_⟩
    refine ⟨_, rfl, rfl, true, rfl, iteT ?_⟩
    exact (show sFld g.K (tVar 0) _ "wide" _ _ _ from q_setf (y := .int (m * k)) rfl T.part T.p_wide (by show (5 : Nat) < 1000; decide) (fun R r => ⟨_, rfl, b, _, db, fs, _, rfl, hb' _, T.part, T.p_wide, hm, _, rfl, iMul hc r⟩) q)
  · have hb' : ∀ o, upd H a o b = some (.ins g.part db fs) := fun o => by
      rw [upd_ne (ne_of hb ha (by rintro z; injection z with _ _ z; subst z; cases hm))]; exact hb
    have hc' : ∀ o, upd H a o c = some (.ins g.part dc gs) := fun o => by
      rw [upd_ne (ne_of hcc ha (by rintro z; injection z with _ _ z; subst z; cases hk))]; exact hcc
    refine ⟨_, rfl, rfl, false, by rw [dec_ref], iteF ?_⟩
    refine ⟨_, rfl, rfl, false, by rw [dec_ref], iteF ?_⟩
    exact (show sFld g.K (tVar 0) _ "wide" _ _ _ from q_setf (y := .int (m + k)) rfl T.part T.p_wide (by show (5 : Nat) < 1000; decide) (fun R r => ⟨_, rfl, b, _, db, fs, _, rfl, hb' _, T.part, T.p_wide, hm, _, rfl, c, _, dc, gs, _, rfl, hc' _, T.part, T.p_wide, hk, iAdd r⟩) q)
/-- Part(..): what the new one holds -/
theorem q_Part {ta : TA} {dvs : List V} {σ : L2.St} {row lv rv t tf : V} {n : Int} (ha : ∀ R : List V → Hp → Prop, (∀ vs, vs ++ dvs = [row, lv, rv, t, tf] → R vs H) → ta σ H R) (hw : WideOk g H row lv rv t n)
    (q : ∀ x dx H', Same H H' → H' x = some (.ins g.part dx (pf row lv rv t tf (.int n))) → Q (.ref x) H') : tMake g.part (spPartInit g) dvs E0 ta σ H Q := by
  refine ha _ fun vs e x dx nx nd ne => ?_
  have s1 : Same H (upd (upd H dx (.own x)) x (.ins g.part dx [])) := samePut (sameNew nd) nx
  refine ⟨x, dx, row, lv, rv, t, tf, n, by rw [e], upd_same, ?_, rfl, q x dx _ ?_ upd_same⟩
  · rcases hw with ⟨h1, p, ys, h2, hp, h3⟩ | ⟨b, db, fs, m, k, h1, h2, h3, hb, hm, hc, h4⟩ | ⟨b, db, fs, m, c, dc, gs, k, h1, h2, hb, hm, hcc, hk, h4⟩
    · exact .inl ⟨h1, p, ys, h2, s1 _ _ hp, h3⟩
    · exact .inr (.inl ⟨b, db, fs, m, k, h1, h2, h3, s1 _ _ hb, hm, hc, h4⟩)
    · exact .inr (.inr ⟨b, db, fs, m, c, dc, gs, k, h1, h2, s1 _ _ hb, hm, s1 _ _ hcc, hk, h4⟩)
  · exact samePut s1 nx
def eu (e : Ent) : UD := ⟨[e], 1, none⟩
theorem den_eu : ∀ row : List Ent, den (row.map eu) = row
  | [] => rfl
  | e :: r => by
    show rp 1 [e] ++ den (r.map eu) = e :: r
    rw [rp_one, den_eu r]; rfl
theorem usz_eu : ∀ row : List Ent, usz (row.map eu) = 2 * row.length
  | [] => rfl
  | e :: r => by
    show 2 + 0 + usz (r.map eu) = 2 * (r.length + 1)
    rw [usz_eu r]; omega
theorem small3 : (3 : Nat) ≤ sizeLine := by decide
theorem p_opened (T : Txt g mg) (h : spOpened g vs H Q E) : t_opened g (EndQ Q) (start N_opened vs) H := by
  obtain ⟨v, r, w, d, z, us, rfl, hp, hr, q⟩ := h
  cases hp with
  | @leaf a dx l es row wb t tf bv k d zb ha hl he ht hb =>
    refine ⟨_, rfl, a, _, dx, _, _, rfl, ha, T.part, T.p_right, pf_right .., rfl, _, rfl, iteF ?_⟩
    refine ⟨_, rfl, a, _, dx, _, _, rfl, ha, T.part, T.p_left, pf_left .., rfl, _, rfl, iteF ?_⟩
    refine ⟨_, rfl, a, _, dx, _, _, rfl, ha, T.part, T.p_letters, pf_letters .., l, es, rfl, sT hl, fun p np => ⟨p, rfl, ⟨_, sT upd_same⟩, ?_⟩⟩
    have s0 : Same H (upd H p (.tup es.reverse)) := sameNew np
    have hlen : es.length = w.length := he.len
    refine for_tup (K := g.K) (a := p) (xs := es.reverse) (fun i σ H' => Same (upd H p (.tup es.reverse)) H' ∧ ∃ r' en, σ = [some (.ref a), some r', en] ∧ UR g.part H' ((w.drop (w.length - i)).map eu ++ us) r')
      ⟨Same.refl _, r, none, rfl, ?_⟩ (fun i σ H' _ x => sT (x.1 _ _ upd_same)) ?_ ?_
    · rw [Nat.sub_zero, List.drop_length]
      exact hr.mono s0
    · rintro i x σ H' hx ⟨sm, r', en, rfl, hu⟩
      have hi : i < es.length := by
        have := (List.getElem?_eq_some_iff.mp hx).1
        rwa [List.length_reverse] at this
      have hx2 : es[es.length - 1 - i]? = some x := by
        rw [List.getElem?_reverse hi] at hx; exact hx
      obtain ⟨e, he1, he2⟩ := he.get hx2
      refine ⟨_, rfl, _, rfl, small3, fun p2 np2 => ?_⟩
      refine ⟨sm.trans (sameNew np2), .ref p2, some x, rfl, ?_⟩
      have e1 : w.drop (w.length - (i + 1)) = e :: w.drop (w.length - i) := by
        rw [hlen] at he1 hi
        have hk : w.length - (i + 1) < w.length := by omega
        rw [List.drop_eq_getElem_cons hk, show w.length - (i + 1) + 1 = w.length - i by omega]
        congr 1
        have := (List.getElem?_eq_some_iff.mp he1).2
        rw [← this]
        congr 1
        omega
      rw [e1]
      exact ⟨p2, x, r', rfl, upd_same, ⟨Nat.le_refl 1, e, rfl, he2.mono ((s0.trans sm).trans (sameNew np2))⟩, hu.mono (sameNew np2)⟩
    · rintro σ H' ⟨sm, r', en, rfl, hu⟩
      rw [List.length_reverse, hlen, Nat.sub_self, List.drop_zero] at hu
      refine ⟨_, rfl, q H' r' (w.map eu) (s0.trans sm) hu ⟨den_eu w, by rw [usz_eu]; omega, fun c hc => ?_, fun c hc => ?_⟩⟩
      · obtain ⟨e, _, rfl⟩ := List.mem_map.mp hc
        exact Nat.zero_le _
      · obtain ⟨e, he3, rfl⟩ := List.mem_map.mp hc
        have : 0 < w.length := List.length_pos_of_mem he3
        exact ⟨this, this⟩
  | @rep a dx l lv tf bv w wb n k d z zb ha hl hn hw hp ht hb =>
    refine ⟨_, rfl, a, _, dx, _, _, rfl, ha, T.part, T.p_right, pf_right .., rfl, _, rfl, iteF ?_⟩
    refine ⟨_, rfl, a, _, dx, _, _, rfl, ha, T.part, T.p_left, pf_left .., rfl, _, rfl, ?_⟩
    obtain ⟨b, rfl⟩ := hp.ref
    rw [dec_ref]
    refine iteT ?_
    refine ⟨_, rfl, a, _, dx, _, _, rfl, ha, T.part, T.p_left, pf_left .., _, rfl, a, _, dx, _, _, rfl, ha, T.part, T.p_times, pf_times .., _, rfl, small3, fun p np => ?_⟩
    refine q _ (.ref p) [⟨w, n, some (d, z)⟩] (sameNew np) ⟨p, _, _, rfl, upd_same, ⟨hw, hp.mono (sameNew np)⟩, hr.mono (sameNew np)⟩ ⟨?_, ?_, ?_, ?_⟩
    · show rp n w ++ [] = rp n w
      rw [List.append_nil]
    · show 2 + z + 0 ≤ z + 3
      omega
    · intro c hc
      cases List.mem_singleton.mp hc
      show (if n ≤ 1 then d else d + 1) ≤ d + 1
      split <;> omega
    · intro c hc
      cases List.mem_singleton.mp hc
      have h1 : 0 < w.length := List.length_pos_iff.mpr hw
      rw [rp_len]
      refine ⟨?_, ?_⟩
      · show w.length ≤ n * w.length
        exact Nat.le_mul_of_pos_left _ hn
      · show n ≤ n * w.length
        exact Nat.le_mul_of_pos_right _ h1
  | @cat a dx l lv rv t tf bv w1 w2 wb k d z1 z2 zb ha hl h1 h2 hp hq ht hb =>
    refine ⟨_, rfl, a, _, dx, _, _, rfl, ha, T.part, T.p_right, pf_right .., rfl, _, rfl, ?_⟩
    obtain ⟨b, rfl⟩ := hp.ref
    obtain ⟨c, rfl⟩ := hq.ref
    rw [dec_ref]
    refine iteT ?_
    refine ⟨_, rfl, a, _, dx, _, _, rfl, ha, T.part, T.p_left, pf_left .., _, rfl, a, _, dx, _, _, rfl, ha, T.part, T.p_right, pf_right .., _, rfl, small3, fun p np => ?_⟩
    refine ⟨small3, fun p2 np2 => ?_⟩
    have s1 : Same H (upd H p (.tup [.ref c, .int 1, r])) := sameNew np
    have s2 := s1.trans (sameNew (o := .tup [.ref b, .int 1, .ref p]) np2)
    refine q _ (.ref p2) [⟨w1, 1, some (d, z1)⟩, ⟨w2, 1, some (d, z2)⟩] s2 ⟨p2, _, _, rfl, upd_same, ⟨h1, hp.mono s2⟩, p, _, _, rfl, ?_, ⟨h2, hq.mono s2⟩, hr.mono s2⟩ ⟨?_, ?_, ?_, ?_⟩
    · rw [upd_ne (ne_of_none (upd_same (H := H)) np2)]
      exact upd_same
    · show rp 1 w1 ++ (rp 1 w2 ++ []) = w1 ++ w2
      rw [rp_one, rp_one, List.append_nil]
    · show 2 + z1 + (2 + z2 + 0) ≤ z1 + z2 + 5
      omega
    · intro c hc
      rcases List.mem_cons.mp hc with rfl | hc
      · exact Nat.le_refl d
      · cases List.mem_singleton.mp hc
        exact Nat.le_refl d
    · have l1 : 0 < w1.length := List.length_pos_iff.mpr h1
      have l2 : 0 < w2.length := List.length_pos_iff.mpr h2
      intro c hc
      rw [List.length_append]
      rcases List.mem_cons.mp hc with rfl | hc
      · exact ⟨by show w1.length ≤ _; omega, by show 1 ≤ _; omega⟩
      · cases List.mem_singleton.mp hc
        exact ⟨by show w2.length ≤ _; omega, by show 1 ≤ _; omega⟩
end
end RH
set_option exponentiation.threshold 256
set_option Elab.async false
set_option linter.all false
set_option maxRecDepth 100000
set_option maxHeartbeats 4000000
set_option exponentiation.threshold 100
namespace RH
open PySem PySem.Spec PyProof.Rows L2
section
variable {g : G} {mg : Str → Option Value} {vs : List V} {H : Hp} {Q : VK} {E : XK}
theorem dec_int {m n : Int} : decide (V.int m = V.int n) = decide (m = n) := by
  by_cases h : m = n
  · rw [decide_eq_true h, decide_eq_true (by rw [h])]
  · rw [decide_eq_false h, decide_eq_false (fun q => h (by injection q))]
theorem dec_nil (w : List Ent) : decide (V.int (w.length : Nat) = V.int 0) = decide (w = []) := by
  rw [dec_int]
  by_cases h : w = []
  · subst h; rfl
  · have : 0 < w.length := List.length_pos_iff.mpr h
    rw [decide_eq_false h, decide_eq_false (by omega)]
/-- e.wide == 0 -/
theorem q_wideZ (T : Txt g mg) {ta : TE} {σ : L2.St} {v : V} {w : List Ent} {d z : Nat} {R : Bool → Hp → Prop} (h : PR g.part H v w d z) (hv : ∀ R : VK, R v H → ta σ H R) (q : R (decide (w = [])) H) :
    tTest (tOp rEqS (tFld g.K ta "wide") (tC (.int 0))) σ H R := by
  refine q_wide (Q := fun x H1 => rEqS x (.int 0) H1 fun x H' => ∃ k, x = .bl k ∧ R k H') T h hv (sEq rfl ⟨_, rfl, ?_⟩)
  rw [dec_nil]
  exact q
/-- a Part at the end of its making -/
theorem q_PartT {row lv rv t tf : V} {n : Int} {vs dvs : List V} (e : vs ++ dvs = [row, lv, rv, t, tf]) (hw : WideOk g H row lv rv t n) (q : ∀ x dx H', Same H H' → H' x = some (.ins g.part dx (pf row lv rv t tf (.int n))) → Q (.ref x) H') :
    ∀ x dx, H x = none → H dx = none → dx ≠ x → spPartInit g (.ref x :: (vs ++ dvs)) (upd (upd H dx (.own x)) x (.ins g.part dx [])) (fun v H2 => v = .non ∧ Q (.ref x) H2) E0 := by
  have k := q_Part (ta := fun _ H R => R vs H) (dvs := dvs) (σ := []) (fun R r => r vs e) hw q
  exact k
/-- the same with what follows left open -/
theorem q_PartR {row lv rv t tf : V} {n : Int} {vs dvs : List V} {R : VK} {x dx : Addr} (e : vs ++ dvs = [row, lv, rv, t, tf]) (hw : WideOk g H row lv rv t n) (nx : H x = none) (nd : H dx = none) (ne : dx ≠ x)
    (q : ∀ H', Same H H' → H' x = some (.ins g.part dx (pf row lv rv t tf (.int n))) → R .non H') : spPartInit g (.ref x :: (vs ++ dvs)) (upd (upd H dx (.own x)) x (.ins g.part dx [])) R E0 := by
  have s1 : Same H (upd (upd H dx (.own x)) x (.ins g.part dx [])) := samePut (sameNew nd) nx
  refine ⟨x, dx, row, lv, rv, t, tf, n, by rw [e], upd_same, ?_, q _ (samePut s1 nx) upd_same⟩
  rcases hw with ⟨h1, p, ys, h2, hp, h3⟩ | ⟨b, db, fs, m, k, h1, h2, h3, hb, hm, hc, h4⟩ | ⟨b, db, fs, m, c, dc, gs, k, h1, h2, hb, hm, hcc, hk, h4⟩
  · exact .inl ⟨h1, p, ys, h2, s1 _ _ hp, h3⟩
  · exact .inr (.inl ⟨b, db, fs, m, k, h1, h2, h3, s1 _ _ hb, hm, hc, h4⟩)
  · exact .inr (.inr ⟨b, db, fs, m, c, dc, gs, k, h1, h2, s1 _ _ hb, hm, s1 _ _ hcc, hk, h4⟩)
theorem wide_leaf {H : Hp} {p : Addr} {ys : List V} (h : H p = some (.tup ys)) {rv t : V} : WideOk g H (.ref p) .non rv t (ys.length : Nat) := .inl ⟨rfl, p, ys, rfl, h, rfl⟩
theorem lim_log {n k : Nat} (h : n < 2 ^ k) (hk : 0 < k) : n.log2 < k := by
  by_cases h0 : n = 0
  · subst h0; exact hk
  · exact (Nat.log2_lt h0).mpr h
theorem nat_log {n k : Nat} (h : n < 2 ^ k) (hk : 0 < k) : ((n : Nat) : Int).natAbs.log2 < k := by
  rw [Int.natAbs_natCast]; exact lim_log h hk
/-- products of numbers of letters -/
theorem mulW {m n : Nat} (hm : m < 2 ^ 100000) (hn : n < 2 ^ 100000) : CMulW (m : Nat) (n : Nat) := by
  have a := nat_log hm (by decide)
  have b := nat_log hn (by decide)
  show ((m : Nat) : Int).natAbs.log2 + ((n : Nat) : Int).natAbs.log2 < 1000000
  omega
theorem lim_pow (k e : Nat) (he : e ≤ 90000) {n : Nat} (h : n < 2 ^ e * LIM) : n < 2 ^ 100000 := by
  refine Nat.lt_of_lt_of_le h ?_
  unfold LIM
  rw [← Nat.pow_add]
  exact Nat.pow_le_pow_right (by decide) (by omega)
theorem lim1 {n : Nat} (h : n < LIM) : n < 2 ^ 100000 := lim_pow 0 0 (by decide) (by rw [Nat.pow_zero, Nat.one_mul]; exact h)
theorem lim2 {n : Nat} (h : n < 8 * LIM * LIM) : n < 2 ^ 100000 := by
  refine lim_pow 0 8003 (by decide) ?_
  have e : 8 * LIM * LIM = 2 ^ 8003 * LIM := by
    unfold LIM
    rw [show (2 : Nat) ^ 8003 = 8 * 2 ^ 8000 by rw [show 8003 = 3 + 8000 from rfl, Nat.pow_add]]
  rw [← e]
  exact h
theorem wide_rep {H : Hp} {row lv t tf : V} {w : List Ent} {d z n : Nat} (h : PR g.part H lv w d z) (hn : n * w.length < 8 * LIM * LIM) (hp : 1 ≤ n) (hw : w ≠ []) : WideOk g H row lv .non (.int (n : Nat)) (((n * w.length : Nat)) : Int) := by
  obtain ⟨a, dx, l, lv', rv, t', tf', rfl, e⟩ := h.ins
  have l1 : 0 < w.length := List.length_pos_iff.mpr hw
  have n1 : n ≤ n * w.length := Nat.le_mul_of_pos_right _ l1
  have n2 : w.length ≤ n * w.length := Nat.le_mul_of_pos_left _ hp
  refine .inr (.inl ⟨a, dx, _, (w.length : Nat), (n : Nat), rfl, rfl, rfl, e, pf_wide .., mulW (lim2 (by omega)) (lim2 (by omega)), ?_⟩)
  rw [Int.natCast_mul, Int.mul_comm]
theorem wide_cat {H : Hp} {row lv rv t tf : V} {w1 w2 : List Ent} {d1 z1 d2 z2 : Nat} (h1 : PR g.part H lv w1 d1 z1) (h2 : PR g.part H rv w2 d2 z2) : WideOk g H row lv rv t ((w1.length + w2.length : Nat) : Int) := by
  obtain ⟨a, dx, l, lv', rv', t', tf', rfl, e⟩ := h1.ins
  obtain ⟨b, dy, m, lw, rw', u', uf', rfl, e'⟩ := h2.ins
  exact .inr (.inr ⟨a, dx, _, _, b, dy, _, _, rfl, rfl, e, pf_wide .., e', pf_wide .., by rw [Int.natCast_add]⟩)
theorem turn0 {H : Hp} {bv : V} {k : Nat} {w wb : List Ent} : TurnOk H .non bv k w wb := .inl rfl
/-- a new leaf -/
theorem mkLeaf {H : Hp} {x dx p : Addr} {ys : List V} {row : List Ent} {t : V} {d : Nat} (hx : H x = some (.ins g.part dx (pf (.ref p) .non .non t .non (.int (ys.length : Nat))))) (hp : H p = some (.tup ys)) (he : EntsV H row ys) : PR g.part H (.ref x) row d (2 * row.length + 1) := by
  rw [he.len] at hx
  exact .leaf (bv := .non) (wb := []) (k := 0) (zb := 0) hx hp he turn0 fun z => absurd rfl z
theorem mkRep {H : Hp} {x dx p : Addr} {lv : V} {w : List Ent} {n d z : Nat} (hx : H x = some (.ins g.part dx (pf (.ref p) lv .non (.int (n : Nat)) .non (.int (((n * w.length : Nat)) : Int))))) (hp : H p = some (.tup [])) (hn : 1 ≤ n) (hw : w ≠ []) (h : PR g.part H lv w d z) : PR g.part H (.ref x) (rp n w) (d + 1) (z + 3) :=
  .rep (bv := .non) (wb := []) (k := 0) (zb := 0) hx hp hn hw h turn0 fun z => absurd rfl z
theorem mkCat {H : Hp} {x dx p : Addr} {lv rv t : V} {w1 w2 : List Ent} {d z1 z2 : Nat} (hx : H x = some (.ins g.part dx (pf (.ref p) lv rv t .non (.int ((w1.length + w2.length : Nat) : Int))))) (hp : H p = some (.tup [])) (h1 : w1 ≠ []) (h2 : w2 ≠ []) (k1 : PR g.part H lv w1 d z1) (k2 : PR g.part H rv w2 d z2) : PR g.part H (.ref x) (w1 ++ w2) d (z1 + z2 + 5) :=
  .cat (bv := .non) (wb := []) (k := 0) (zb := 0) hx hp h1 h2 k1 k2 turn0 fun z => absurd rfl z
theorem small0 : (0 : Nat) ≤ sizeLine := Nat.zero_le _
/-- the last lines of joined: Part((), one, other, 1) -/
theorem joinedEnd {v1 v2 : V} {x : Option V} {w1 w2 : List Ent} {d z1 z2 : Nat} (h1 : PR g.part H v1 w1 d z1) (h2 : PR g.part H v2 w2 d z2) (n1 : w1 ≠ []) (n2 : w2 ≠ []) (q : ∀ H' v z, Same H H' → PR g.part H' v (w1 ++ w2) d z → Q v H') :
    tRet (tMake g.part (spPartInit g) [.non] E0 (tCons (tTup tNil) (tCons (tVar 0) (tCons (tVar 1) (tCons (tC (.int 1)) tNil))))) (EndQ Q) [some v1, some v2, x, none] H := by
  refine ⟨small0, fun p np => ⟨_, rfl, _, rfl, ?_⟩⟩
  have s1 : Same H (upd H p (.tup [])) := sameNew np
  refine q_PartT (by rfl) (wide_cat (tf := .non) (h1.mono s1) (h2.mono s1)) fun y dy H' s2 hy => ?_
  exact q H' _ _ (s1.trans s2) (mkCat hy (s2 _ _ upd_same) n1 n2 (h1.mono (s1.trans s2)) (h2.mono (s1.trans s2)))
theorem p_joined (T : Txt g mg) (h : spJoined g vs H Q E) : t_joined g (EndQ Q) (start N_joined vs) H := by
  obtain ⟨v1, v2, w1, w2, d, z1, z2, rfl, h1, h2, q⟩ := h
  refine q_wideZ T h1 (fun R r => ⟨_, rfl, r⟩) ?_
  by_cases n1 : w1 = []
  · rw [decide_eq_true n1]
    refine iteT (iteT (q_wideZ T h1 (fun R r => ⟨_, rfl, r⟩) ?_))
    rw [decide_eq_true n1]
    refine iteT ⟨_, rfl, q H _ z2 (Same.refl H) ?_⟩
    rw [n1]
    exact h2
  rw [decide_eq_false n1]
  refine iteF (q_wideZ T h2 (fun R r => ⟨_, rfl, r⟩) ?_)
  by_cases n2 : w2 = []
  · rw [decide_eq_true n2]
    refine iteT (q_wideZ T h1 (fun R r => ⟨_, rfl, r⟩) ?_)
    rw [decide_eq_false n1]
    refine iteF ⟨_, rfl, q H _ z1 (Same.refl H) ?_⟩
    rw [n2, List.append_nil]
    exact h1
  rw [decide_eq_false n2]
  refine iteF ?_
  -- the other one's fields
  obtain ⟨c, dc, lc, ec, lvc, rvc, tc, tfc, rfl, hc, hlc, hcs⟩ : ∃ c dc lc ec lvc rvc tc tfc, v2 = .ref c ∧ H c = some (.ins g.part dc (pf (.ref lc) lvc rvc tc tfc (.int (w2.length : Nat)))) ∧ H lc = some (.tup ec) ∧ (lvc = .non → EntsV H w2 ec) := by
    cases h2 with
    | leaf ha hl he => exact ⟨_, _, _, _, _, _, _, _, rfl, ha, hl, fun _ => he⟩
    | rep ha hl _ _ hp => obtain ⟨b, rfl⟩ := hp.ref; exact ⟨_, _, _, _, .ref b, _, _, _, rfl, by rw [rp_len]; exact ha, hl, fun z => nomatch z⟩
    | cat ha hl _ _ hp => obtain ⟨b, rfl⟩ := hp.ref; exact ⟨_, _, _, _, .ref b, _, _, _, rfl, by rw [List.length_append]; exact ha, hl, fun z => nomatch z⟩
  -- what happens when last is a leaf at b (its letters at lb, eb)
  cases id h1 with
  | @leaf a dx l es row wb t tf bv k d zb ha hl he ht hb =>
    refine ⟨_, rfl, a, _, dx, _, _, rfl, ha, T.part, T.p_right, pf_right .., rfl, _, rfl, iteT ⟨_, rfl, ?_⟩⟩
    refine ⟨_, rfl, a, _, dx, _, _, rfl, ha, T.part, T.p_left, pf_left .., rfl, _, rfl, iteT ?_⟩
    refine ⟨_, rfl, c, _, dc, _, _, rfl, hc, T.part, T.p_left, pf_left .., rfl, _, rfl, ?_⟩
    by_cases hv : lvc = .non
    · rw [decide_eq_true hv]
      have he2 := hcs hv
      refine iteT ⟨_, rfl, a, _, dx, _, _, rfl, ha, T.part, T.p_letters, pf_letters .., l, es, rfl, .inr (sT hl), _, rfl, c, _, dc, _, _, rfl, hc, T.part, T.p_letters, pf_letters .., lc, ec, rfl, .inr (sT hlc), iAdd (iLe ⟨_, rfl, ?_⟩)⟩
      refine ite2 (fun hle => ?_) (fun _ => joinedEnd h1 h2 n1 n2 q)
      have hle := of_decide_eq_true hle
      have x1 : es ≠ [] := fun z => n1 (List.eq_nil_of_length_eq_zero (by rw [← he.len, z]; rfl))
      have x2 : ec ≠ [] := fun z => n2 (List.eq_nil_of_length_eq_zero (by rw [← he2.len, z]; rfl))
      refine ⟨_, rfl, a, _, dx, _, _, rfl, ha, T.part, T.p_letters, pf_letters .., _, rfl, c, _, dc, _, _, rfl, hc, T.part, T.p_letters, pf_letters .., l, lc, es, ec, rfl, rfl, sT hl, sT hlc, ?_, fun z => absurd z x1, fun _ z => absurd z x2, fun _ _ p np => ?_⟩
      · have : es.length + ec.length ≤ 60 := by omega
        exact Nat.le_trans this (by decide)
      have s1 : Same H (upd H p (.tup (es ++ ec))) := sameNew np
      intro y dy nx0 nd0 ne0
      refine q_PartR (vs := [.ref p, .non, .non, .int 1]) (dvs := [.non]) rfl (wide_leaf upd_same) nx0 nd0 ne0 fun H' s2 hy => ⟨rfl, ?_⟩
      refine ⟨_, rfl, a, _, dx, _, _, rfl, s2 _ _ (s1 _ _ ha), T.part, T.p_right, pf_right .., rfl, _, rfl, iteT ⟨_, rfl, ?_⟩⟩
      exact q H' _ _ (s1.trans s2) (mkLeaf hy (s2 _ _ upd_same) ((he.append he2).mono (s1.trans s2)))
    · rw [decide_eq_false hv]
      exact iteF (iteF (joinedEnd h1 h2 n1 n2 q))
  | @rep a dx l lv tf bv w wb n k d z zb ha hl hn hw hp ht hb =>
    obtain ⟨b, rfl⟩ := hp.ref
    refine ⟨_, rfl, a, _, dx, _, _, rfl, ha, T.part, T.p_right, pf_right .., rfl, _, rfl, iteT ⟨_, rfl, ?_⟩⟩
    refine ⟨_, rfl, a, _, dx, _, _, rfl, ha, T.part, T.p_left, pf_left .., rfl, _, rfl, ?_⟩
    rw [dec_ref]
    exact iteF (iteF (joinedEnd h1 h2 n1 n2 q))
  | @cat a dx l lv rv t tf bv w1 w2' wb k d z1 z2' zb ha hl m1 m2 hp hq ht hb =>
    obtain ⟨b, rfl⟩ := hq.ref
    refine ⟨_, rfl, a, _, dx, _, _, rfl, ha, T.part, T.p_right, pf_right .., rfl, _, rfl, ?_⟩
    rw [dec_ref]
    refine iteF ⟨_, rfl, a, _, dx, _, _, rfl, ha, T.part, T.p_right, pf_right .., ?_⟩
    cases id hq with
    | @leaf _ db lb eb _ wb' tb tfb bvb kb _ zbb hab hlb heb htb hbb =>
      refine ⟨_, rfl, b, _, db, _, _, rfl, hab, T.part, T.p_left, pf_left .., rfl, _, rfl, iteT ?_⟩
      refine ⟨_, rfl, c, _, dc, _, _, rfl, hc, T.part, T.p_left, pf_left .., rfl, _, rfl, ?_⟩
      by_cases hv : lvc = .non
      · rw [decide_eq_true hv]
        have he2 := hcs hv
        refine iteT ⟨_, rfl, b, _, db, _, _, rfl, hab, T.part, T.p_letters, pf_letters .., lb, eb, rfl, .inr (sT hlb), _, rfl, c, _, dc, _, _, rfl, hc, T.part, T.p_letters, pf_letters .., lc, ec, rfl, .inr (sT hlc), iAdd (iLe ⟨_, rfl, ?_⟩)⟩
        refine ite2 (fun hle => ?_) (fun _ => joinedEnd h1 h2 n1 n2 q)
        have hle := of_decide_eq_true hle
        have x1 : eb ≠ [] := fun z => m2 (List.eq_nil_of_length_eq_zero (by rw [← heb.len, z]; rfl))
        have x2 : ec ≠ [] := fun z => n2 (List.eq_nil_of_length_eq_zero (by rw [← he2.len, z]; rfl))
        refine ⟨_, rfl, b, _, db, _, _, rfl, hab, T.part, T.p_letters, pf_letters .., _, rfl, c, _, dc, _, _, rfl, hc, T.part, T.p_letters, pf_letters .., lb, lc, eb, ec, rfl, rfl, sT hlb, sT hlc, ?_, fun z => absurd z x1, fun _ z => absurd z x2, fun _ _ p np => ?_⟩
        · have : eb.length + ec.length ≤ 60 := by omega
          exact Nat.le_trans this (by decide)
        have s1 : Same H (upd H p (.tup (eb ++ ec))) := sameNew np
        intro y dy nx0 nd0 ne0
        refine q_PartR (vs := [.ref p, .non, .non, .int 1]) (dvs := [.non]) rfl (wide_leaf upd_same) nx0 nd0 ne0 fun H' s2 hy => ⟨rfl, ?_⟩
        have s3 := s1.trans s2
        have hnew : PR g.part H' (.ref y) (w2' ++ w2) d (2 * (w2' ++ w2).length + 1) := mkLeaf hy (s2 _ _ upd_same) ((heb.append he2).mono s3)
        refine ⟨_, rfl, a, _, dx, _, _, rfl, s3 _ _ ha, T.part, T.p_right, pf_right .., rfl, _, rfl, ?_⟩
        rw [dec_ref]
        refine iteF ⟨small0, fun p2 np2 => ⟨_, rfl, a, _, dx, _, _, rfl, sameNew np2 _ _ (s3 _ _ ha), T.part, T.p_left, pf_left .., _, rfl, ?_⟩⟩
        have s4 : Same H' (upd H' p2 (.tup [])) := sameNew np2
        refine q_PartT (by rfl) (wide_cat (tf := .non) (hp.mono (s3.trans s4)) (hnew.mono s4)) fun y2 dy2 H2 s5 hy2 => ?_
        refine q H2 _ (z1 + (2 * (w2' ++ w2).length + 1) + 5) ((s3.trans s4).trans s5) ?_
        rw [List.append_assoc]
        exact mkCat hy2 (s5 _ _ upd_same) m1 (fun z => n2 (List.append_eq_nil_iff.mp z).2) (hp.mono ((s3.trans s4).trans s5)) (hnew.mono (s4.trans s5))
      · rw [decide_eq_false hv]
        exact iteF (iteF (joinedEnd h1 h2 n1 n2 q))
    | @rep _ db lb lvb tfb bvb wr wb' nb kb _ zr zbb hab hlb hnb hwb hpb htb hbb =>
      obtain ⟨b2, rfl⟩ := hpb.ref
      refine ⟨_, rfl, b, _, db, _, _, rfl, hab, T.part, T.p_left, pf_left .., rfl, _, rfl, ?_⟩
      rw [dec_ref]
      exact iteF (iteF (joinedEnd h1 h2 n1 n2 q))
    | @cat _ db lb lvb rvb tb tfb bvb wr1 wr2 wb' kb _ zr1 zr2 zbb hab hlb _ _ hpb hqb htb hbb =>
      obtain ⟨b2, rfl⟩ := hpb.ref
      refine ⟨_, rfl, b, _, db, _, _, rfl, hab, T.part, T.p_left, pf_left .., rfl, _, rfl, ?_⟩
      rw [dec_ref]
      exact iteF (iteF (joinedEnd h1 h2 n1 n2 q))
end
end RH
set_option exponentiation.threshold 256
set_option Elab.async false
set_option linter.all false
set_option maxRecDepth 100000
set_option maxHeartbeats 4000000
set_option exponentiation.threshold 100
namespace RH
open PySem PySem.Spec PyProof.Rows L2
section
variable {g : G} {mg : Str → Option Value} {vs : List V} {H : Hp} {Q : VK} {E : XK}
theorem dec_nat {m n : Nat} : decide (V.int (m : Nat) = V.int (n : Nat)) = decide (m = n) := by
  rw [dec_int]
  by_cases h : m = n
  · subst h; rw [decide_eq_true rfl, decide_eq_true rfl]
  · rw [decide_eq_false h, decide_eq_false (by omega)]
theorem p_repeated (T : Txt g mg) (h : spRepeated g vs H Q E) : t_repeated g (EndQ Q) (start N_repeated vs) H := by
  obtain ⟨v, w, d, z, n, D, rfl, hp, hb, hD, hD2, q⟩ := h
  have hnil : (n = 0 ∨ w = []) → tRet (tMake g.part (spPartInit g) [.non] E0 (tCons (tTup tNil) (tCons (tC .non) (tCons (tC .non) (tCons (tC (.int 1)) tNil))))) (EndQ Q) (start N_repeated [v, .int (n : Nat)]) H := fun hz => by
    refine ⟨small0, fun p np => ?_⟩
    have s1 : Same H (upd H p (.tup [])) := sameNew np
    refine q_PartT (vs := [.ref p, .non, .non, .int 1]) (dvs := [.non]) rfl (wide_leaf upd_same) fun y dy H' s2 hy => ?_
    refine q H' _ (2 * ([] : List Ent).length + 1) (s1.trans s2) ?_
    have e : rp n w = [] := by
      rcases hz with hz | hz
      · rw [hz, rp_zero]
      · rw [hz, rp_nil]
    rw [e]
    exact mkLeaf hy (s2 _ _ upd_same) trivial
  refine ⟨_, rfl, sEq rfl ⟨_, rfl, ?_⟩⟩
  rw [show decide (V.int (n : Nat) = V.int 0) = decide (n = 0) from dec_nat (n := 0)]
  by_cases hn : n = 0
  · rw [decide_eq_true hn]
    exact iteT (iteT (hnil (.inl hn)))
  rw [decide_eq_false hn]
  refine iteF (q_wideZ T hp (fun R r => ⟨_, rfl, r⟩) ?_)
  by_cases hw : w = []
  · rw [decide_eq_true hw]
    exact iteT (hnil (.inr hw))
  rw [decide_eq_false hw]
  refine iteF ?_
  have hl : 0 < w.length := List.length_pos_iff.mpr hw
  have n1 : n ≤ n * w.length := Nat.le_mul_of_pos_right _ hl
  have n2 : w.length ≤ n * w.length := Nat.le_mul_of_pos_left _ (by omega)
  -- the last line
  have hend : tRet (tIf (tTest (tOp rEqS (tVar 1) (tC (.int 1)))) (tVar 0) (tMake g.part (spPartInit g) [.non] E0 (tCons (tTup tNil) (tCons (tVar 0) (tCons (tC .non) (tCons (tVar 1) tNil)))))) (EndQ Q) (start N_repeated [v, .int (n : Nat)]) H := by
    refine ⟨_, rfl, sEq rfl ⟨_, rfl, ?_⟩⟩
    rw [show decide (V.int (n : Nat) = V.int 1) = decide (n = 1) from dec_nat (n := 1)]
    by_cases h1 : n = 1
    · rw [decide_eq_true h1]
      refine iteT ⟨_, rfl, q H _ z (Same.refl H) ?_⟩
      rw [h1, rp_one]
      exact hp.up hD
    · rw [decide_eq_false h1]
      refine iteF ⟨small0, fun p np => ⟨_, rfl, _, rfl, ?_⟩⟩
      have s1 : Same H (upd H p (.tup [])) := sameNew np
      refine q_PartT (vs := [.ref p, v, .non, .int (n : Nat)]) (dvs := [.non]) (by rfl) (wide_rep (t := .non) (tf := .non) (hp.mono s1) hb (by omega) hw) fun y dy H' s2 hy => ?_
      exact q H' _ _ (s1.trans s2) ((mkRep hy (s2 _ _ upd_same) (by omega) hw (hp.mono (s1.trans s2))).up (hD2 (by omega)))
  cases id hp with
  | @leaf a dx l es row wb t tf bv k d zb ha hll he ht hbb =>
    exact ⟨_, rfl, a, _, dx, _, _, rfl, ha, T.part, T.p_left, pf_left .., rfl, _, rfl, iteF (iteF hend)⟩
  | @rep a dx l lv tf bv w0 wb m k d z zb ha hll hm hw0 hp0 ht hbb =>
    obtain ⟨b, rfl⟩ := hp0.ref
    refine ⟨_, rfl, a, _, dx, _, _, rfl, ha, T.part, T.p_left, pf_left .., rfl, _, rfl, ?_⟩
    rw [dec_ref]
    refine iteT ⟨_, rfl, a, _, dx, _, _, rfl, ha, T.part, T.p_right, pf_right .., rfl, _, rfl, iteT ?_⟩
    have hl0 : 0 < w0.length := List.length_pos_iff.mpr hw0
    have em : (rp m w0).length = m * w0.length := rp_len m w0
    have m1 : m ≤ m * w0.length := Nat.le_mul_of_pos_right _ hl0
    have ea : n * (rp m w0).length = (m * n) * w0.length := by rw [em, ← Nat.mul_assoc, Nat.mul_comm n m]
    refine ⟨small0, fun p np => ⟨_, rfl, a, _, dx, _, _, rfl, sameNew np _ _ ha, T.part, T.p_left, pf_left .., _, rfl, a, _, dx, _, _, rfl, sameNew np _ _ ha, T.part, T.p_times, pf_times .., _, rfl, iMul (mulW (lim2 (by omega)) (lim2 (by omega))) ?_⟩⟩
    have s1 : Same H (upd H p (.tup [])) := sameNew np
    have et : (m : Int) * (n : Int) = ((m * n : Nat) : Int) := (Int.natCast_mul m n).symm
    refine q_PartT (vs := [.ref p, .ref b, .non, .int ((m * n : Nat) : Int)]) (dvs := [.non]) (by rfl) (wide_rep (t := .non) (tf := .non) (hp0.mono s1) (by rw [← ea]; exact hb) (Nat.mul_pos hm (by omega)) hw0) fun y dy H' s2 hy => ?_
    refine q H' _ (z + 3) (s1.trans s2) ?_
    rw [rp_mul]
    exact (mkRep hy (s2 _ _ upd_same) (Nat.mul_pos hm (by omega)) hw0 (hp0.mono (s1.trans s2))).up hD
  | @cat a dx l lv rv t tf bv w1 w2 wb k d z1 z2 zb ha hll m1 m2 hp1 hq1 ht hbb =>
    obtain ⟨b, rfl⟩ := hp1.ref
    obtain ⟨c, rfl⟩ := hq1.ref
    refine ⟨_, rfl, a, _, dx, _, _, rfl, ha, T.part, T.p_left, pf_left .., rfl, _, rfl, ?_⟩
    rw [dec_ref]
    refine iteT ⟨_, rfl, a, _, dx, _, _, rfl, ha, T.part, T.p_right, pf_right .., rfl, _, rfl, ?_⟩
    rw [dec_ref]
    exact iteF hend
theorem den_zero {u : UD} {us : List UD} (h : u.t = 0) : den (u :: us) = den us := by
  show rp u.t u.w ++ den us = den us
  rw [h, rp_zero, List.nil_append]
theorem Rk.skip {R m : Nat} {u : UD} {us : List UD} (h : u.t = 0) (k : Rk R (u :: us) m) : Rk R us m := by
  have := k.tail
  rwa [h, Nat.zero_mul, Nat.sub_zero] at this
/-- a part that stands once is opened -/
theorem Rk.open {R m d z : Nat} {w : List Ent} {cs us : List UD} (o : Opn cs w d z) (k : Rk R (⟨w, 1, some (d, z)⟩ :: us) m) : Rk R (cs ++ us) m := by
  by_cases hm : m = 0
  · subst hm; exact Rk.zero
  · have h1 := k.head (Nat.pos_of_ne_zero hm)
    have h2 := k.tail
    have h3 : rkm ⟨w, 1, some (d, z)⟩ m = 2 * d := rfl
    rw [h3] at h1
    refine Rk.front (fun c hc => ?_) ?_
    · rw [rkx_udp]
      have := o.udp c hc
      omega
    · rw [o.den]
      have e : (1 * w.length) = w.length := Nat.one_mul _
      rw [show (⟨w, 1, some (d, z)⟩ : UD).t * (⟨w, 1, some (d, z)⟩ : UD).w.length = w.length from e] at h2
      exact h2
theorem Opn.small {cs : List UD} {w : List Ent} {d z : Nat} (o : Opn cs w d z) (h : w.length < LIM) : Sm cs := fun c hc => by
  have ⟨a, b⟩ := o.sm c hc
  exact ⟨by omega, by omega⟩
theorem Sm.tail {u : UD} {us : List UD} (h : Sm (u :: us)) : Sm us := fun x hx => h x (List.mem_cons_of_mem _ hx)
theorem Sm.head {u : UD} {us : List UD} (h : Sm (u :: us)) : Sm1 u := h u (List.mem_cons_self ..)
theorem Sm.append {a b : List UD} (ha : Sm a) (hb : Sm b) : Sm (a ++ b) := fun x hx => (List.mem_append.mp hx).elim (ha x) (hb x)
theorem Sm.cons {u : UD} {us : List UD} (ha : Sm1 u) (hb : Sm us) : Sm (u :: us) := fun x hx => (List.mem_cons.mp hx).elim (fun e => e ▸ ha) (hb x)
theorem p_first_unit (T : Txt g mg) (h : spFirstUnit g vs H Q E) : t_first_unit g (EndQ Q) (start N_first_unit vs) H := by
  obtain ⟨v, us, rfl, hu, q0, q1⟩ := h
  refine ⟨fun m σ H' => ∃ us' v' a b c, σ = [some v', a, b, c] ∧ Same H H' ∧ UR g.part H' us' v' ∧ den us' = den us ∧ (∀ R m, Rk R us m → Rk R us' m) ∧ (Sm us → Sm us') ∧ (∀ w ws, us = w :: ws → 1 ≤ w.t → (w.s = none ∨ 2 ≤ w.t) → us' = us) ∧ m = usz us',
    ⟨_, us, v, none, none, none, rfl, Same.refl H, hu, rfl, fun _ _ k => k, fun k => k, fun _ _ _ _ _ => rfl, rfl⟩, ?_⟩
  rintro m σ H1 ⟨us', v', a, b, c, rfl, s1, hu1, hd, hk, hs, hg, rfl⟩
  cases us' with
  | nil =>
    cases (show v' = .non from hu1)
    exact ⟨_, rfl, rfl, false, rfl, iteF (q0 hd.symm H1 s1)⟩
  | cons u us' =>
    obtain ⟨p, uv, r, rfl, hpp, huv, hr⟩ := hu1
    refine ⟨_, rfl, rfl, _, rfl, ?_⟩
    rw [dec_ref]
    refine iteT ⟨fun σ' H' => ∃ m', m' < usz (u :: us') ∧ ∃ us' v' a b c, σ' = [some v', a, b, c] ∧ Same H H' ∧ UR g.part H' us' v' ∧ den us' = den us ∧ (∀ R m, Rk R us m → Rk R us' m) ∧ (Sm us → Sm us') ∧ (∀ w ws, us = w :: ws → 1 ≤ w.t → (w.s = none ∨ 2 ≤ w.t) → us' = us) ∧ m' = usz us', fun _ _ x => x, ?_⟩
    refine ⟨_, rfl, p, _, rfl, sT hpp, rfl, _, _, rfl, _, _, rfl, _, _, rfl, rfl, ?_⟩
    refine ⟨_, rfl, sEq rfl ⟨_, rfl, ?_⟩⟩
    rw [show decide (V.int (u.t : Nat) = V.int 0) = decide (u.t = 0) from dec_nat (n := 0)]
    by_cases ht : u.t = 0
    · rw [decide_eq_true ht]
      refine iteT ⟨_, rfl, usz us', by show usz us' < 2 + uz u + usz us'; omega, us', r, _, _, _, rfl, s1, hr, by rw [← hd, den_zero ht], fun R m k => (hk R m k).skip ht, fun k => (hs k).tail, fun w ws e1 e2 e3 => ?_, rfl⟩
      have e4 := hg w ws e1 e2 e3
      rw [e1] at e4
      injection e4 with e5
      rw [e5] at ht
      omega
    · rw [decide_eq_false ht]
      refine iteF ⟨_, rfl, iGt ⟨_, rfl, ?_⟩⟩
      by_cases h1 : 1 < u.t
      · rw [decide_eq_true (show (1 : Int) < ((u.t : Nat) : Int) by omega)]
        refine iteT (iteT ⟨_, rfl, q1 H1 _ u us' s1 ⟨p, uv, r, rfl, hpp, huv, hr⟩ hd (by omega) (fun _ => h1) hk hs hg⟩)
      · rw [decide_eq_false (show ¬ (1 : Int) < ((u.t : Nat) : Int) by omega)]
        refine iteF (q_isU T (u := u) rfl huv ?_)
        cases hus : u.s with
        | none => exact iteT ⟨_, rfl, q1 H1 _ u us' s1 ⟨p, uv, r, rfl, hpp, huv, hr⟩ hd (by omega) (fun z => absurd hus z) hk hs hg⟩
        | some dz =>
          obtain ⟨d, z⟩ := dz
          have ht1 : u.t = 1 := by omega
          have hpr : u.w ≠ [] ∧ PR g.part H1 uv u.w d z := by
            unfold UnV at huv
            rw [hus] at huv
            exact huv
          have eu1 : u = ⟨u.w, 1, some (d, z)⟩ := by
            cases u; simp only at ht1 hus; subst ht1 hus; rfl
          refine iteF ⟨_, rfl, _, rfl, _, _, u.w, d, z, us', rfl, hpr.2, hr, fun H2 v2 cs s2 hu2 o => ?_⟩
          refine ⟨usz (cs ++ us'), ?_, cs ++ us', v2, _, _, _, rfl, s1.trans s2, hu2, ?_, fun R m k => ?_, fun k => ?_, fun w ws e1 e2 e3 => ?_, rfl⟩
          · have e : uz u = z := by unfold uz; rw [hus]
            rw [usz_append]
            show usz cs + usz us' < 2 + uz u + usz us'
            have := o.usz
            omega
          · rw [← hd, den_append, o.den]
            show u.w ++ den us' = rp u.t u.w ++ den us'
            rw [ht1, rp_one]
          · have k1 := hk R m k
            rw [eu1] at k1
            exact k1.open o
          · have k1 := hs k
            exact (o.small k1.head.w).append k1.tail
          · have e4 := hg w ws e1 e2 e3
            rw [e1] at e4
            injection e4 with e5
            rw [e5] at ht1 hus
            rcases e3 with e3 | e3
            · rw [hus] at e3; cases e3
            · omega
end
end RH
set_option exponentiation.threshold 256
set_option Elab.async false
set_option linter.all false
set_option maxRecDepth 100000
set_option maxHeartbeats 4000000
set_option exponentiation.threshold 100
namespace RH
open PySem PySem.Spec PyProof.Rows L2
theorem den_cons (u : UD) (us : List UD) : den (u :: us) = rp u.t u.w ++ den us := rfl
theorem den_len (u : UD) (us : List UD) : (den (u :: us)).length = u.t * u.w.length + (den us).length := by
  rw [den_cons, List.length_append, rp_len]
theorem drop_pass {u : UD} {us : List UD} {k : Nat} (h : u.t * u.w.length ≤ k) : (den (u :: us)).drop k = (den us).drop (k - u.t * u.w.length) := by
  rw [den_cons, List.drop_append, rp_len, List.drop_eq_nil_of_le (by rw [rp_len]; exact h), List.nil_append]
theorem drop_part {u : UD} {us : List UD} {q r : Nat} (h : q ≤ u.t) : (den (u :: us)).drop (q * u.w.length + r) = (den (⟨u.w, u.t - q, u.s⟩ :: us)).drop r := by
  rw [← List.drop_drop, den_cons, List.drop_append_of_le_length (by rw [rp_len]; exact Nat.mul_le_mul_right _ h), rp_drop h]
  rfl
theorem den_open {cs us : List UD} {w : List Ent} {d z n : Nat} {s : Option (Nat × Nat)} (o : Opn cs w d z) (hn : 1 ≤ n) : den (cs ++ ⟨w, n - 1, s⟩ :: us) = den (⟨w, n, s⟩ :: us) := by
  rw [den_append, o.den, den_cons, den_cons, ← List.append_assoc]
  congr 1
  show w ++ rp (n - 1) w = rp n w
  rw [← rp_succ, Nat.sub_add_cancel hn]
theorem udp_le {u : UD} {n : Nat} (h : n ≤ u.t) : udp ⟨u.w, n, u.s⟩ ≤ udp u := by
  unfold udp
  cases u.s with
  | none => exact Nat.le_refl _
  | some dz =>
    show (if n ≤ 1 then dz.1 else dz.1 + 1) ≤ (if u.t ≤ 1 then dz.1 else dz.1 + 1)
    split <;> split <;> omega
section
variable {g : G} {mg : Str → Option Value} {vs : List V} {H : Hp} {Q : VK} {E : XK}
theorem log_lim {n : Nat} (h : n < LIM) : ((n : Nat) : Int).natAbs.log2 < 9000 := by
  have := nat_log (k := 8000) h (by decide)
  omega
theorem divW {k w : Nat} (hp : 0 < w) (h : w < LIM) : CDivW (k : Nat) (w : Nat) := ⟨by omega, log_lim h⟩
theorem lim4 {n : Nat} (h : n < 4 * LIM) : n < 2 ^ 100000 := lim_pow 0 2 (by decide) (by rw [show (2 : Nat) ^ 2 = 4 from rfl]; exact h)
theorem mul_wt {H : Hp} {u : UD} {v : V} (hu : UnV g.part H u v) (s : Sm1 u) : CMulW (u.w.length : Nat) (u.t : Nat) := mulW (lim1 s.w) (lim4 s.t)
theorem stp_pass {u : UD} {us : List UD} {k : Nat} (h : u.t * u.w.length ≤ k) : stp (u :: us) k = 1 + stp us (k - u.t * u.w.length) := by
  show 1 + (if u.t * u.w.length ≤ k then _ else _) = _
  rw [if_pos h]
theorem stp_cut {u : UD} {us : List UD} {k : Nat} (h : ¬ u.t * u.w.length ≤ k) : stp (u :: us) k = 1 + (if k % u.w.length = 0 then 0 else uz u + 1) := by
  show 1 + (if u.t * u.w.length ≤ k then _ else _) = _
  rw [if_neg h]
theorem UnV.times {C : Addr} {H : Hp} {u : UD} {v : V} {n : Nat} (h : UnV C H u v) (hn : n ≤ u.t) : UnV C H ⟨u.w, n, u.s⟩ v := by
  unfold UnV at h ⊢
  cases hs : u.s with
  | none => rw [hs] at h; exact ⟨Nat.le_trans hn h.1, h.2⟩
  | some dz => obtain ⟨d, z⟩ := dz; rw [hs] at h; exact h
theorem UnV.part {C : Addr} {H : Hp} {u : UD} {v : V} {d z : Nat} (h : UnV C H u v) (hs : u.s = some (d, z)) : PR C H v u.w d z := by
  unfold UnV at h
  rw [hs] at h
  exact h.2
/-- a unit that is cut through is a part -/
theorem UnV.cut {C : Addr} {H : Hp} {u : UD} {v : V} {k : Nat} (h : UnV C H u v) (hk : 0 < k) (hc : ¬ u.t * u.w.length ≤ k) : ∃ d z, u.s = some (d, z) := by
  cases hs : u.s with
  | some dz => exact ⟨dz.1, dz.2, rfl⟩
  | none =>
    unfold UnV at h
    rw [hs] at h
    obtain ⟨h1, e, h2, _⟩ := h
    rw [h2] at hc
    exfalso
    apply hc
    show u.t * 1 ≤ k
    omega
theorem cast_sub {a b : Nat} (h : b ≤ a) : (a : Int) - (b : Int) = ((a - b : Nat) : Int) := (Int.ofNat_sub h).symm
theorem nAdd {a b : Nat} {R : VK} (q : R (.int ((a + b : Nat) : Int)) H) : rAddI (.int (a : Nat)) (.int (b : Nat)) H R := iAdd q
theorem nSub {a b : Nat} {R : VK} (h : b ≤ a) (q : R (.int ((a - b : Nat) : Int)) H) : rSubI (.int (a : Nat)) (.int (b : Nat)) H R := iSub (by
  rw [cast_sub h]
  exact q)
theorem nMul {a b : Nat} {R : VK} (ha : a < 2 ^ 100000) (hb : b < 2 ^ 100000) (q : R (.int ((a * b : Nat) : Int)) H) : rMulI (.int (a : Nat)) (.int (b : Nat)) H R := iMul (mulW ha hb) q
theorem nDiv {a b : Nat} {R : VK} (hp : 0 < b) (hb : b < LIM) (q : R (.int ((a / b : Nat) : Int)) H) : rDivI (.int (a : Nat)) (.int (b : Nat)) H R := iDiv (divW hp hb) q
theorem nMod {a b : Nat} {R : VK} (hp : 0 < b) (q : R (.int ((a % b : Nat) : Int)) H) : rModI (.int (a : Nat)) (.int (b : Nat)) H R := iMod (by omega : (0 : Int) < (b : Nat)) q
theorem dec_iff {p q : Prop} [Decidable p] [Decidable q] (h : p ↔ q) : decide p = decide q := by
  by_cases hp : p
  · rw [decide_eq_true hp, decide_eq_true (h.mp hp)]
  · rw [decide_eq_false hp, decide_eq_false (fun z => hp (h.mpr z))]
theorem nLe {a b : Nat} {R : VK} (q : R (.bl (decide (a ≤ b))) H) : rLeI (.int (a : Nat)) (.int (b : Nat)) H R := iLe (by
  rw [dec_iff (q := a ≤ b) Int.ofNat_le]
  exact q)
theorem nLt {a b : Nat} {R : VK} (q : R (.bl (decide (a < b))) H) : rLtI (.int (a : Nat)) (.int (b : Nat)) H R := iLt (by
  rw [dec_iff (q := a < b) Int.ofNat_lt]
  exact q)
theorem nGt {a b : Nat} {R : VK} (q : R (.bl (decide (b < a))) H) : rGtI (.int (a : Nat)) (.int (b : Nat)) H R := iGt (by
  rw [dec_iff (q := b < a) Int.ofNat_lt]
  exact q)
theorem nGe {a b : Nat} {R : VK} (q : R (.bl (decide (b ≤ a))) H) : rGeI (.int (a : Nat)) (.int (b : Nat)) H R := iGe (by
  rw [dec_iff (q := b ≤ a) Int.ofNat_le]
  exact q)
theorem nEq {a b : Nat} {R : VK} (q : R (.bl (decide (a = b))) H) : rEqS (.int (a : Nat)) (.int (b : Nat)) H R := sEq rfl (by
  rw [dec_nat]
  exact q)
theorem nNe {a b : Nat} {R : VK} (q : R (.bl (!decide (a = b))) H) : rNeS (.int (a : Nat)) (.int (b : Nat)) H R := sNe rfl (by
  rw [dec_nat]
  exact q)
/-- a test that is answered -/
theorem yes {b : Bool} {A B : Prop} (h : b = true) (q : A) : if b = true then A else B := by rw [if_pos h]; exact q
theorem no {b : Bool} {A B : Prop} (h : b = false) (q : B) : if b = true then A else B := by rw [h]; exact iteF q
theorem yesD {p : Prop} [Decidable p] {A B : Prop} (h : p) (q : A) : if decide p = true then A else B := yes (decide_eq_true h) q
theorem noD {p : Prop} [Decidable p] {A B : Prop} (h : ¬ p) (q : B) : if decide p = true then A else B := no (decide_eq_false h) q
/-- k letters of a row of units, whose first one has w letters and stands t times: whole ones and the rest -/
theorem whole_rest {k w t : Nat} (hw : 0 < w) (h : ¬ t * w ≤ k) : ∃ q r, k / w = q ∧ k - q * w = r ∧ k % w = r ∧ q < t ∧ r < w ∧ q * w + r = k ∧ q ≤ k := by
  refine ⟨k / w, k % w, rfl, ?_, rfl, ?_, Nat.mod_lt _ hw, ?_, Nat.div_le_self _ _⟩
  · have := Nat.div_add_mod k w
    rw [Nat.mul_comm] at this
    omega
  · rw [Nat.div_lt_iff_lt_mul hw]; omega
  · rw [Nat.mul_comm]; exact Nat.div_add_mod k w
theorem p_behind (T : Txt g mg) (h : spBehind g vs H Q E) : t_behind g (EndQ Q) (start N_behind vs) H := by
  obtain ⟨v, us, m, rfl, q1, q⟩ := h
  by_cases hm : m = 0
  · subst hm
    refine ⟨fun _ σ H' => σ = start N_behind [v, .int ((0 : Nat) : Int)] ∧ H' = H, ⟨0, rfl, rfl⟩, ?_⟩
    rintro _ σ H' ⟨rfl, rfl⟩
    exact ⟨_, rfl, nGt (a := 0) (b := 0) ⟨_, rfl, noD (by omega) ⟨_, rfl, q H' v us (Same.refl _) (fun _ => ⟨rfl, rfl⟩) (fun z => absurd z (by omega))⟩⟩⟩
  obtain ⟨hu, hle, hsm⟩ := q1 (Nat.pos_of_ne_zero hm)
  refine ⟨fun n σ H' => ∃ us' v' k a b c d, σ = [some v', some (.int (k : Nat)), a, b, c, d] ∧ Same H H' ∧ UR g.part H' us' v' ∧ k ≤ (den us').length ∧ (den us').drop k = (den us).drop m ∧ (∀ D, (∀ u ∈ us, udp u ≤ D) → ∀ u ∈ us', udp u ≤ D) ∧ Sm us' ∧ n = k + stp us' k,
    ⟨_, us, v, m, none, none, none, none, rfl, Same.refl H, hu, hle, rfl, fun _ k => k, hsm, rfl⟩, ?_⟩
  rintro n σ H1 ⟨us', v', k, a, b, c, d, rfl, s1, hu1, hk, hd, hD, hs, rfl⟩
  refine ⟨_, rfl, nGt (b := 0) ⟨_, rfl, ?_⟩⟩
  by_cases hk0 : k = 0
  · subst hk0
    exact noD (by omega) ⟨_, rfl, q H1 v' us' s1 (fun z => absurd z hm) fun _ => ⟨hu1, by rw [← hd, List.drop_zero], hD, hs⟩⟩
  have hkp : 0 < k := Nat.pos_of_ne_zero hk0
  refine yesD hkp ⟨fun σ' H' => ∃ n', n' < k + stp us' k ∧ ∃ us' v' k a b c d, σ' = [some v', some (.int (k : Nat)), a, b, c, d] ∧ Same H H' ∧ UR g.part H' us' v' ∧ k ≤ (den us').length ∧ (den us').drop k = (den us).drop m ∧ (∀ D, (∀ u ∈ us, udp u ≤ D) → ∀ u ∈ us', udp u ≤ D) ∧ Sm us' ∧ n' = k + stp us' k, fun _ _ x => x, ?_⟩
  cases us' with
  | nil => exact absurd hk (by show ¬ k ≤ 0; omega)
  | cons u us' =>
    obtain ⟨p, uv, r, rfl, hpp, huv, hr⟩ := hu1
    have hw := huv.pos
    have hs1 := hs.head
    have hwl := lim1 hs1.w
    have htl := lim4 hs1.t
    have hDt : ∀ D, (∀ u ∈ us, udp u ≤ D) → ∀ u ∈ us', udp u ≤ D := fun D x y hy => hD D x y (List.mem_cons_of_mem _ hy)
    have hDh : ∀ D, (∀ u ∈ us, udp u ≤ D) → udp u ≤ D := fun D x => hD D x u (List.mem_cons_self ..)
    refine ⟨_, rfl, p, _, rfl, sT hpp, rfl, _, _, rfl, _, _, rfl, _, _, rfl, rfl, ?_⟩
    refine ⟨_, rfl, _, u, rfl, huv, _, rfl, nMul hwl htl ⟨_, rfl, nLe ⟨_, rfl, ?_⟩⟩⟩
    by_cases hc : u.t * u.w.length ≤ k
    · refine yesD (by rw [Nat.mul_comm]; exact hc) ⟨_, rfl, _, rfl, _, u, rfl, huv, _, rfl, nMul hwl htl (nSub (by rw [Nat.mul_comm]; exact hc) ?_)⟩
      rw [Nat.mul_comm u.w.length u.t]
      refine ⟨_, rfl, (k - u.t * u.w.length) + stp us' (k - u.t * u.w.length), ?_, us', r, k - u.t * u.w.length, _, _, _, _, rfl, s1, hr, ?_, ?_, hDt, hs.tail, rfl⟩
      · rw [stp_pass hc]; omega
      · rw [den_len] at hk; omega
      · rw [← hd, drop_pass hc]
    · refine noD (by rw [Nat.mul_comm]; exact hc) ?_
      obtain ⟨dd, z, hus⟩ := huv.cut hkp hc
      obtain ⟨n, e, h1, h2, h3, h4, h5, h6, h7⟩ := whole_rest hw hc
      have hn4 : n < 2 ^ 100000 := lim4 (Nat.lt_trans h4 hs1.t)
      -- whole, many, units
      refine ⟨_, rfl, _, rfl, _, u, rfl, huv, nDiv hw hs1.w ?_⟩
      rw [h1]
      refine ⟨_, rfl, _, rfl, _, rfl, _, u, rfl, huv, nMul hn4 hwl (nSub (by omega) ?_)⟩
      rw [h2]
      refine ⟨_, rfl, _, rfl, _, rfl, nSub (Nat.le_of_lt h4) ⟨_, rfl, small3, fun p1 np1 => ⟨_, rfl, nGt (b := 0) ⟨_, rfl, ?_⟩⟩⟩⟩
      have s2 : Same H1 (upd H1 p1 (.tup [uv, .int ((u.t - n : Nat) : Int), r])) := sameNew np1
      have htake : (den (u :: us')).drop k = (den (⟨u.w, u.t - n, u.s⟩ :: us')).drop e := by
        rw [← drop_part (Nat.le_of_lt h4), h6]
      have stc := stp_cut (us := us') hc
      rw [h3] at stc
      by_cases he0 : e = 0
      · have hpos : 0 < (u.t - n) * u.w.length := Nat.mul_pos (by omega) hw
        refine noD (by omega) ⟨e + stp (⟨u.w, u.t - n, u.s⟩ :: us') e, ?_, ⟨u.w, u.t - n, u.s⟩ :: us', .ref p1, e, _, _, _, _, rfl, s1.trans s2, ⟨p1, uv, r, rfl, upd_same, (huv.times (Nat.sub_le _ _)).mono s2, hr.mono s2⟩, by omega, ?_, fun D x y hy => ?_, Sm.cons ⟨hs1.w, Nat.lt_of_le_of_lt (Nat.sub_le _ _) hs1.t⟩ hs.tail, rfl⟩
        · rw [stp_cut (u := ⟨u.w, u.t - n, u.s⟩) (by show ¬ (u.t - n) * u.w.length ≤ e; omega), stc, he0, if_pos (Nat.zero_mod _), if_pos rfl]
          omega
        · rw [← hd, htake]
        · rcases List.mem_cons.mp hy with rfl | hy
          · exact Nat.le_trans (udp_le (Nat.sub_le _ _)) (hDh D x)
          · exact hDt D x y hy
      · refine yesD (by omega) ⟨_, rfl, _, rfl, _, rfl, _, rfl, nSub (Nat.le_of_lt h4) (nSub (b := 1) (by omega) ⟨_, rfl, small3, fun p2 np2 => ?_⟩)⟩
        have s3 := s2.trans (sameNew (o := .tup [uv, .int ((u.t - n - 1 : Nat) : Int), r]) np2)
        refine ⟨_, _, u.w, dd, z, ⟨u.w, u.t - n - 1, u.s⟩ :: us', rfl, (huv.part hus).mono s3, ⟨p2, uv, r, rfl, upd_same, (huv.times (by omega)).mono s3, hr.mono s3⟩, fun H2 v2 cs s4 hu2 o => ?_⟩
        have hcs : (den cs).length = u.w.length := by rw [o.den]
        refine ⟨e + stp (cs ++ ⟨u.w, u.t - n - 1, u.s⟩ :: us') e, ?_, cs ++ ⟨u.w, u.t - n - 1, u.s⟩ :: us', v2, e, _, _, _, _, rfl, (s1.trans s3).trans s4, hu2, ?_, ?_, fun D x y hy => ?_, ?_, rfl⟩
        · have x1 := stp_in cs (⟨u.w, u.t - n - 1, u.s⟩ :: us') e (by rw [hcs]; exact h5)
          have x2 := o.usz
          have x3 : uz u = z := by unfold uz; rw [hus]
          rw [stc, if_neg he0, x3]
          omega
        · rw [den_append, List.length_append, hcs]; omega
        · rw [den_open o (by omega), ← hd, htake]
        · rcases List.mem_append.mp hy with hy | hy
          · have x1 := o.udp y hy
            have x2 := hDh D x
            have x3 : dd ≤ udp u := by unfold udp; rw [hus]; show dd ≤ if u.t ≤ 1 then dd else dd + 1; split <;> omega
            omega
          · rcases List.mem_cons.mp hy with rfl | hy
            · exact Nat.le_trans (udp_le (by omega)) (hDh D x)
            · exact hDt D x y hy
        · exact (o.small hs1.w).append (Sm.cons ⟨hs1.w, Nat.lt_of_le_of_lt (by show u.t - n - 1 ≤ u.t; omega) hs1.t⟩ hs.tail)
end
end RH
set_option exponentiation.threshold 256
set_option Elab.async false
set_option linter.all false
set_option maxRecDepth 100000
set_option maxHeartbeats 4000000
set_option exponentiation.threshold 100
namespace RH
open PySem PySem.Spec PyProof.Rows L2
theorem take_part {u : UD} {us : List UD} {c k : Nat} (hc : c ≤ u.t) (hk : c * u.w.length ≤ k) : (den (u :: us)).take k = rp c u.w ++ (den (⟨u.w, u.t - c, u.s⟩ :: us)).take (k - c * u.w.length) := by
  have e : den (u :: us) = rp c u.w ++ den (⟨u.w, u.t - c, u.s⟩ :: us) := by
    rw [den_cons, den_cons, ← List.append_assoc, ← rp_add, show c + (u.t - c) = u.t by omega]
  rw [e, List.take_append, rp_len, List.take_of_length_le (by rw [rp_len]; exact hk)]
section
variable {g : G} {mg : Str → Option Value} {vs : List V} {H : Hp} {Q : VK} {E : XK}
theorem small1 : (1 : Nat) ≤ sizeLine := by decide
theorem udp_part {u : UD} {d z : Nat} (h : u.s = some (d, z)) : d ≤ udp u ∧ (2 ≤ u.t → d + 1 ≤ udp u) := by
  unfold udp
  rw [h]
  show d ≤ (if u.t ≤ 1 then d else d + 1) ∧ (2 ≤ u.t → d + 1 ≤ if u.t ≤ 1 then d else d + 1)
  constructor
  · split <;> omega
  · intro h2; rw [if_neg (by omega)]; exact Nat.le_refl _
theorem lim_mul {a b : Nat} (ha : a < 4 * LIM) (hb : b < LIM) : a * b < 8 * LIM * LIM := by
  have h1 : a * b ≤ 4 * LIM * LIM := Nat.mul_le_mul (Nat.le_of_lt ha) (Nat.le_of_lt hb)
  have h2 : 0 < LIM * LIM := Nat.mul_pos (by omega) (by omega)
  have h3 : 8 * LIM * LIM = 2 * (4 * LIM * LIM) := by rw [← Nat.mul_assoc, ← Nat.mul_assoc]
  have h4 : 4 * LIM * LIM = 4 * (LIM * LIM) := Nat.mul_assoc ..
  omega
theorem p_part_of (T : Txt g mg) (h : spPartOf g vs H Q E) : t_part_of g (EndQ Q) (start N_part_of vs) H := by
  obtain ⟨v, us, m, D, rfl, hu, q⟩ := h
  -- found = Part((), None, None, 1)
  refine ⟨small0, fun p np => ?_⟩
  intro x dx nx nd ne
  refine q_PartR (vs := [.ref p, .non, .non, .int 1]) (dvs := [.non]) rfl (wide_leaf upd_same) nx nd ne fun H0 s0' hx => ⟨rfl, ?_⟩
  have s0 : Same H H0 := Same.trans (sameNew np) s0'
  have hf : PR g.part H0 (.ref x) [] D (2 * ([] : List Ent).length + 1) := mkLeaf hx (s0' _ _ upd_same) trivial
  refine ⟨fun n σ H' => ∃ us' v' k fv fw z a b c d e, σ = [some v', some (.int (k : Nat)), some fv, a, b, c, d, e] ∧ Same H H' ∧ (0 < k → UR g.part H' us' v' ∧ k ≤ (den us').length ∧ Sm us' ∧ ∀ u ∈ us', udp u ≤ D) ∧ PR g.part H' fv fw D z ∧
      fw ++ (den us').take k = (den us).take m ∧ n = k + stp us' k,
    ⟨_, us, v, m, .ref x, [], _, none, none, none, none, none, rfl, s0, fun hm => ?_, hf, rfl, rfl⟩, ?_⟩
  · obtain ⟨h1, h2, h3, h4⟩ := hu hm
    exact ⟨h1.mono s0, h2, h3, h4⟩
  rintro n σ H1 ⟨us', v', k, fv, fw, z, a, b, c, d, e, rfl, s1, hu1, hfv, hfw, rfl⟩
  refine ⟨_, rfl, nGt (b := 0) ⟨_, rfl, ?_⟩⟩
  by_cases hk0 : k = 0
  · subst hk0
    refine noD (by omega) ⟨_, rfl, q H1 fv z s1 ?_⟩
    rw [← hfw, List.take_zero, List.append_nil]
    exact hfv
  have hkp : 0 < k := Nat.pos_of_ne_zero hk0
  obtain ⟨hu1, hk, hs, hD⟩ := hu1 hkp
  refine yesD hkp ⟨fun σ' H' => ∃ n', n' < k + stp us' k ∧ ∃ us' v' k fv fw z a b c d e, σ' = [some v', some (.int (k : Nat)), some fv, a, b, c, d, e] ∧ Same H H' ∧ (0 < k → UR g.part H' us' v' ∧ k ≤ (den us').length ∧ Sm us' ∧ ∀ u ∈ us', udp u ≤ D) ∧ PR g.part H' fv fw D z ∧
      fw ++ (den us').take k = (den us).take m ∧ n' = k + stp us' k, fun _ _ x => x, ?_⟩
  cases us' with
  | nil => exact absurd hk (by show ¬ k ≤ 0; omega)
  | cons u us' =>
    obtain ⟨p, uv, r, rfl, hpp, huv, hr⟩ := hu1
    have hw := huv.pos
    have hs1 := hs.head
    have hwl := lim1 hs1.w
    have htl := lim4 hs1.t
    have hDt : ∀ u ∈ us', udp u ≤ D := fun y hy => hD y (List.mem_cons_of_mem _ hy)
    have hDh : udp u ≤ D := hD u (List.mem_cons_self ..)
    refine ⟨_, rfl, p, _, rfl, sT hpp, rfl, _, _, rfl, _, _, rfl, _, _, rfl, rfl, ?_⟩
    refine ⟨_, rfl, _, rfl, _, rfl, _, u, rfl, huv, nDiv hw hs1.w (nMin2 ?_)⟩
    refine ⟨_, rfl, nEq (b := 0) ⟨_, rfl, ?_⟩⟩
    by_cases ht : u.t = 0
    · refine yesD ht ⟨_, rfl, k + stp us' k, ?_, us', r, k, fv, fw, z, _, _, _, _, _, rfl, s1, fun _ => ⟨hr, ?_, hs.tail, hDt⟩, hfv, ?_, rfl⟩
      · have e1 := stp_pass (u := u) (us := us') (k := k) (by rw [ht, Nat.zero_mul]; exact Nat.zero_le _)
        rw [ht, Nat.zero_mul, Nat.sub_zero] at e1
        rw [e1]; omega
      · rw [den_zero ht] at hk; exact hk
      · rw [← hfw, den_zero ht]
    refine noD ht ⟨_, rfl, nEq (b := 0) ⟨_, rfl, ?_⟩⟩
    by_cases hc0 : min u.t (k / u.w.length) = 0
    · -- the unit is wider than what is left
      have hlt : k < u.w.length := by
        have : k / u.w.length = 0 := by omega
        exact (Nat.div_eq_zero_iff_lt hw).mp this
      have hle : u.w.length ≤ u.t * u.w.length := Nat.le_mul_of_pos_left _ (by omega)
      have hc : ¬ u.t * u.w.length ≤ k := by omega
      obtain ⟨dd, zz, hus⟩ := huv.cut hkp hc
      refine yesD hc0 ⟨_, rfl, _, rfl, _, rfl, nSub (b := 1) (by omega) ⟨_, rfl, small3, fun p2 np2 => ?_⟩⟩
      have s2 : Same H1 (upd H1 p2 (.tup [uv, .int ((u.t - 1 : Nat) : Int), r])) := sameNew np2
      refine ⟨_, _, u.w, dd, zz, ⟨u.w, u.t - 1, u.s⟩ :: us', rfl, (huv.part hus).mono s2, ⟨p2, uv, r, rfl, upd_same, (huv.times (Nat.sub_le _ _)).mono s2, hr.mono s2⟩, fun H2 v2 cs s3 hu2 o => ?_⟩
      have hcs : (den cs).length = u.w.length := by rw [o.den]
      refine ⟨k + stp (cs ++ ⟨u.w, u.t - 1, u.s⟩ :: us') k, ?_, cs ++ ⟨u.w, u.t - 1, u.s⟩ :: us', v2, k, fv, fw, z, _, _, _, _, _, rfl, (s1.trans s2).trans s3, fun _ => ⟨hu2, ?_, ?_, fun y hy => ?_⟩, hfv.mono (s2.trans s3), ?_, rfl⟩
      · have x1 := stp_in cs (⟨u.w, u.t - 1, u.s⟩ :: us') k (by rw [hcs]; exact hlt)
        have x2 := o.usz
        have x3 : uz u = zz := by unfold uz; rw [hus]
        rw [stp_cut hc, if_neg (by rw [Nat.mod_eq_of_lt hlt]; exact hk0), x3]
        omega
      · rw [den_append, List.length_append, hcs]; omega
      · exact (o.small hs1.w).append (Sm.cons ⟨hs1.w, Nat.lt_of_le_of_lt (by show u.t - 1 ≤ u.t; omega) hs1.t⟩ hs.tail)
      · rcases List.mem_append.mp hy with hy | hy
        · have x1 := o.udp y hy
          have x2 := (udp_part hus).1
          omega
        · rcases List.mem_cons.mp hy with rfl | hy
          · exact Nat.le_trans (udp_le (by omega)) hDh
          · exact hDt y hy
      · rw [den_open o (by omega)]
        exact hfw
    · -- whole ones
      obtain ⟨c, hce⟩ : ∃ c, min u.t (k / u.w.length) = c := ⟨_, rfl⟩
      have hct : c ≤ u.t := by omega
      have hck : c * u.w.length ≤ k := by
        have h1 : c * u.w.length ≤ (k / u.w.length) * u.w.length := Nat.mul_le_mul_right _ (by omega)
        have h2 := Nat.div_mul_le_self k u.w.length
        omega
      have hcp : 0 < c * u.w.length := Nat.mul_pos (by omega) hw
      rw [hce]
      -- the heart, for the part that some is
      have heart : ∀ H2 sv, Same H1 H2 → (∃ ds zs, PR g.part H2 sv u.w ds zs ∧ ds ≤ D ∧ (2 ≤ c → ds + 1 ≤ D)) →
          tSeq (tAsg (tCall (spJoined g) [] E0 (tCons (tVar 2) (tCons (tCall (spRepeated g) [] E0 (tCons (tVar 7) (tCons (tVar 6) tNil))) tNil))) (gName 2))
            (tSeq (tAsg (tOp rSubI (tVar 1) (tOp rMulI (tVar 6) (tCall (spWidth g) [] E0 (tCons (tVar 3) tNil)))) (gName 1)) (tAsg (tTup (tCons (tVar 3) (tCons (tOp rSubI (tVar 4) (tVar 6)) (tCons (tVar 5) tNil)))) (gName 0)))
            { nx := fun σ' H' => ∃ n', n' < k + stp (u :: us') k ∧ ∃ us' v' k fv fw z a b c d e, σ' = [some v', some (.int (k : Nat)), some fv, a, b, c, d, e] ∧ Same H H' ∧ (0 < k → UR g.part H' us' v' ∧ k ≤ (den us').length ∧ Sm us' ∧ ∀ u ∈ us', udp u ≤ D) ∧ PR g.part H' fv fw D z ∧
              fw ++ (den us').take k = (den us).take m ∧ n' = k + stp us' k, rt := Q, bk := fun _ _ => False, ct := fun _ _ => False }
            [some (.ref p), some (.int (k : Nat)), some fv, some uv, some (.int (u.t : Nat)), some r, some (.int (c : Nat)), some sv] H2 := by
        rintro H2 sv s2 ⟨ds, zs, hsv, hds, hds2⟩
        refine ⟨_, rfl, _, rfl, _, rfl, _, u.w, ds, zs, c, D, rfl, hsv, lim_mul (Nat.lt_of_le_of_lt hct hs1.t) hs1.w, hds, hds2, fun H3 rv zr s3 hrv => ?_⟩
        refine ⟨_, _, fw, rp c u.w, D, z, zr, rfl, hfv.mono (s2.trans s3), hrv, fun H4 fv2 zf s4 hfv2 => ?_⟩
        refine ⟨_, rfl, _, rfl, _, rfl, _, u, rfl, huv.mono ((s2.trans s3).trans s4), nMul (lim4 (Nat.lt_of_le_of_lt hct hs1.t)) hwl (nSub hck ?_)⟩
        refine ⟨_, rfl, _, rfl, _, rfl, nSub hct ⟨_, rfl, small3, fun p2 np2 => ?_⟩⟩
        have s5 := (s2.trans s3).trans s4
        have s6 := s5.trans (sameNew (o := .tup [uv, .int ((u.t - c : Nat) : Int), r]) np2)
        refine ⟨(k - c * u.w.length) + stp (⟨u.w, u.t - c, u.s⟩ :: us') (k - c * u.w.length), ?_, ⟨u.w, u.t - c, u.s⟩ :: us', .ref p2, k - c * u.w.length, fv2, fw ++ rp c u.w, zf, _, _, _, _, _, rfl, s1.trans s6,
          fun _ => ⟨⟨p2, uv, r, rfl, upd_same, (huv.times (Nat.sub_le _ _)).mono s6, hr.mono s6⟩, ?_, Sm.cons ⟨hs1.w, Nat.lt_of_le_of_lt (Nat.sub_le _ _) hs1.t⟩ hs.tail, fun y hy => ?_⟩, hfv2.mono (sameNew np2), ?_, rfl⟩
        · by_cases hct2 : c = u.t
          · have h1 : u.t * u.w.length ≤ k := by rw [← hct2]; exact hck
            have e0 : u.t - c = 0 := by omega
            rw [stp_pass h1, stp_pass (u := ⟨u.w, u.t - c, u.s⟩) (by show (u.t - c) * u.w.length ≤ _; rw [e0, Nat.zero_mul]; exact Nat.zero_le _)]
            show k - c * u.w.length + (1 + stp us' (k - c * u.w.length - (u.t - c) * u.w.length)) < _
            rw [e0, Nat.zero_mul, Nat.sub_zero, hct2]
            rw [hct2] at hcp
            omega
          · have hcd : c = k / u.w.length := by omega
            have hnot : ¬ u.t * u.w.length ≤ k := by
              have : k / u.w.length < u.t := by omega
              rw [Nat.div_lt_iff_lt_mul hw] at this
              omega
            have hkr : k - c * u.w.length = k % u.w.length := by
              have := Nat.div_add_mod k u.w.length
              rw [Nat.mul_comm, ← hcd] at this
              omega
            have hkl : k % u.w.length < u.w.length := Nat.mod_lt _ hw
            have h2 : u.w.length ≤ (u.t - c) * u.w.length := Nat.le_mul_of_pos_left _ (by omega)
            have e2 : stp (⟨u.w, u.t - c, u.s⟩ :: us') (k - c * u.w.length) = stp (u :: us') k := by
              rw [stp_cut hnot, stp_cut (u := ⟨u.w, u.t - c, u.s⟩) (by show ¬ (u.t - c) * u.w.length ≤ _; omega)]
              show 1 + (if (k - c * u.w.length) % u.w.length = 0 then 0 else uz ⟨u.w, u.t - c, u.s⟩ + 1) = _
              rw [hkr, Nat.mod_mod]
              rfl
            rw [e2]
            omega
        · have e3 := den_len u us'
          rw [den_len]
          show k - c * u.w.length ≤ (u.t - c) * u.w.length + (den us').length
          rw [Nat.sub_mul]
          have : c * u.w.length ≤ u.t * u.w.length := Nat.mul_le_mul_right _ hct
          omega
        · rcases List.mem_cons.mp hy with rfl | hy
          · exact Nat.le_trans (udp_le (Nat.sub_le _ _)) hDh
          · exact hDt y hy
        · rw [List.append_assoc, ← take_part hct hck]
          exact hfw
      refine noD (by omega) (q_isU T (u := u) rfl huv ?_)
      cases hus : u.s with
      | none =>
        have huv' := huv
        unfold UnV at huv'
        rw [hus] at huv'
        obtain ⟨ht1, e, hwe, hev⟩ := huv'
        refine iteT ⟨_, rfl, small1, fun p3 np3 => ?_⟩
        intro x3 dx3 nx3 nd3 ne3
        refine q_PartR (vs := [.ref p3, .non, .non, .int 1]) (dvs := [.non]) rfl (wide_leaf upd_same) nx3 nd3 ne3 fun H3 s3 hx3 => ⟨rfl, ?_⟩
        have s4 : Same H1 H3 := Same.trans (sameNew np3) s3
        refine heart H3 (.ref x3) s4 ⟨0, 2 * u.w.length + 1, ?_, Nat.zero_le _, fun h2 => by omega⟩
        exact mkLeaf hx3 (s3 _ _ upd_same) (by rw [hwe]; exact ⟨hev.mono s4, trivial⟩)
      | some dz =>
        obtain ⟨dd, zz⟩ := dz
        have hup := udp_part hus
        exact iteF ⟨_, rfl, heart H1 uv (Same.refl _) ⟨dd, zz, huv.part hus, by omega, fun h2 => by have := hup.2 (by omega); omega⟩⟩
end
end RH
set_option exponentiation.threshold 256
set_option Elab.async false
set_option linter.all false
set_option maxRecDepth 100000
set_option maxHeartbeats 4000000
set_option exponentiation.threshold 100
namespace RH
open PySem PySem.Spec PyProof.Rows L2
theorem PR.turn {C : Addr} {H : Hp} {v : V} {w : List Ent} {d z : Nat} (h : PR C H v w d z) : ∃ a dx l lv rv t tf bv k wb zb, v = .ref a ∧ H a = some (.ins C dx (pf l lv rv t tf (.int (w.length : Nat)))) ∧ TurnOk H tf bv k w wb ∧ (tf ≠ .non → PR C H bv wb d zb) := by
  cases h with
  | leaf ha hl he ht hb => exact ⟨_, _, _, _, _, _, _, _, _, _, _, rfl, ha, ht, hb⟩
  | rep ha hl hn hw hp ht hb => exact ⟨_, _, _, _, _, _, _, _, _, _, _, rfl, by rw [rp_len]; exact ha, ht, hb⟩
  | cat ha hl h1 h2 hp hq ht hb => exact ⟨_, _, _, _, _, _, _, _, _, _, _, rfl, by rw [List.length_append]; exact ha, ht, hb⟩
section
variable {g : G} {mg : Str → Option Value} {vs : List V} {H : Hp} {Q : VK} {E : XK}
theorem small2 : (2 : Nat) ≤ sizeLine := by decide
/-- one part, alone -/
theorem ur_one {H : Hp} {p : Addr} {v : V} {w : List Ent} {d z : Nat} (hp : H p = some (.tup [v, .int 1, .non])) (hw : w ≠ []) (h : PR g.part H v w d z) : UR g.part H [⟨w, 1, some (d, z)⟩] (.ref p) :=
  ⟨p, v, .non, rfl, hp, ⟨hw, h⟩, rfl⟩
theorem den_one (w : List Ent) (s : Option (Nat × Nat)) : den [⟨w, 1, s⟩] = w := by
  show rp 1 w ++ [] = w
  rw [rp_one, List.append_nil]
theorem sm_one {w : List Ent} {s : Option (Nat × Nat)} (h : w.length < LIM) : Sm [⟨w, 1, s⟩] := Sm.cons ⟨h, by show 1 < 4 * LIM; omega⟩ (fun x hx => by cases hx)
theorem udp_one {w : List Ent} {d z : Nat} : ∀ u ∈ [(⟨w, 1, some (d, z)⟩ : UD)], udp u ≤ d := fun u hu => by
  cases List.mem_singleton.mp hu
  exact Nat.le_refl d
/-- from base and shift on -/
theorem rotatedEnd (T : Txt g mg) {v bv x1 x4 : Option V} {b : V} {w wb : List Ent} {d zb s m : Nat} (hb : PR g.part H b wb d zb) (hs : s < wb.length) (hl : wb.length < LIM) (hrot : rot m w = rot s wb) (q : ∀ H' v' z', Same H H' → PR g.part H' v' (rot m w) d z' → Q v' H') :
    tSeq (tIfS (tTest (tOp rEqS (tVar 3) (tC (.int 0)))) (tRet (tVar 2)) tNext)
    (tSeq (tAsg (tCall (spJoined g) [] E0 (tCons (tCall (spPartOf g) [] E0 (tCons (tCall (spBehind g) [] E0 (tCons (tTup (tCons (tVar 2) (tCons (tC (.int 1)) (tCons (tC .non) tNil)))) (tCons (tVar 3) tNil))) (tCons (tOp rSubI (tFld g.K (tVar 2) "wide") (tVar 3)) tNil))) (tCons (tCall (spPartOf g) [] E0 (tCons (tTup (tCons (tVar 2) (tCons (tC (.int 1)) (tCons (tC .non) tNil)))) (tCons (tVar 3) tNil))) tNil))) (gName 4))
    (tRet (tMake g.part (spPartInit g) [] E0 (tCons (tFld g.K (tVar 4) "letters") (tCons (tFld g.K (tVar 4) "left") (tCons (tFld g.K (tVar 4) "right") (tCons (tFld g.K (tVar 4) "times") (tCons (tTup (tCons (tVar 2) (tCons (tVar 3) tNil))) tNil)))))))) (EndQ Q) [v, x1, some b, some (.int (s : Nat)), x4] H := by
  refine ⟨_, rfl, nEq (b := 0) ⟨_, rfl, ?_⟩⟩
  by_cases hs0 : s = 0
  · refine yesD hs0 ⟨_, rfl, q H b zb (Same.refl H) ?_⟩
    rw [hrot, hs0, rot_zero]
    exact hb
  refine noD hs0 ?_
  have hne : wb ≠ [] := fun z => by rw [z] at hs; exact absurd hs (Nat.not_lt_zero _)
  -- (base, 1, None)
  refine ⟨_, rfl, small3, fun p1 np1 => ?_⟩
  have s1 : Same H (upd H p1 (.tup [b, .int 1, .non])) := sameNew np1
  refine ⟨_, rfl, _, [⟨wb, 1, some (d, zb)⟩], s, rfl, fun _ => ⟨ur_one upd_same hne (hb.mono s1), by rw [den_one]; omega, sm_one hl⟩, fun H2 v2 us2 s2 _ hx => ?_⟩
  obtain ⟨hu2, hd2, hD2, hsm2⟩ := hx (Nat.pos_of_ne_zero hs0)
  rw [den_one] at hd2
  have hb2 := hb.mono (s1.trans s2)
  -- base.wide - shift
  refine q_wide T hb2 (fun R r => ⟨_, rfl, r⟩) ⟨_, rfl, nSub (Nat.le_of_lt hs) ?_⟩
  have e1 : (den us2).length = wb.length - s := by rw [hd2, List.length_drop]
  refine ⟨_, us2, wb.length - s, d, rfl, fun _ => ⟨hu2, by omega, hsm2, hD2 d udp_one⟩, fun H3 v3 z3 s3 hv3 => ?_⟩
  rw [List.take_of_length_le (by omega), hd2] at hv3
  -- the second one
  refine ⟨_, rfl, small3, fun p4 np4 => ⟨_, rfl, ?_⟩⟩
  have s4 : Same H3 (upd H3 p4 (.tup [b, .int 1, .non])) := sameNew np4
  refine ⟨_, [⟨wb, 1, some (d, zb)⟩], s, d, rfl, fun _ => ⟨ur_one upd_same hne (hb2.mono (s3.trans s4)), by rw [den_one]; omega, sm_one hl, udp_one⟩, fun H5 v5 z5 s5 hv5 => ?_⟩
  rw [den_one] at hv5
  refine ⟨_, _, wb.drop s, wb.take s, d, z3, z5, rfl, hv3.mono (s4.trans s5), hv5, fun H6 v6 z6 s6 hv6 => ?_⟩
  have s16 : Same H H6 := (((s1.trans s2).trans s3).trans (s4.trans s5)).trans s6
  have hb6 := hb.mono s16
  have hlen : (wb.drop s ++ wb.take s).length = wb.length := rot_len s wb
  have hrot' : wb.drop s ++ wb.take s = rot m w := by rw [hrot]; rfl
  have hturn : ∀ {H7 : Hp} {p7 : Addr}, H7 p7 = some (.tup [b, .int (s : Nat)]) → TurnOk H7 (.ref p7) b s (wb.drop s ++ wb.take s) wb := fun h => .inr ⟨_, rfl, h, Nat.pos_of_ne_zero hs0, hs, rfl⟩
  generalize hx : wb.drop s ++ wb.take s = wx at hv6 hlen hrot' hturn
  cases hv6 with
  | @leaf a dx l es row wb' t tf bv' k' d' zb' ha hll he ht hbb =>
    refine ⟨_, rfl, a, _, dx, _, _, rfl, ha, T.part, T.p_letters, pf_letters .., _, rfl, a, _, dx, _, _, rfl, ha, T.part, T.p_left, pf_left .., _, rfl, a, _, dx, _, _, rfl, ha, T.part, T.p_right, pf_right .., _, rfl, a, _, dx, _, _, rfl, ha, T.part, T.p_times, pf_times .., _, rfl, _, rfl, small2, fun p7 np7 => ?_⟩
    have s7 : Same H6 (upd H6 p7 (.tup [b, .int (s : Nat)])) := sameNew np7
    intro x8 dx8 nx8 nd8 ne8
    refine q_PartR (vs := [.ref l, .non, .non, t, .ref p7]) (dvs := []) rfl (wide_leaf (s7 _ _ hll)) nx8 nd8 ne8 fun H8 s8 hx8 => ⟨rfl, ?_⟩
    refine q H8 _ (2 * wx.length + 1) (s16.trans (s7.trans s8)) ?_
    rw [← hrot']
    rw [he.len] at hx8
    exact .leaf (bv := b) (k := s) (wb := wb) (zb := zb) hx8 (s8 _ _ (s7 _ _ hll)) (he.mono (s7.trans s8)) (hturn (s8 _ _ upd_same)) fun _ => hb6.mono (s7.trans s8)
  | @rep a dx l lv tf bv' w0 wb' n k' d' z0 zb' ha hll hn hw0 hp0 ht hbb =>
    refine ⟨_, rfl, a, _, dx, _, _, rfl, ha, T.part, T.p_letters, pf_letters .., _, rfl, a, _, dx, _, _, rfl, ha, T.part, T.p_left, pf_left .., _, rfl, a, _, dx, _, _, rfl, ha, T.part, T.p_right, pf_right .., _, rfl, a, _, dx, _, _, rfl, ha, T.part, T.p_times, pf_times .., _, rfl, _, rfl, small2, fun p7 np7 => ?_⟩
    have s7 : Same H6 (upd H6 p7 (.tup [b, .int (s : Nat)])) := sameNew np7
    intro x8 dx8 nx8 nd8 ne8
    rw [rp_len] at hlen
    refine q_PartR (vs := [.ref l, lv, .non, .int (n : Nat), .ref p7]) (dvs := []) rfl (wide_rep (t := .non) (tf := .non) (hp0.mono s7) (by have : LIM * 1 ≤ LIM * LIM := Nat.mul_le_mul_left _ (by omega); have e8 : 8 * LIM * LIM = 8 * (LIM * LIM) := Nat.mul_assoc ..; omega) hn hw0) nx8 nd8 ne8 fun H8 s8 hx8 => ⟨rfl, ?_⟩
    refine q H8 _ (z0 + 3) (s16.trans (s7.trans s8)) ?_
    rw [← hrot']
    exact .rep (bv := b) (k := s) (wb := wb) (zb := zb) hx8 (s8 _ _ (s7 _ _ hll)) hn hw0 (hp0.mono (s7.trans s8)) (hturn (s8 _ _ upd_same)) fun _ => hb6.mono (s7.trans s8)
  | @cat a dx l lv rv t tf bv' w1 w2 wb' k' d' z1 z2 zb' ha hll m1 m2 hp1 hq1 ht hbb =>
    refine ⟨_, rfl, a, _, dx, _, _, rfl, ha, T.part, T.p_letters, pf_letters .., _, rfl, a, _, dx, _, _, rfl, ha, T.part, T.p_left, pf_left .., _, rfl, a, _, dx, _, _, rfl, ha, T.part, T.p_right, pf_right .., _, rfl, a, _, dx, _, _, rfl, ha, T.part, T.p_times, pf_times .., _, rfl, _, rfl, small2, fun p7 np7 => ?_⟩
    have s7 : Same H6 (upd H6 p7 (.tup [b, .int (s : Nat)])) := sameNew np7
    intro x8 dx8 nx8 nd8 ne8
    refine q_PartR (vs := [.ref l, lv, rv, t, .ref p7]) (dvs := []) rfl (wide_cat (tf := .non) (hp1.mono s7) (hq1.mono s7)) nx8 nd8 ne8 fun H8 s8 hx8 => ⟨rfl, ?_⟩
    refine q H8 _ (z1 + z2 + 5) (s16.trans (s7.trans s8)) ?_
    rw [← hrot']
    exact .cat (bv := b) (k := s) (wb := wb) (zb := zb) hx8 (s8 _ _ (s7 _ _ hll)) m1 m2 (hp1.mono (s7.trans s8)) (hq1.mono (s7.trans s8)) (hturn (s8 _ _ upd_same)) fun _ => hb6.mono (s7.trans s8)
theorem p_rotated (T : Txt g mg) (h : spRotated g vs H Q E) : t_rotated g (EndQ Q) (start N_rotated vs) H := by
  obtain ⟨v, w, d, z, m, rfl, hp, hm, hmw, hl, q⟩ := h
  obtain ⟨a, dx, l, lv, rv, t, tf, bv, k, wb, zb, rfl, ha, ht, hb⟩ := hp.turn
  refine ⟨_, rfl, a, _, dx, _, _, rfl, ha, T.part, T.p_turned, pf_turned .., rfl, _, rfl, ?_⟩
  rcases ht with rfl | ⟨tt, rfl, htt, hk0, hkl, hw⟩
  · refine yes (decide_eq_true rfl) ⟨_, rfl, small2, fun p np => ?_⟩
    have s1 : Same H (upd H p (.tup [.ref a, .int 0])) := sameNew np
    refine ⟨p, _, rfl, sT upd_same, rfl, _, _, rfl, _, _, rfl, rfl, ?_⟩
    refine ⟨_, rfl, _, rfl, nAdd (a := 0) (q_wide T (hp.mono s1) (fun R r => ⟨_, rfl, r⟩) (nMod (by omega) ?_))⟩
    have e : (0 + m) % w.length = m := by rw [Nat.zero_add]; exact Nat.mod_eq_of_lt hmw
    rw [e]
    exact rotatedEnd T (bv := none) (m := m) (w := w) (hp.mono s1) hmw hl rfl fun H' v' z' s2 hv => q H' v' z' (s1.trans s2) hv
  · refine no (dec_ref tt) ⟨_, rfl, a, _, dx, _, _, rfl, ha, T.part, T.p_turned, pf_turned .., tt, _, rfl, sT htt, rfl, _, _, rfl, _, _, rfl, rfl, ?_⟩
    have hb' := hb (fun z => nomatch z)
    have e0 : w.length = wb.length := by rw [hw, rot_len]
    refine ⟨_, rfl, _, rfl, nAdd (q_wide T hb' (fun R r => ⟨_, rfl, r⟩) (nMod (by omega) ?_))⟩
    refine rotatedEnd T (bv := none) (m := m) (w := w) hb' (Nat.mod_lt _ (by omega)) (by omega) ?_ q
    rw [hw, rot_rot (Nat.le_of_lt hkl) (by omega)]
end
end RH
set_option exponentiation.threshold 256
set_option Elab.async false
set_option linter.all false
set_option maxRecDepth 100000
set_option maxHeartbeats 4000000
set_option exponentiation.threshold 100
namespace RH
open PySem PySem.Spec PyProof.Rows L2
/-- fewer of the first unit -/
theorem Rk.less {R x n : Nat} {u : UD} {us : List UD} (h : Rk R (u :: us) x) (hn : n < u.t) : Rk R (⟨u.w, u.t - n, u.s⟩ :: us) (x - n * u.w.length) := by
  by_cases hx : x - n * u.w.length = 0
  · rw [hx]; exact Rk.zero
  · have h1 := h.head (by omega)
    refine Rk.cons (Nat.le_trans ?_ h1) ?_
    · cases hs : u.s with
      | none => unfold rkm; rw [hs]; exact Nat.le_refl _
      | some dz =>
        unfold rkm
        rw [hs]
        show (if u.t - n = 0 then 0 else if u.t - n = 1 then 2 * dz.1 else if x - n * u.w.length ≤ u.w.length then 2 * dz.1 + 1 else 2 * dz.1 + 2) ≤ (if u.t = 0 then 0 else if u.t = 1 then 2 * dz.1 else if x ≤ u.w.length then 2 * dz.1 + 1 else 2 * dz.1 + 2)
        rw [if_neg (show ¬ u.t - n = 0 by omega), if_neg (show ¬ u.t = 0 by omega)]
        split <;> split <;> (try split) <;> (try split) <;> omega
    · have h2 := h.tail
      show Rk R us (x - n * u.w.length - (u.t - n) * u.w.length)
      rw [Nat.sub_sub, ← Nat.add_mul, show n + (u.t - n) = u.t by omega]
      exact h2
/-- the first unit is turned by e letters -/
theorem Rk.turn {R y e d z z1 z2 t : Nat} {w : List Ent} {us : List UD} (h : Rk R (⟨w, t, some (d, z)⟩ :: us) y) (ht : 2 ≤ t) (he : e < w.length) (he0 : 0 < e) : Rk R (⟨rot e w, t - 1, some (d, z1)⟩ :: ⟨w.drop e, 1, some (d, z2)⟩ :: us) (y - e) := by
  by_cases hy : y - e = 0
  · rw [hy]; exact Rk.zero
  · have h1 := h.head (by omega)
    have h2 := h.tail
    have e1 : rkm ⟨w, t, some (d, z)⟩ y = if y ≤ w.length then 2 * d + 1 else 2 * d + 2 := by
      show (if t = 0 then 0 else if t = 1 then 2 * d else if y ≤ w.length then 2 * d + 1 else 2 * d + 2) = _
      rw [if_neg (by omega), if_neg (by omega)]
    rw [e1] at h1
    have hR : 2 * d + 1 ≤ R := by
      split at h1 <;> omega
    refine Rk.cons ?_ (Rk.cons ?_ ?_)
    · show (if t - 1 = 0 then 0 else if t - 1 = 1 then 2 * d else if y - e ≤ (rot e w).length then 2 * d + 1 else 2 * d + 2) ≤ R
      rw [rot_len, if_neg (by omega)]
      split
      · omega
      · split
        · omega
        · rw [if_neg (by omega)] at h1
          exact h1
    · show 2 * d ≤ R
      omega
    · show Rk R us (y - e - (t - 1) * (rot e w).length - 1 * (w.drop e).length)
      rw [rot_len, List.length_drop, Nat.one_mul]
      have e2 : (⟨w, t, some (d, z)⟩ : UD).t * (⟨w, t, some (d, z)⟩ : UD).w.length = (t - 1) * w.length + w.length := by
        show t * w.length = _
        rw [← Nat.succ_mul, Nat.succ_eq_add_one, Nat.sub_add_cancel (by omega)]
      rw [e2] at h2
      have e3 : y - e - (t - 1) * w.length - (w.length - e) = y - ((t - 1) * w.length + w.length) := by omega
      rw [e3]
      exact h2
section
variable {g : G} {mg : Str → Option Value} {vs : List V} {H : Hp} {Q : VK} {E : XK}
theorem p_gone_by (T : Txt g mg) (h : spGoneBy g vs H Q E) : t_gone_by g (EndQ Q) (start N_gone_by vs) H := by
  obtain ⟨v, us, m, rfl, hu, hle, hsm, q⟩ := h
  refine ⟨fun n σ H' => ∃ us' v' k a b c d, σ = [some v', some (.int (k : Nat)), a, b, c, d] ∧ Same H H' ∧ UR g.part H' us' v' ∧ k ≤ (den us').length ∧ (den us').drop k = (den us).drop m ∧ k ≤ m ∧ (∀ R r, Rk R us r → Rk R us' (r - (m - k))) ∧ Sm us' ∧ n = k + stp us' k,
    ⟨_, us, v, m, none, none, none, none, rfl, Same.refl H, hu, hle, rfl, Nat.le_refl _, fun R r k => by rw [Nat.sub_self, Nat.sub_zero]; exact k, hsm, rfl⟩, ?_⟩
  rintro n σ H1 ⟨us', v', k, a, b, c, d, rfl, s1, hu1, hk, hd, hkm, hRk, hs, rfl⟩
  refine ⟨_, rfl, nGt (b := 0) ⟨_, rfl, ?_⟩⟩
  by_cases hk0 : k = 0
  · subst hk0
    exact noD (by omega) ⟨_, rfl, q H1 v' us' s1 hu1 (by rw [← hd, List.drop_zero]) (fun R r x => hRk R r x) hs⟩
  have hkp : 0 < k := Nat.pos_of_ne_zero hk0
  refine yesD hkp ⟨fun σ' H' => ∃ n', n' < k + stp us' k ∧ ∃ us' v' k a b c d, σ' = [some v', some (.int (k : Nat)), a, b, c, d] ∧ Same H H' ∧ UR g.part H' us' v' ∧ k ≤ (den us').length ∧ (den us').drop k = (den us).drop m ∧ k ≤ m ∧ (∀ R r, Rk R us r → Rk R us' (r - (m - k))) ∧ Sm us' ∧ n' = k + stp us' k, fun _ _ x => x, ?_⟩
  cases us' with
  | nil => exact absurd hk (by show ¬ k ≤ 0; omega)
  | cons u us' =>
    obtain ⟨p, uv, r, rfl, hpp, huv, hr⟩ := hu1
    have hw := huv.pos
    have hs1 := hs.head
    have hwl := lim1 hs1.w
    have htl := lim4 hs1.t
    refine ⟨_, rfl, p, _, rfl, sT hpp, rfl, _, _, rfl, _, _, rfl, _, _, rfl, rfl, ?_⟩
    refine ⟨_, rfl, _, u, rfl, huv, _, rfl, nMul hwl htl ⟨_, rfl, nLe ⟨_, rfl, ?_⟩⟩⟩
    by_cases hc : u.t * u.w.length ≤ k
    · refine yesD (by rw [Nat.mul_comm]; exact hc) ⟨_, rfl, _, rfl, _, u, rfl, huv, _, rfl, nMul hwl htl (nSub (by rw [Nat.mul_comm]; exact hc) ?_)⟩
      rw [Nat.mul_comm u.w.length u.t]
      refine ⟨_, rfl, (k - u.t * u.w.length) + stp us' (k - u.t * u.w.length), ?_, us', r, k - u.t * u.w.length, _, _, _, _, rfl, s1, hr, ?_, ?_, by omega, fun R x hx => ?_, hs.tail, rfl⟩
      · rw [stp_pass hc]; omega
      · rw [den_len] at hk; omega
      · rw [← hd, drop_pass hc]
      · have h1 := (hRk R x hx).tail
        rw [show x - (m - (k - u.t * u.w.length)) = x - (m - k) - u.t * u.w.length by omega]
        exact h1
    · refine noD (by rw [Nat.mul_comm]; exact hc) ?_
      obtain ⟨dd, z, hus⟩ := huv.cut hkp hc
      obtain ⟨n, e, h1, h2, h3, h4, h5, h6, h7⟩ := whole_rest hw hc
      -- times, many, units
      refine ⟨_, rfl, _, rfl, _, rfl, _, u, rfl, huv, nDiv hw hs1.w ?_⟩
      rw [h1]
      refine nSub (Nat.le_of_lt h4) ?_
      refine ⟨_, rfl, _, rfl, _, u, rfl, huv, nMod hw ?_⟩
      rw [h3]
      refine ⟨_, rfl, _, rfl, _, rfl, small3, fun p1 np1 => ⟨_, rfl, nGt (b := 0) ⟨_, rfl, ?_⟩⟩⟩
      have s2 : Same H1 (upd H1 p1 (.tup [uv, .int ((u.t - n : Nat) : Int), r])) := sameNew np1
      have htake : (den (u :: us')).drop k = (den (⟨u.w, u.t - n, u.s⟩ :: us')).drop e := by
        rw [← drop_part (Nat.le_of_lt h4), h6]
      have stc := stp_cut (us := us') hc
      rw [h3] at stc
      have hless : ∀ R x, Rk R us x → Rk R (⟨u.w, u.t - n, u.s⟩ :: us') (x - (m - e)) := fun R x hx => by
        have := (hRk R x hx).less h4
        rw [show x - (m - e) = x - (m - k) - n * u.w.length by omega]
        exact this
      by_cases he0 : e = 0
      · have hpos : 0 < (u.t - n) * u.w.length := Nat.mul_pos (by omega) hw
        refine noD (by omega) (iteF ⟨_, rfl, nGt (b := 0) ⟨_, rfl, ?_⟩⟩)
        refine noD (by omega) ⟨e + stp (⟨u.w, u.t - n, u.s⟩ :: us') e, ?_, ⟨u.w, u.t - n, u.s⟩ :: us', .ref p1, e, _, _, _, _, rfl, s1.trans s2, ⟨p1, uv, r, rfl, upd_same, (huv.times (Nat.sub_le _ _)).mono s2, hr.mono s2⟩, by omega, ?_, by omega, hless, Sm.cons ⟨hs1.w, Nat.lt_of_le_of_lt (Nat.sub_le _ _) hs1.t⟩ hs.tail, rfl⟩
        · rw [stp_cut (u := ⟨u.w, u.t - n, u.s⟩) (by show ¬ (u.t - n) * u.w.length ≤ e; omega), stc, he0, if_pos (Nat.zero_mod _), if_pos rfl]
          omega
        · rw [← hd, htake]
      · refine yesD (by omega) ⟨_, rfl, nEq (b := 1) ⟨_, rfl, ?_⟩⟩
        by_cases ht1 : u.t - n = 1
        · -- the last one is opened
          refine yesD ht1 ⟨_, rfl, _, rfl, _, _, u.w, dd, z, us', rfl, (huv.part hus).mono s2, hr.mono s2, fun H2 v2 cs s4 hu2 o => ?_⟩
          have hcs : (den cs).length = u.w.length := by rw [o.den]
          have e1 : den (⟨u.w, u.t - n, u.s⟩ :: us') = den (cs ++ us') := by
            rw [den_append, o.den, den_cons, ht1, rp_one]
          refine ⟨e + stp (cs ++ us') e, ?_, cs ++ us', v2, e, _, _, _, _, rfl, (s1.trans s2).trans s4, hu2, ?_, ?_, by omega, fun R x hx => ?_, (o.small hs1.w).append hs.tail, rfl⟩
          · have x1 := stp_in cs us' e (by rw [hcs]; exact h5)
            have x2 := o.usz
            have x3 : uz u = z := by unfold uz; rw [hus]
            rw [stc, if_neg he0, x3]
            omega
          · rw [den_append, List.length_append, hcs]; omega
          · rw [← e1, ← hd, htake]
          · have := hless R x hx
            rw [ht1, hus] at this
            exact this.open o
        · -- turned
          refine noD ht1 ⟨_, rfl, nGt (b := 0) ⟨_, rfl, yesD (by omega) ?_⟩⟩
          have hpu := (huv.part hus).mono s2
          refine ⟨_, rfl, small3, fun p3 np3 => ?_⟩
          have s3 : Same _ (upd (upd H1 p1 (.tup [uv, .int ((u.t - n : Nat) : Int), r])) p3 (.tup [uv, .int 1, .non])) := sameNew np3
          refine ⟨_, rfl, _, [⟨u.w, 1, some (dd, z)⟩], e, rfl, fun _ => ⟨ur_one upd_same huv.ne (hpu.mono s3), by rw [den_one]; omega, sm_one hs1.w⟩, fun H4 v4 us4 s4 _ hx => ?_⟩
          obtain ⟨hu4, hd4, hD4, hsm4⟩ := hx (Nat.pos_of_ne_zero he0)
          rw [den_one] at hd4
          have e4 : (den us4).length = u.w.length - e := by rw [hd4, List.length_drop]
          refine q_wide T (hpu.mono (s3.trans s4)) (fun R r => ⟨_, rfl, r⟩) ⟨_, rfl, nSub (Nat.le_of_lt h5) ?_⟩
          refine ⟨_, us4, u.w.length - e, dd, rfl, fun _ => ⟨hu4, by omega, hsm4, hD4 dd udp_one⟩, fun H5 v5 z5 s5 hv5 => ?_⟩
          rw [List.take_of_length_le (by omega), hd4] at hv5
          have s15 := ((s2.trans s3).trans s4).trans s5
          refine ⟨_, rfl, _, rfl, _, u.w, dd, z, e, rfl, (huv.part hus).mono s15, by omega, h5, hs1.w, fun H6 v6 z6 s6 hv6 => ?_⟩
          refine ⟨_, rfl, nSub (b := 1) (by omega) ⟨_, rfl, _, rfl, small3, fun p7 np7 => ⟨small3, fun p8 np8 => ?_⟩⟩⟩
          have s7 : Same H6 (upd H6 p7 (.tup [v5, .int 1, r])) := sameNew np7
          have s8 := s7.trans (sameNew (o := .tup [v6, .int ((u.t - n - 1 : Nat) : Int), .ref p7]) np8)
          have hdne : u.w.drop e ≠ [] := fun zz => by
            have := congrArg List.length zz
            rw [List.length_drop] at this
            have h0 : ([] : List Ent).length = 0 := rfl
            omega
          have hrne : rot e u.w ≠ [] := fun zz => by
            have := congrArg List.length zz
            rw [rot_len] at this
            have h0 : ([] : List Ent).length = 0 := rfl
            omega
          have hp7 : (upd (upd H6 p7 (.tup [v5, .int 1, r])) p8 (.tup [v6, .int ((u.t - n - 1 : Nat) : Int), .ref p7])) p7 = some (.tup [v5, .int 1, r]) := by
            rw [upd_ne (ne_of_none (upd_same (H := H6)) np8)]; exact upd_same
          refine q _ (.ref p8) (⟨rot e u.w, u.t - n - 1, some (dd, z6)⟩ :: ⟨u.w.drop e, 1, some (dd, z5)⟩ :: us') (((s1.trans s15).trans s6).trans s8) ⟨p8, v6, .ref p7, rfl, upd_same, ⟨hrne, hv6.mono s8⟩, p7, v5, r, rfl, hp7, ⟨hdne, hv5.mono (s6.trans s8)⟩, hr.mono ((s15.trans s6).trans s8)⟩ ?_ (fun R x hx => ?_) ?_
          · rw [← hd, htake, den_cons, den_cons, den_cons, List.drop_append_of_le_length (by rw [rp_len]; have : u.w.length ≤ (u.t - n) * u.w.length := Nat.le_mul_of_pos_left _ (by omega); show e ≤ (u.t - n) * u.w.length; omega)]
            show rp (u.t - n - 1) (rot e u.w) ++ (rp 1 (u.w.drop e) ++ den us') = (rp (u.t - n) u.w).drop e ++ den us'
            rw [rp_turn (by omega) (Nat.le_of_lt h5), rp_one, List.append_assoc]
          · have h8 := hless R x hx
            rw [hus] at h8
            have h9 := h8.turn (z1 := z6) (z2 := z5) (by omega) h5 (by omega)
            rw [show x - m = x - (m - e) - e by omega]
            exact h9
          · refine Sm.cons ⟨by rw [rot_len]; exact hs1.w, ?_⟩ (Sm.cons ⟨?_, ?_⟩ hs.tail)
            · have := hs1.t
              show u.t - n - 1 < 4 * LIM
              omega
            · rw [List.length_drop]
              have := hs1.w
              omega
            · have := hs1.w
              show 1 < 4 * LIM
              omega
end
end RH
set_option exponentiation.threshold 256
set_option Elab.async false
set_option linter.all false
set_option maxRecDepth 100000
set_option maxHeartbeats 4000000
set_option exponentiation.threshold 100
namespace RH
open PySem PySem.Spec PyProof.Rows L2
theorem ent_shaped {e : Ent} (h : EntS e) : SeqAt.shaped (entD e) = true := by
  obtain ⟨k, t⟩ := e
  have h1 := h.k
  have h2 := h.t
  simp only at h1 h2
  unfold entD tagD
  cases t <;> simp [h1, h2, SeqAt.shaped, PyData.canLay0, PyData.canLayAll0, PyData.depth, PyData.depthAll]
theorem dp_tag {K : PySem.W.Frag} {H : Hp} (t : Option Str) : Dp K H (tagV t) (tagD t) := by
  cases t
  · exact .non
  · exact .str _
theorem dp_ent {K : PySem.W.Frag} {H : Hp} {e : Ent} {v : V} (h : EntV H e v) : Dp K H v (entD e) := by
  obtain ⟨_, a, rfl, h⟩ := h
  exact .tup (sT h) (.cons (.str _) (.cons (dp_tag _) .nil))
theorem str_beq (a b : Str) : (a == b) = decide (a = b) := by
  by_cases h : a = b
  · subst h; simp
  · rw [decide_eq_false h]; exact beq_eq_false_iff_ne.mpr h
theorem eqv_tag (a b : Option Str) : PyData.eqv (tagD a) (tagD b) = decide (a = b) := by
  cases a with
  | none => cases b with
    | none => rfl
    | some y => rfl
  | some x => cases b with
    | none => rfl
    | some y =>
      show (x == y) = decide (some x = some y)
      rw [str_beq]
      by_cases h : x = y
      · subst h; simp
      · rw [decide_eq_false h, decide_eq_false (fun z => h (Option.some.inj z))]
theorem eqv_ent (a b : Ent) : PyData.eqv (entD a) (entD b) = decide (a = b) := by
  have h1 : PyData.eqv (entD a) (entD b) = (PyData.eqv (.str a.k) (.str b.k) && (PyData.eqv (tagD a.t) (tagD b.t) && true)) := by
    unfold entD
    first | rfl | simp [PyData.eqv, PyData.eqvAll]
  have h2 : PyData.eqv (.str a.k) (.str b.k) = decide (a.k = b.k) := by
    show (a.k == b.k) = _
    exact str_beq _ _
  rw [h1, h2, eqv_tag, Bool.and_true]
  obtain ⟨ka, ta⟩ := a
  obtain ⟨kb, tb⟩ := b
  by_cases hk : ka = kb
  · subst hk
    by_cases ht : ta = tb
    · subst ht; simp
    · simp [ht]
  · simp [hk]
section
variable {g : G} {mg : Str → Option Value} {vs : List V} {H : Hp} {Q : VK} {E : XK}
theorem p_run_ahead (T : Txt g mg) (h : spRunAhead g vs H Q E) : t_run_ahead g (EndQ Q) (start N_run_ahead vs) H := by
  obtain ⟨v, u, us, m, rfl, hu, hus, hut, hm, q⟩ := h
  have hlen : 1 ≤ (den (u :: us)).length := by
    have hp := hu
    obtain ⟨_, _, _, _, _, huv, _⟩ := hp
    have := huv.pos
    rw [den_len, hut]
    omega
  -- first_unit of a row that begins with an entry
  refine ⟨_, rfl, _, u :: us, rfl, hu, fun h0 => absurd (congrArg List.length h0) (by show ¬ _ = 0; omega), fun H1 v1 u1 us1 s1 hu1 hd1 ht1 hp1 _ _ hsame => ?_⟩
  have hsame := hsame u us rfl (by omega) (.inl hus)
  refine ⟨_, _, rfl, ?_⟩
  refine ⟨fun n σ H' => ∃ k us' v', σ = [some v', some (.int (m : Nat)), some (.int (k : Nat))] ∧ Same H H' ∧ UR g.part H' us' v' ∧ k ≤ m ∧ k + (den us').length = (den (u :: us)).length ∧ (k = 0 → ∃ w ws, us' = w :: ws ∧ w.s = none) ∧ (∀ w ws, us' = w :: ws → 1 ≤ w.t) ∧ n = m - k,
    ⟨_, 0, u1 :: us1, v1, rfl, s1, hu1, Nat.zero_le _, by rw [hd1, Nat.zero_add], fun _ => ⟨u1, us1, rfl, by injection hsame with e1; rw [e1]; exact hus⟩, fun w ws e => by injection e with e1; rw [← e1]; exact ht1, rfl⟩, ?_⟩
  rintro n σ H2 ⟨k, us', v', rfl, s2, hu2, hkm, hlen2, h0, hpos, rfl⟩
  refine ⟨_, rfl, _, rfl, nLt ⟨_, rfl, ?_⟩⟩
  have hend : k ≠ 0 → (EndQ Q).rt (.int (k : Nat)) H2 := fun hk => q H2 k s2 (by omega) hkm (by omega)
  by_cases hlt : k < m
  · refine yesD hlt ⟨_, rfl, rfl, _, rfl, ?_⟩
    cases us' with
    | nil =>
      cases (show v' = .non from hu2)
      refine no rfl (iteF ⟨_, rfl, hend fun hk => ?_⟩)
      obtain ⟨w, ws, e, _⟩ := h0 hk
      cases e
    | cons w ws =>
      obtain ⟨p, uv, r, rfl, hpp, huv, hr⟩ := hu2
      refine yes (by rw [dec_ref]; rfl) (q_isT T (u := w) (fun R x => ⟨_, rfl, p, _, 0, uv, rfl, rfl, sT hpp, by rfl, x⟩) huv ?_)
      cases hws : w.s with
      | some dz =>
        refine iteF ⟨_, rfl, hend fun hk => ?_⟩
        obtain ⟨w', ws', e, hn⟩ := h0 hk
        injection e with e1
        rw [← e1, hws] at hn
        cases hn
      | none =>
        refine iteT ⟨fun σ' H' => ∃ n', n' < m - k ∧ ∃ k us' v', σ' = [some v', some (.int (m : Nat)), some (.int (k : Nat))] ∧ Same H H' ∧ UR g.part H' us' v' ∧ k ≤ m ∧ k + (den us').length = (den (u :: us)).length ∧ (k = 0 → ∃ w ws, us' = w :: ws ∧ w.s = none) ∧ (∀ w ws, us' = w :: ws → 1 ≤ w.t) ∧ n' = m - k, fun _ _ x => x, ?_⟩
        have hw1 : w.t * w.w.length = 1 := by
          have hx := huv
          unfold UnV at hx
          rw [hws] at hx
          obtain ⟨a1, e, a2, _⟩ := hx
          have a3 := hpos w ws rfl
          rw [a2, show w.t = 1 by omega]
          rfl
        rw [den_len, hw1] at hlen2
        refine ⟨_, rfl, nAdd (b := 1) ⟨_, rfl, p, _, 2, r, rfl, rfl, sT hpp, by rfl, ?_⟩⟩
        refine ⟨_, ws, rfl, hr, fun hz H3 s3 => ?_, fun H3 v3 u3 us3 s3 hu3 hd3 ht3 _ _ _ _ => ?_⟩
        · exact ⟨_, _, rfl, m - (k + 1), by omega, k + 1, [], .non, rfl, s2.trans s3, rfl, hlt, by rw [hz] at hlen2; have : (den []).length = 0 := rfl; have h2 : ([] : List Ent).length = 0 := rfl; omega, fun z => by omega, (fun w ws e => by cases e), rfl⟩
        · exact ⟨_, _, rfl, m - (k + 1), by omega, k + 1, u3 :: us3, v3, rfl, s2.trans s3, hu3, hlt, by rw [hd3]; omega, fun z => by omega, fun w ws e => by injection e with e1; rw [← e1]; exact ht3, rfl⟩
  · refine noD hlt (iteF ⟨_, rfl, hend (by omega)⟩)
end
end RH
set_option exponentiation.threshold 256
set_option Elab.async false
set_option linter.all false
set_option maxRecDepth 100000
set_option maxHeartbeats 4000000
set_option exponentiation.threshold 100
namespace RH
open PySem PySem.Spec PyProof.Rows L2
theorem Rk.of_udp {D : Nat} : ∀ {us : List UD} {m : Nat}, (∀ u ∈ us, udp u ≤ D) → Rk (2 * D) us m
  | [], _, _ => trivial
  | u :: us, m, h => .inr ⟨Nat.le_trans (rkm_le u m) (by rw [rkx_udp]; have := h u (List.mem_cons_self ..); omega), Rk.of_udp fun x hx => h x (List.mem_cons_of_mem _ hx)⟩
theorem rkm_part {w : List Ent} {t d z m : Nat} (ht : 2 ≤ t) : rkm ⟨w, t, some (d, z)⟩ m = if m ≤ w.length then 2 * d + 1 else 2 * d + 2 := by
  show (if t = 0 then 0 else if t = 1 then 2 * d else if m ≤ w.length then 2 * d + 1 else 2 * d + 2) = _
  rw [if_neg (by omega), if_neg (by omega)]
/-- behind an opened part the same part again, no further than its end -/
theorem Rk.opened {a m d z t : Nat} {w : List Ent} {s : Option (Nat × Nat)} {cs us : List UD} (o : Opn cs w d z) (hs : s = some (d, z)) (ha : 2 * d + 1 ≤ a) (hm : m ≤ 2 * w.length) (hmt : m ≤ (t + 1) * w.length) (h2 : w.length < m → 2 * d + 1 ≤ a) : Rk a (cs ++ ⟨w, t, s⟩ :: us) m := by
  subst hs
  refine Rk.front (fun c hc => ?_) ?_
  · rw [rkx_udp]
    have := o.udp c hc
    omega
  · rw [o.den]
    by_cases hx : m - w.length = 0
    · rw [hx]; exact Rk.zero
    · refine Rk.cons ?_ ?_
      · show (if t = 0 then 0 else if t = 1 then 2 * d else if m - w.length ≤ w.length then 2 * d + 1 else 2 * d + 2) ≤ a
        split
        · omega
        · split
          · omega
          · rw [if_pos (by omega)]; omega
      · show Rk a us (m - w.length - t * w.length)
        rw [Nat.add_mul, Nat.one_mul] at hmt
        rw [show m - w.length - t * w.length = 0 by omega]
        exact Rk.zero
section
variable {g : G} {mg : Str → Option Value} {vs : List V} {H : Hp} {Q : VK} {E : XK}
theorem den_sing (u : UD) : den [u] = rp u.t u.w := by
  show rp u.t u.w ++ [] = _
  rw [List.append_nil]
theorem take_rp_succ {w : List Ent} {M : Nat} (hw : 0 < w.length) : (w ++ rp M w).take M = (rp M w).take M := by
  rw [← rp_succ, rp_add, rp_one, List.take_append_of_le_length (by rw [rp_len]; exact Nat.le_mul_of_pos_right _ hw)]
theorem p_alike_for (T : Txt g mg) {n : Nat} (h : spAlikeFor g (n + 1) vs H Q E) : t_alike_for g n (EndQ Q) (start N_alike_for vs) H := by
  obtain ⟨v1, v2, w1, w2, d1, d2, z1, z2, rfl, h1, h2, n1, n2, l1, l2, hn, q⟩ := h
  have p1 : 0 < w1.length := List.length_pos_iff.mpr n1
  have p2 : 0 < w2.length := List.length_pos_iff.mpr n2
  obtain ⟨M, hM⟩ : ∃ M, w1.length + w2.length = M := ⟨_, rfl⟩
  have hM1 : M ≤ M * w1.length := Nat.le_mul_of_pos_right _ p1
  have hM2 : M ≤ M * w2.length := Nat.le_mul_of_pos_right _ p2
  refine q_wide T h1 (fun R r => ⟨_, rfl, r⟩) (q_wide T h2 (fun R r => ⟨_, rfl, r⟩) (nAdd ?_))
  rw [hM]
  rw [hM] at q
  show tTest (tOp rGtI (tFld g.K (tVar 1) "wide") (tFld g.K (tVar 0) "wide")) [some v1, some v2, some (.int (M : Nat))] H _
  refine q_wide T h2 (fun R r => ⟨_, rfl, r⟩) (q_wide T h1 (fun R r => ⟨_, rfl, r⟩) (nGt ⟨_, rfl, ?_⟩))
  by_cases hc : w1.length < w2.length
  · refine yesD hc ⟨_, rfl, _, rfl, small3, fun pa npa => ⟨_, rfl, _, rfl, _, rfl, small3, fun pb npb => ?_⟩⟩
    have sa : Same H (upd H pa (.tup [v1, .int (M : Nat), .non])) := sameNew npa
    have sb := sa.trans (sameNew (o := .tup [v2, .int (M : Nat), .non]) npb)
    refine ⟨_, _, w2, d2, z2, [⟨w2, M, some (d2, z2)⟩], rfl, h2.mono sb, ⟨pb, v2, .non, rfl, upd_same, ⟨n2, h2.mono sb⟩, rfl⟩, fun H3 v3 cs s3 hu3 o => ?_⟩
    have hpa : H3 pa = some (.tup [v1, .int (M : Nat), .non]) := s3 _ _ (sameNew npb _ _ upd_same)
    refine ⟨_, rfl, _, _, [⟨w1, M, some (d1, z1)⟩], cs ++ [⟨w2, M, some (d2, z2)⟩], M, 2 * d1 + 2, 2 * d2 + 1, rfl, fun _ => ⟨⟨pa, v1, .non, rfl, hpa, ⟨n1, h1.mono (sb.trans s3)⟩, rfl⟩, hu3, ?_, ?_, ?_, ?_, ?_, ?_, by omega⟩, fun H4 k s4 hk => q H4 k ((sb.trans s3).trans s4) ?_⟩
    · rw [den_sing, rp_len]; exact hM1
    · rw [den_append, den_sing, List.length_append, rp_len]; show M ≤ _ + M * w2.length; omega
    · exact Sm.cons ⟨l1, by show M < 4 * LIM; omega⟩ (fun x hx => by cases hx)
    · exact (o.small l2).append (Sm.cons ⟨l2, by show M < 4 * LIM; omega⟩ (fun x hx => by cases hx))
    · refine Rk.cons ?_ trivial
      rw [rkm_part (by omega)]
      split <;> omega
    · refine Rk.opened o rfl (by omega) (by omega) ?_ (fun _ => by omega)
      rw [Nat.add_mul]; omega
    · rw [den_sing, den_append, o.den, den_sing] at hk
      exact hk.congr rfl (take_rp_succ p2)
  · refine noD hc ⟨_, rfl, _, rfl, _, rfl, small3, fun pa npa => ?_⟩
    have sa : Same H (upd H pa (.tup [v1, .int (M : Nat), .non])) := sameNew npa
    refine ⟨_, _, w1, d1, z1, [⟨w1, M, some (d1, z1)⟩], rfl, h1.mono sa, ⟨pa, v1, .non, rfl, upd_same, ⟨n1, h1.mono sa⟩, rfl⟩, fun H3 v3 cs s3 hu3 o => ?_⟩
    refine ⟨_, rfl, _, rfl, small3, fun pb npb => ⟨_, rfl, ?_⟩⟩
    have sb : Same H3 (upd H3 pb (.tup [v2, .int (M : Nat), .non])) := sameNew npb
    have s5 := (sa.trans s3).trans sb
    refine ⟨_, _, cs ++ [⟨w1, M, some (d1, z1)⟩], [⟨w2, M, some (d2, z2)⟩], M, 2 * d1 + 1, 2 * d2 + 2, rfl, fun _ => ⟨hu3.mono sb, ⟨pb, v2, .non, rfl, upd_same, ⟨n2, h2.mono s5⟩, rfl⟩, ?_, ?_, ?_, ?_, ?_, ?_, by omega⟩, fun H4 k s4 hk => q H4 k (s5.trans s4) ?_⟩
    · rw [den_append, den_sing, List.length_append, rp_len]; show M ≤ _ + M * w1.length; omega
    · rw [den_sing, rp_len]; exact hM2
    · exact (o.small l1).append (Sm.cons ⟨l1, by show M < 4 * LIM; omega⟩ (fun x hx => by cases hx))
    · exact Sm.cons ⟨l2, by show M < 4 * LIM; omega⟩ (fun x hx => by cases hx)
    · refine Rk.opened o rfl (by omega) (by omega) ?_ (fun _ => by omega)
      rw [Nat.add_mul]; omega
    · refine Rk.cons ?_ trivial
      rw [rkm_part (by omega)]
      split <;> omega
    · rw [den_sing, den_append, o.den, den_sing] at hk
      exact hk.congr (take_rp_succ p1) rfl
/-- a wide part is opened: its rank falls -/
theorem Wd.falls {u : UD} {us cs : List UD} {m m0 a d z : Nat} (W : Wd u us m) (hs : u.s = some (d, z)) (o : Opn cs u.w d z) (hk : Rk a (u :: us) m0) (hm : m ≤ m0) (hp : 0 < m) : 1 ≤ a ∧ Rk (a - 1) (cs ++ ⟨u.w, u.t - 1, u.s⟩ :: us) m := by
  have h1 := hk.head (by omega)
  have e : rkm u m0 = if m0 ≤ u.w.length then 2 * d + 1 else 2 * d + 2 := by
    have : u = ⟨u.w, u.t, some (d, z)⟩ := by rw [← hs]
    rw [this]
    exact rkm_part W.t
  rw [e] at h1
  have hall := W.all
  have ht := W.t
  by_cases hc : m0 ≤ u.w.length
  · rw [if_pos hc] at h1
    refine ⟨by omega, ?_⟩
    refine Rk.front (fun c hcc => ?_) ?_
    · rw [rkx_udp]
      have := o.udp c hcc
      omega
    · rw [o.den, show m - u.w.length = 0 by omega]
      exact Rk.zero
  · rw [if_neg hc] at h1
    refine ⟨by omega, Rk.opened o hs (by omega) W.two ?_ (fun _ => by omega)⟩
    rw [show u.t - 1 + 1 = u.t by omega]
    exact hall
theorem p_alike_ahead (T : Txt g mg) {n : Nat} (h : spAlikeAhead g (n + 1) vs H Q E) : t_alike_ahead g n (EndQ Q) (start N_alike_ahead vs) H := by
  obtain ⟨v1, v2, u1, us1, u2, us2, m, m0, a, b, rfl, hu1, hu2, hm, hm0, hl1, hl2, hs1, hs2, hk1, hk2, hab, w1, w2, w3, w4, q⟩ := h
  obtain ⟨p1, uv1, r1, rfl, hp1, huv1, hr1⟩ := hu1
  obtain ⟨p2, uv2, r2, rfl, hp2, huv2, hr2⟩ := hu2
  refine ⟨_, rfl, p1, _, rfl, sT hp1, rfl, _, _, rfl, _, _, rfl, _, _, rfl, rfl, ?_⟩
  refine ⟨_, rfl, p2, _, rfl, sT hp2, rfl, _, _, rfl, _, _, rfl, _, _, rfl, rfl, ?_⟩
  -- the other one is opened
  have other : Wd u2 us2 m → tRet (tCall (spAgreement g n) [] E0 (tCons (tVar 0) (tCons (tCall (spOpened g) [] E0 (tCons (tVar 6) (tCons (tTup (tCons (tVar 6) (tCons (tOp rSubI (tVar 7) (tC (.int 1))) (tCons (tVar 8) tNil)))) tNil))) (tCons (tVar 2) tNil)))) (EndQ Q) [some (.ref p1), some (.ref p2), some (.int (m : Nat)), some uv1, some (.int (u1.t : Nat)), some r1, some uv2, some (.int (u2.t : Nat)), some r2] H := fun W => by
    obtain ⟨d, z, hus⟩ : ∃ d z, u2.s = some (d, z) := by
      cases hx : u2.s with
      | none => exact absurd hx W.part
      | some dz => exact ⟨dz.1, dz.2, rfl⟩
    have ht := W.t
    refine ⟨_, rfl, _, rfl, _, rfl, _, rfl, nSub (b := 1) (by omega) ⟨_, rfl, small3, fun p3 np3 => ?_⟩⟩
    have s3 : Same H (upd H p3 (.tup [uv2, .int ((u2.t - 1 : Nat) : Int), r2])) := sameNew np3
    refine ⟨_, _, u2.w, d, z, ⟨u2.w, u2.t - 1, u2.s⟩ :: us2, rfl, (huv2.part hus).mono s3, ⟨p3, uv2, r2, rfl, upd_same, (huv2.times (Nat.sub_le _ _)).mono s3, hr2.mono s3⟩, fun H4 v4 cs s4 hu4 o => ?_⟩
    have s5 := s3.trans s4
    have ⟨ha1, hkf⟩ := W.falls hus o hk2 hm0 hm
    have eden : den (cs ++ ⟨u2.w, u2.t - 1, u2.s⟩ :: us2) = den (u2 :: us2) := den_open o (by omega)
    refine ⟨_, rfl, _, _, u1 :: us1, cs ++ ⟨u2.w, u2.t - 1, u2.s⟩ :: us2, m, a, b - 1, rfl, fun _ => ⟨⟨p1, uv1, r1, rfl, s5 _ _ hp1, huv1.mono s5, hr1.mono s5⟩, hu4, hl1, by rw [eden]; exact hl2, hs1, ?_, hk1.down hm0, hkf, by omega⟩, fun H6 k s6 hk => q H6 k (s5.trans s6) (by rw [eden] at hk; exact hk)⟩
    exact (o.small hs2.head.w).append (Sm.cons ⟨hs2.head.w, Nat.lt_of_le_of_lt (by show u2.t - 1 ≤ u2.t; omega) hs2.head.t⟩ hs2.tail)
  have one : Wd u1 us1 m → tRet (tCall (spAgreement g n) [] E0 (tCons (tCall (spOpened g) [] E0 (tCons (tVar 3) (tCons (tTup (tCons (tVar 3) (tCons (tOp rSubI (tVar 4) (tC (.int 1))) (tCons (tVar 5) tNil)))) tNil))) (tCons (tVar 1) (tCons (tVar 2) tNil)))) (EndQ Q) [some (.ref p1), some (.ref p2), some (.int (m : Nat)), some uv1, some (.int (u1.t : Nat)), some r1, some uv2, some (.int (u2.t : Nat)), some r2] H := fun W => by
    obtain ⟨d, z, hus⟩ : ∃ d z, u1.s = some (d, z) := by
      cases hx : u1.s with
      | none => exact absurd hx W.part
      | some dz => exact ⟨dz.1, dz.2, rfl⟩
    have ht := W.t
    refine ⟨_, rfl, _, rfl, _, rfl, nSub (b := 1) (by omega) ⟨_, rfl, small3, fun p3 np3 => ?_⟩⟩
    have s3 : Same H (upd H p3 (.tup [uv1, .int ((u1.t - 1 : Nat) : Int), r1])) := sameNew np3
    refine ⟨_, _, u1.w, d, z, ⟨u1.w, u1.t - 1, u1.s⟩ :: us1, rfl, (huv1.part hus).mono s3, ⟨p3, uv1, r1, rfl, upd_same, (huv1.times (Nat.sub_le _ _)).mono s3, hr1.mono s3⟩, fun H4 v4 cs s4 hu4 o => ?_⟩
    have s5 := s3.trans s4
    have ⟨ha1, hkf⟩ := W.falls hus o hk1 hm0 hm
    have eden : den (cs ++ ⟨u1.w, u1.t - 1, u1.s⟩ :: us1) = den (u1 :: us1) := den_open o (by omega)
    refine ⟨_, rfl, _, rfl, _, _, cs ++ ⟨u1.w, u1.t - 1, u1.s⟩ :: us1, u2 :: us2, m, a - 1, b, rfl, fun _ => ⟨hu4, ⟨p2, uv2, r2, rfl, s5 _ _ hp2, huv2.mono s5, hr2.mono s5⟩, by rw [eden]; exact hl1, hl2, ?_, hs2, hkf, hk2.down hm0, by omega⟩, fun H6 k s6 hk => q H6 k (s5.trans s6) (by rw [eden] at hk; exact hk)⟩
    exact (o.small hs1.head.w).append (Sm.cons ⟨hs1.head.w, Nat.lt_of_le_of_lt (by show u1.t - 1 ≤ u1.t; omega) hs1.head.t⟩ hs1.tail)
  refine q_isU T (u := u1) rfl huv1 ?_
  cases e1 : u1.s with
  | none => exact iteT (iteT (other (w3 e1)))
  | some dz1 =>
    refine iteF (q_isU T (u := u2) rfl huv2 ?_)
    cases e2 : u2.s with
    | none => exact iteF (iteF (one (w4 e2)))
    | some dz2 =>
      refine iteT (q_wide T (huv2.part (d := dz2.1) (z := dz2.2) e2) (fun R r => ⟨_, rfl, r⟩) (q_wide T (huv1.part (d := dz1.1) (z := dz1.2) e1) (fun R r => ⟨_, rfl, r⟩) (nGt ⟨_, rfl, ?_⟩)))
      have x1 : u1.s ≠ none := by rw [e1]; exact fun z => nomatch z
      have x2 : u2.s ≠ none := by rw [e2]; exact fun z => nomatch z
      by_cases hc : u1.w.length < u2.w.length
      · exact yesD hc (other (w2 x1 x2 hc))
      · exact noD hc (one (w1 x1 x2 (by omega)))
end
end RH
set_option exponentiation.threshold 256
set_option Elab.async false
set_option linter.all false
set_option maxRecDepth 100000
set_option maxHeartbeats 4000000
set_option exponentiation.threshold 100
namespace RH
open PySem PySem.Spec PyProof.Rows L2
theorem take_rp_eq {α : Type} {w : List α} {s t m : Nat} (hs : m ≤ s * w.length) (ht : m ≤ t * w.length) : (rp s w).take m = (rp t w).take m := by
  by_cases hw : w = []
  · subst hw
    rw [rp_nil, rp_nil]
  · exact take_eq_of_get fun i hi => by rw [rp_get hw s i (by omega), rp_get hw t i (by omega)]
theorem take_den {u : UD} {us : List UD} {m : Nat} (h : m ≤ u.t * u.w.length) : (den (u :: us)).take m = (rp u.t u.w).take m := by
  rw [den_cons, List.take_append_of_le_length (by rw [rp_len]; exact h)]
theorem take_more {α : Type} {x y : List α} {f k : Nat} (h1 : x.take f = y.take f) (h2 : (x.drop f).take k = (y.drop f).take k) : x.take (f + k) = y.take (f + k) := by
  rw [List.take_add, List.take_add, h1, h2]
section
variable {g : G} {mg : Str → Option Value} {vs : List V} {H : Hp} {Q : VK} {E : XK}
theorem bool_nat (b : Bool) : V.int (if b then 1 else 0) = V.int ((if b then 1 else 0 : Nat) : Nat) := by cases b <;> rfl
theorem p_agreement (T : Txt g mg) {n : Nat} (h : spAgreement g n vs H Q E) : t_agreement g n (EndQ Q) (start N_agreement vs) H := by
  obtain ⟨v1, v2, us1, us2, m, a, b, rfl, hh, q⟩ := h
  refine ⟨fun k σ H' => ∃ f us1' us2' v1' v2' a4 a5 a6 a7 a8 a9 a10 a11 a12 a13 a14, σ = [some v1', some v2', some (.int (m : Nat)), some (.int (f : Nat)), a4, a5, a6, a7, a8, a9, a10, a11, a12, a13, a14] ∧ Same H H' ∧ f ≤ m ∧ (den us1).take f = (den us2).take f ∧
      (f < m → UR g.part H' us1' v1' ∧ UR g.part H' us2' v2' ∧ den us1' = (den us1).drop f ∧ den us2' = (den us2).drop f ∧ m ≤ (den us1).length ∧ m ≤ (den us2).length ∧ Rk a us1' (m - f) ∧ Rk b us2' (m - f) ∧ Sm us1' ∧ Sm us2' ∧ a + b ≤ n) ∧ k = m - f,
    ⟨_, 0, us1, us2, v1, v2, none, none, none, none, none, none, none, none, none, none, none, rfl, Same.refl H, Nat.zero_le _, by rw [List.take_zero, List.take_zero], fun hm => ?_, rfl⟩, ?_⟩
  · obtain ⟨h1, h2, h3, h4, h5, h6, h7, h8, h9⟩ := hh hm
    exact ⟨h1, h2, rfl, rfl, h3, h4, h7, h8, h5, h6, h9⟩
  rintro k σ H1 ⟨f, us1', us2', v1', v2', a4, a5, a6, a7, a8, a9, a10, a11, a12, a13, a14, rfl, s1, hf, htk, hst, rfl⟩
  refine ⟨_, rfl, _, rfl, nLt ⟨_, rfl, ?_⟩⟩
  by_cases hlt : f < m
  case neg =>
    have : f = m := by omega
    subst this
    exact noD hlt ⟨_, rfl, q H1 f s1 ⟨Nat.le_refl _, htk, fun z => absurd z (Nat.lt_irrefl _)⟩⟩
  obtain ⟨hu1, hu2, hd1, hd2, hl1, hl2, hk1, hk2, hs1, hs2, hab⟩ := hst hlt
  have hr1 : m - f ≤ (den us1').length := by rw [hd1, List.length_drop]; omega
  have hr2 : m - f ≤ (den us2').length := by rw [hd2, List.length_drop]; omega
  refine yesD hlt ⟨fun σ' H' => ∃ k', k' < m - f ∧ ∃ f us1' us2' v1' v2' a4 a5 a6 a7 a8 a9 a10 a11 a12 a13 a14, σ' = [some v1', some v2', some (.int (m : Nat)), some (.int (f : Nat)), a4, a5, a6, a7, a8, a9, a10, a11, a12, a13, a14] ∧ Same H H' ∧ f ≤ m ∧ (den us1).take f = (den us2).take f ∧
      (f < m → UR g.part H' us1' v1' ∧ UR g.part H' us2' v2' ∧ den us1' = (den us1).drop f ∧ den us2' = (den us2).drop f ∧ m ≤ (den us1).length ∧ m ≤ (den us2).length ∧ Rk a us1' (m - f) ∧ Rk b us2' (m - f) ∧ Sm us1' ∧ Sm us2' ∧ a + b ≤ n) ∧ k' = m - f, fun _ _ x => x, ?_⟩
  -- first_unit of both
  refine ⟨_, rfl, _, us1', rfl, hu1, fun hz => absurd (congrArg List.length hz) (by show ¬ _ = 0; omega), fun H2 va ua usa s2 hua hda hta hpa hka hsa _ => ?_⟩
  refine ⟨_, rfl, _, us2', rfl, hu2.mono s2, fun hz => absurd (congrArg List.length hz) (by show ¬ _ = 0; omega), fun H3 vb ub usb s3 hub hdb htb hpb hkb hsb _ => ?_⟩
  have hk1 := hka _ _ hk1
  have hk2 := hkb _ _ hk2
  have hs1 := hsa hs1
  have hs2 := hsb hs2
  have hua := hua.mono s3
  have hua0 := hua
  have hub0 := hub
  obtain ⟨pa, uva, ra, rfl, hpa1, huva, hra⟩ := hua
  obtain ⟨pb, uvb, rb, rfl, hpb1, huvb, hrb⟩ := hub
  refine ⟨_, _, rfl, ?_⟩
  refine ⟨_, rfl, rfl, _, rfl, no (dec_ref pa) ⟨_, rfl, rfl, _, rfl, no (dec_ref pb) ?_⟩⟩
  refine ⟨_, rfl, pa, _, rfl, sT hpa1, rfl, _, _, rfl, _, _, rfl, _, _, rfl, rfl, ?_⟩
  refine ⟨_, rfl, pb, _, rfl, sT hpb1, rfl, _, _, rfl, _, _, rfl, _, _, rfl, rfl, ?_⟩
  have hwa := huva.pos
  have hwb := huvb.pos
  have hsa1 := hs1.head
  have hsb1 := hs2.head
  refine ⟨_, rfl, _, rfl, _, ua, rfl, huva, nMul (lim4 hsa1.t) (lim1 hsa1.w) ⟨_, rfl, _, rfl, _, ub, rfl, huvb, nMul (lim4 hsb1.t) (lim1 hsb1.w) ⟨_, rfl, _, rfl, nSub hf (nMin3 ?_)⟩⟩⟩
  rw [← hda] at hd1 hr1
  rw [← hdb] at hd2 hr2
  obtain ⟨r, hr⟩ : ∃ r, m - f = r := ⟨_, rfl⟩
  rw [hr] at hk1 hk2 hr1 hr2 ⊢
  obtain ⟨M, hM⟩ : ∃ M, min (ua.t * ua.w.length) (min (ub.t * ub.w.length) r) = M := ⟨_, rfl⟩
  rw [hM]
  have xa : 0 < ua.t * ua.w.length := Nat.mul_pos (by omega) hwa
  have xb : 0 < ub.t * ub.w.length := Nat.mul_pos (by omega) hwb
  have M1 : 1 ≤ M := by omega
  have Ma : M ≤ ua.t * ua.w.length := by omega
  have Mb : M ≤ ub.t * ub.w.length := by omega
  have Mr : M ≤ r := by omega
  have s13 : Same H H3 := (s1.trans s2).trans s3
  refine ⟨fun σ' H' => ∃ (al du many : Nat) (x13 x14 : Option V), σ' = [some (.ref pa), some (.ref pb), some (.int (m : Nat)), some (.int (f : Nat)), some uva, some (.int (ua.t : Nat)), some ra, some uvb, some (.int (ub.t : Nat)), some rb, some (.int (many : Nat)), some (.int (al : Nat)), some (.int (du : Nat)), x13, x14] ∧ Same H3 H' ∧
      (al < du → al < r ∧ Agr (den (ua :: usa)) (den (ub :: usb)) r al) ∧ (¬ al < du → 1 ≤ many ∧ many ≤ r ∧ (den (ua :: usa)).take many = (den (ub :: usb)).take many), ?_, ?_⟩
  · -- how far both are alike
    have after : ∀ (many al : Nat), 0 < many → many ≤ r → Agr (den (ua :: usa)) (den (ub :: usb)) many al →
        (al < many → al < r ∧ Agr (den (ua :: usa)) (den (ub :: usb)) r al) ∧ (¬ al < many → 1 ≤ many ∧ many ≤ r ∧ (den (ua :: usa)).take many = (den (ub :: usb)).take many) := fun many al h0 hmr hag =>
      ⟨fun hl => ⟨by omega, hag.mono hl hmr⟩, fun hl => by
        have e : al = many := by have := hag.le; omega
        have := hag.eq
        rw [e] at this
        exact ⟨h0, hmr, this⟩⟩
    have entry : ∀ {u : UD} {v : V}, UnV g.part H3 u v → u.s = none → 1 ≤ u.t → ∃ e, u.t = 1 ∧ u.w = [e] ∧ EntV H3 e v := fun {u v} hu hs ht => by
      unfold UnV at hu
      rw [hs] at hu
      obtain ⟨h1, e, h2, h3⟩ := hu
      exact ⟨e, by omega, h2, h3⟩
    refine q_isU T (u := ua) rfl huva ?_
    cases ea : ua.s with
    | none =>
      obtain ⟨x, xt, xw, xe⟩ := entry huva ea hta
      refine iteT (q_isU T (u := ub) rfl huvb ?_)
      cases eb : ub.s with
      | none =>
        obtain ⟨y, yt, yw, ye⟩ := entry huvb eb htb
        have hM1 : M = 1 := by rw [xt, xw, yt, yw] at hM; have : [x].length = 1 := rfl; have : [y].length = 1 := rfl; omega
        have dx : den (ua :: usa) = x :: den usa := by rw [den_cons, xt, rp_one, xw]; rfl
        have dy : den (ub :: usb) = y :: den usb := by rw [den_cons, yt, rp_one, yw]; rfl
        refine iteT ⟨_, rfl, _, rfl, entD x, entD y, dp_ent xe, dp_ent ye, ent_shaped xe.1, ent_shaped ye.1, Or.inr ⟨_, rfl, ⟨_, _, rfl, ?_⟩⟩⟩
        by_cases hxy : x = y
        · have e1 : PyData.eqv (entD x) (entD y) = true := by rw [eqv_ent]; exact decide_eq_true hxy
          rw [e1]
          refine ⟨1, 1, M, _, _, rfl, Same.refl _, fun z => absurd z (Nat.lt_irrefl _), fun _ => ⟨M1, Mr, ?_⟩⟩
          rw [hM1, dx, dy, hxy]
          rfl
        · have e1 : PyData.eqv (entD x) (entD y) = false := by rw [eqv_ent]; exact decide_eq_false hxy
          rw [e1]
          refine ⟨0, 1, M, _, _, rfl, Same.refl _, fun _ => ⟨by omega, Nat.zero_le _, by rw [List.take_zero, List.take_zero], fun _ z => hxy ?_⟩, fun z => absurd (Nat.zero_lt_one) z⟩
          rw [dx, dy] at z
          exact Option.some.inj z
      | some dz =>
        obtain ⟨d, z⟩ := dz
        have hpb2 := huvb.part eb
        have tb2 : 2 ≤ ub.t := hpb (by rw [eb]; exact fun z => nomatch z)
        refine iteF (q_isU T (u := ua) rfl huva ?_)
        rw [ea]
        refine iteT (iteT (q_isU T (u := ua) rfl huva ?_))
        rw [ea]
        refine iteT ⟨_, rfl, _, rfl, small2, fun p np => ⟨p, _, rfl, sT upd_same, rfl, _, _, rfl, _, _, rfl, rfl, ?_⟩⟩
        have s4 : Same H3 (upd H3 p (.tup [.ref pa, uvb])) := sameNew np
        refine ⟨_, rfl, ?_⟩
        refine q_wide T (hpb2.mono s4) (fun R r => ⟨_, rfl, r⟩) ⟨_, rfl, _, rfl, nSub hf (nMin2 ?_)⟩
        rw [hr]
        refine ⟨_, ua, usa, min ub.w.length r, rfl, hua0.mono s4, ea, xt, by omega, fun H5 k0 s5 h1 h2 h3 => ?_⟩
        have hb2 : ub.w.length ≤ ub.t * ub.w.length := Nat.le_mul_of_pos_left _ (by omega)
        have nb : ub.s ≠ none := by rw [eb]; exact (fun z => by cases z)
        have s45 := s4.trans s5
        refine ⟨_, rfl, _, rfl, _, rfl, _, _, ua, usa, ub, usb, k0, r, a, b, rfl, hua0.mono s45, hub0.mono s45, by omega, by omega, by omega, by omega, hs1, hs2, hk1, hk2, hab, fun z => absurd ea z, fun z => absurd ea z, fun _ => ⟨nb, tb2, by omega, by omega⟩, fun z => absurd z nb, fun H6 al s6 hag => ?_⟩
        have ⟨c1, c2⟩ := after k0 al (by omega) (by omega) hag
        exact ⟨_, rfl, _, _, rfl, al, k0, k0, _, _, rfl, s45.trans s6, c1, c2⟩
    | some dza =>
      obtain ⟨da, za⟩ := dza
      have hpa2 := huva.part ea
      have ta2 : 2 ≤ ua.t := hpa (by rw [ea]; exact fun z => nomatch z)
      refine iteF (iteF (q_isU T (u := ua) rfl huva ?_))
      rw [ea]
      refine iteF (q_isU T (u := ub) rfl huvb ?_)
      cases eb : ub.s with
      | none =>
        obtain ⟨y, yt, yw, ye⟩ := entry huvb eb htb
        refine iteT (q_isU T (u := ua) rfl huva ?_)
        rw [ea]
        refine iteF ⟨_, rfl, _, rfl, small2, fun p np => ⟨p, _, rfl, sT upd_same, rfl, _, _, rfl, _, _, rfl, rfl, ?_⟩⟩
        have s4 : Same H3 (upd H3 p (.tup [.ref pb, uva])) := sameNew np
        refine ⟨_, rfl, ?_⟩
        refine q_wide T (hpa2.mono s4) (fun R r => ⟨_, rfl, r⟩) ⟨_, rfl, _, rfl, nSub hf (nMin2 ?_)⟩
        rw [hr]
        refine ⟨_, ub, usb, min ua.w.length r, rfl, hub0.mono s4, eb, yt, by omega, fun H5 k0 s5 h1 h2 h3 => ?_⟩
        have ha2 : ua.w.length ≤ ua.t * ua.w.length := Nat.le_mul_of_pos_left _ (by omega)
        have na : ua.s ≠ none := by rw [ea]; exact (fun z => by cases z)
        have s45 := s4.trans s5
        refine ⟨_, rfl, _, rfl, _, rfl, _, _, ua, usa, ub, usb, k0, r, a, b, rfl, hua0.mono s45, hub0.mono s45, by omega, by omega, by omega, by omega, hs1, hs2, hk1, hk2, hab, fun _ z => absurd eb z, fun _ z => absurd eb z, fun z => absurd z na, fun _ => ⟨na, ta2, by omega, by omega⟩, fun H6 al s6 hag => ?_⟩
        have ⟨c1, c2⟩ := after k0 al (by omega) (by omega) hag
        exact ⟨_, rfl, _, _, rfl, al, k0, k0, _, _, rfl, s45.trans s6, c1, c2⟩
      | some dzb =>
        obtain ⟨db, zb⟩ := dzb
        have hpb2 := huvb.part eb
        have tb2 : 2 ≤ ub.t := hpb (by rw [eb]; exact fun z => nomatch z)
        have na : ua.s ≠ none := by rw [ea]; exact fun z => nomatch z
        have nb : ub.s ≠ none := by rw [eb]; exact fun z => nomatch z
        refine iteF ⟨_, rfl, _, rfl, _, ua, rfl, huva, _, rfl, _, ub, rfl, huvb, nAdd (nLt ⟨_, rfl, ?_⟩)⟩
        by_cases hc : M < ua.w.length + ub.w.length
        · refine yesD hc ⟨_, rfl, _, rfl, _, rfl, _, _, ua, usa, ub, usb, M, r, a, b, rfl, hua0, hub0, by omega, by omega, by omega, by omega, hs1, hs2, hk1, hk2, hab, fun _ _ hle => ⟨na, ta2, Ma, by omega⟩, fun _ _ hle => ⟨nb, tb2, Mb, by omega⟩, fun z => absurd z na, fun z => absurd z nb, fun H6 al s6 hag => ?_⟩
          have ⟨c1, c2⟩ := after M al (by omega) Mr hag
          exact ⟨_, rfl, _, _, rfl, al, M, M, _, _, rfl, s6, c1, c2⟩
        · refine noD hc ⟨_, rfl, _, rfl, _, _, ua.w, ub.w, da, db, za, zb, rfl, hpa2, hpb2, huva.ne, huvb.ne, hsa1.w, hsb1.w, ?_, fun H4 k s4 hag => ?_⟩
          · have h1 := hk1.head (by omega)
            have h2 := hk2.head (by omega)
            have e1 : ua = ⟨ua.w, ua.t, some (da, za)⟩ := by rw [← ea]
            have e2 : ub = ⟨ub.w, ub.t, some (db, zb)⟩ := by rw [← eb]
            rw [e1, rkm_part ta2, if_neg (by omega)] at h1
            rw [e2, rkm_part tb2, if_neg (by omega)] at h2
            omega
          · refine ⟨_, rfl, _, ua, rfl, huva.mono s4, _, rfl, _, ub, rfl, huvb.mono s4, nAdd ⟨_, _, rfl, k, ua.w.length + ub.w.length, M, _, _, rfl, s4, fun hl => ?_, fun hl => ?_⟩⟩
            · have p1 : ua.w.length + ub.w.length ≤ (ua.w.length + ub.w.length) * ua.w.length := Nat.le_mul_of_pos_right _ hwa
              have p2 : ua.w.length + ub.w.length ≤ (ua.w.length + ub.w.length) * ub.w.length := Nat.le_mul_of_pos_right _ hwb
              refine ⟨by omega, Agr.mono (m := ua.w.length + ub.w.length) (hag.congr ?_ ?_) hl (by omega)⟩
              · rw [take_den (by omega)]; exact take_rp_eq p1 (by omega)
              · rw [take_den (by omega)]; exact take_rp_eq p2 (by omega)
            · refine ⟨M1, Mr, ?_⟩
              have e : k = ua.w.length + ub.w.length := by have := hag.le; omega
              have h3 := hag.eq
              rw [e] at h3
              rw [take_den Ma, take_den Mb]
              exact rp_agree huva.ne huvb.ne (Nat.le_refl _) h3 Ma Mb
  · rintro σ' H4 ⟨al, du, many, x13, x14, rfl, s4, c1, c2⟩
    refine ⟨_, rfl, _, rfl, nLt ⟨_, rfl, ?_⟩⟩
    by_cases hal : al < du
    · refine yesD hal ⟨_, rfl, _, rfl, nAdd (q H4 (f + al) (s13.trans s4) ?_)⟩
      obtain ⟨_, hag⟩ := c1 hal
      rw [hd1, hd2] at hag
      have := Agr.behind htk hag
      rw [show f + r = m by omega] at this
      exact this
    · obtain ⟨hm1, hmr, heq⟩ := c2 hal
      refine noD hal ⟨_, rfl, _, rfl, nAdd ?_⟩
      refine ⟨_, rfl, _, rfl, _, ua :: usa, many, rfl, hua0.mono s4, by omega, hs1, fun H5 v5 us5 s5 hu5 hd5 hk5 hs5 => ?_⟩
      refine ⟨_, rfl, _, rfl, _, ub :: usb, many, rfl, hub0.mono (s4.trans s5), by omega, hs2, fun H6 v6 us6 s6 hu6 hd6 hk6 hs6 => ?_⟩
      rw [hd1, hd2] at heq
      refine ⟨_, _, rfl, m - (f + many), by omega, f + many, us5, us6, v5, v6, _, _, _, _, _, _, _, _, _, _, _, rfl, ((s13.trans s4).trans s5).trans s6, by omega, take_more htk heq, fun _ => ⟨hu5.mono s6, hu6, ?_, ?_, hl1, hl2, ?_, ?_, hs5, hs6, hab⟩, rfl⟩
      · rw [hd5, hd1, List.drop_drop]
      · rw [hd6, hd2, List.drop_drop]
      · rw [show m - (f + many) = r - many by omega]; exact hk5 _ _ hk1
      · rw [show m - (f + many) = r - many by omega]; exact hk6 _ _ hk2
end
end RH
set_option exponentiation.threshold 256
set_option Elab.async false
set_option linter.all false
set_option maxRecDepth 100000
set_option maxHeartbeats 4000000
set_option exponentiation.threshold 100
namespace RH
open PySem PySem.Spec PyProof.Rows L2
section
variable {g : G} {mg : Str → Option Value} {vs : List V} {H : Hp} {Q : VK} {E : XK}
theorem q_yes {σ : L2.St} {R : Bool → Hp → Prop} (h : R true H) : tYes σ H R := h
theorem p_is_name (T : Txt g mg) (h : spIsName vs H Q E) : t_is_name g (EndQ Q) (start N_is_name vs) H := by
  rcases h with ⟨x, rfl, hn, q⟩ | ⟨rfl, q⟩
  · refine q_isi (v := .str x) rfl (.base (.str x)) kit_ss ⟨true, rfl, no rfl ?_⟩
    have hle : x.length ≤ sizeLine := Nat.le_trans hn.hi (by decide)
    refine ⟨_, rfl, _, x.length, rfl, ⟨hle, rfl⟩, nLe (a := 1) ⟨_, rfl, yesD hn.lo (nLe (b := 8) ⟨_, rfl, ?_⟩)⟩⟩
    refine no (by rw [decide_eq_true hn.hi]; rfl) ?_
    refine ⟨_, rfl, x, rfl, fun D nD => ?_⟩
    refine lc_it (walk_str (z := x)) (fun i H' => Same H H' ∧ H' D = some (.lst (List.replicate i (.bl true)))) ⟨sameNew nD, upd_same⟩ (fun _ _ _ _ => trivial) ?_ ?_
    · rintro i y H1 H2 hi ⟨s1, hD⟩ ⟨rfl, c, hc, rfl⟩
      refine ⟨rfl, q_yes (yes rfl ⟨_, rfl, c, letters26, rfl, rfl, _, hD, ?_, ?_⟩)⟩
      · rw [List.length_replicate]
        have : x.cps.size = x.length := rfl
        omega
      · have hmem : c ∈ letters26.cps.toList := hn.all c (by rw [Array.mem_toList_iff]; exact Array.mem_of_getElem? hc)
        rw [decide_eq_true hmem]
        refine ⟨samePut s1 nD, ?_⟩
        rw [upd_same, List.replicate_succ']
    · rintro H1 ⟨s1, hD⟩
      refine ⟨D, List.replicate x.cps.size true, rfl, sL (by rw [List.map_replicate]; exact hD), ?_⟩
      have e : (List.replicate x.cps.size true).all id = true := by simp
      rw [e]
      exact q H1 s1
  · refine q_isi (v := .non) rfl (.base .non) kit_ns ⟨false, rfl, yes rfl (yes rfl (q H (Same.refl H)))⟩
theorem p_is_entry (T : Txt g mg) (h : spIsEntry vs H Q E) : t_is_entry g (EndQ Q) (start N_is_entry vs) H := by
  obtain ⟨v, e, rfl, hv, ok, q⟩ := h
  have hv0 := hv
  obtain ⟨hs, a, rfl, ha⟩ := hv
  refine q_isi rfl (ty_ent hv0) kit_tt ⟨true, rfl, no rfl ?_⟩
  refine ⟨_, rfl, a, _, rfl, .inr (sT ha), nNe (a := 2) (b := 2) ⟨_, rfl, no (by rfl) ?_⟩⟩
  refine ⟨_, rfl, a, _, 0, .str e.k, rfl, rfl, sT ha, by rfl, _, .ty "str", _, _, true, rfl, .ty "str", .base (.str _), kit_ss, true, rfl, no rfl ?_⟩
  refine ⟨_, rfl, a, _, 0, .str e.k, rfl, rfl, sT ha, by rfl, g.kinds, _, rfl, .inr (T.kinds H), rfl, rfl, _, rfl, no ?_ ?_⟩
  · rcases ok.kind with h | h <;> rw [h] <;> decide +kernel
  · refine ⟨_, rfl, a, _, 1, tagV e.t, rfl, rfl, sT ha, by rfl, ?_⟩
    have ht := ok.tag
    cases et : e.t with
    | some x =>
      rw [et] at ht
      exact .inl ⟨x, rfl, ht, fun H1 s1 => ⟨true, rfl, iteT (q H1 s1)⟩⟩
    | none =>
      rw [et] at ht
      refine .inr ⟨rfl, fun H1 s1 => ⟨false, rfl, iteF ⟨_, rfl, small2, fun p np => ?_⟩⟩⟩
      have s2 : Same H1 (upd H1 p (.tup [.str "emit", .non])) := sameNew np
      have e1 : e = ⟨"emit", none⟩ := by
        obtain ⟨k, t⟩ := e
        simp only at et ht
        rw [et, ht]
      have hp : EntV (upd H1 p (.tup [.str "emit", .non])) e (.ref p) := ⟨hs, p, rfl, by rw [e1]; exact upd_same⟩
      refine ⟨entD e, entD e, dp_ent (hv0.mono (s1.trans s2)), dp_ent hp, ent_shaped hs, ent_shaped hs, ?_⟩
      rw [eqv_ent, decide_eq_true rfl]
      exact q _ (s1.trans s2)
theorem p_check_index (h : spCheckIndex vs H Q E) : t_check_index g (EndQ Q) (start N_check_index vs) H := by
  obtain ⟨i, lo, hi, rfl, h1, h2, q⟩ := h
  refine ⟨_, rfl, _, rfl, _, rfl, i, lo, hi, rfl, _, rfl, no ?_ q⟩
  rw [decide_eq_true h1, decide_eq_true h2]
  rfl
theorem p_Made_init (T : Txt g mg) (h : spMadeInit g vs H Q E) : t_Made_init g (EndQ Q) (start N_Made_init vs) H := by
  obtain ⟨a, dx, p, n, q', rfl, ha, q⟩ := h
  rw [← upd_self ha]
  refine (show sFld g.K (tVar 0) (tVar 1) "part" _ _ _ from q_setf (y := p) rfl T.made T.m_part (by show (0 : Nat) < 1000; decide) (fun R r => ⟨_, rfl, r⟩) ?_)
  refine (show sFld g.K (tVar 0) (tVar 2) "nesting" _ _ _ from q_setf (y := n) rfl T.made T.m_nesting (by show (1 : Nat) < 1000; decide) (fun R r => ⟨_, rfl, r⟩) ?_)
  exact (show sFld g.K (tVar 0) (tVar 3) "pieces" _ _ _ from q_setf (y := q') rfl T.made T.m_pieces (by show (2 : Nat) < 1000; decide) (fun R r => ⟨_, rfl, r⟩) q)
theorem wf_part {fs : List (Str × V)} {p n q : V} (h : fs = wf1 p n q ∨ fs = wf2 p n q) : fs.lookup ("part" : Str) = some p ∧ fs.lookup ("nesting" : Str) = some n ∧ fs.lookup ("pieces" : Str) = some q ∧ fs.lookup ("length" : Str) = none := by
  rcases h with rfl | rfl <;> exact ⟨rfl, rfl, rfl, rfl⟩
theorem q_wpart (T : Txt g mg) {ta : TE} {σ : L2.St} {v : V} {w : List Ent} {d n q : Nat} (h : WR g H v w d n q) (hv : ∀ R : VK, R v H → ta σ H R) (k : ∀ pv z, PR g.part H pv w d z → Q pv H) : tFld g.K ta "part" σ H Q := by
  obtain ⟨a, dx, fs, pv, z, rfl, ha, hf, hp⟩ := h
  exact hv _ ⟨a, _, dx, fs, pv, rfl, ha, T.word, T.w_part, (wf_part hf).1, k pv z hp⟩
theorem q_wnest (T : Txt g mg) {ta : TE} {σ : L2.St} {v : V} {w : List Ent} {d n q : Nat} (h : WR g H v w d n q) (hv : ∀ R : VK, R v H → ta σ H R) (k : Q (.int (n : Nat)) H) : tFld g.K ta "nesting" σ H Q := by
  obtain ⟨a, dx, fs, pv, z, rfl, ha, hf, hp⟩ := h
  exact hv _ ⟨a, _, dx, fs, _, rfl, ha, T.word, T.w_nesting, (wf_part hf).2.1, k⟩
theorem q_wpieces (T : Txt g mg) {ta : TE} {σ : L2.St} {v : V} {w : List Ent} {d n q : Nat} (h : WR g H v w d n q) (hv : ∀ R : VK, R v H → ta σ H R) (k : Q (.int (q : Nat)) H) : tFld g.K ta "pieces" σ H Q := by
  obtain ⟨a, dx, fs, pv, z, rfl, ha, hf, hp⟩ := h
  exact hv _ ⟨a, _, dx, fs, _, rfl, ha, T.word, T.w_pieces, (wf_part hf).2.2.1, k⟩
/-- word.length() -/
theorem q_len {ta : TE} {σ : L2.St} {v : V} {w : List Ent} {d n q : Nat} (h : WR g H v w d n q) (hv : ∀ R : VK, R v H → ta σ H R) (k : Q (.int (w.length : Nat)) H) : tMeth g.word "length" (spLength g) [] E0 ta tNil σ H Q := by
  have h0 := h
  obtain ⟨a, dx, fs, pv, z, rfl, ha, hf, hp⟩ := h
  exact hv _ ⟨a, dx, fs, rfl, ha, (wf_part hf).2.2.2, _, w, d, n, q, rfl, h0, k⟩
theorem p_length (T : Txt g mg) (h : spLength g vs H Q E) : t_length g (EndQ Q) (start N_length vs) H := by
  obtain ⟨v, w, d, n, q', rfl, hw, q⟩ := h
  obtain ⟨a, dx, fs, pv, z, rfl, ha, hf, hp⟩ := hw
  exact q_wide T hp (fun R r => ⟨_, rfl, a, _, dx, fs, pv, rfl, ha, T.word, T.w_part, (wf_part hf).1, r⟩) q
theorem q_MadeR {p n q : V} {R : VK} {x dx : Addr} {vs dvs : List V} (e : vs ++ dvs = [p, n, q]) (nx : H x = none) (nd : H dx = none) (ne : dx ≠ x) (k : ∀ H', Same H H' → H' x = some (.ins g.made dx (wf1 p n q)) → R .non H') :
    spMadeInit g (.ref x :: (vs ++ dvs)) (upd (upd H dx (.own x)) x (.ins g.made dx [])) R E0 :=
  ⟨x, dx, p, n, q, by rw [e], upd_same, k _ (samePut (samePut (sameNew nd) nx) nx) upd_same⟩
theorem q_WordM {p n q : V} {R : VK} {b dy x dx : Addr} {vs dvs : List V} (e : vs ++ dvs = [.ref b]) (hb : H b = some (.ins g.made dy (wf1 p n q))) (nx : H x = none) (nd : H dx = none) (ne : dx ≠ x) (k : ∀ H', Same H H' → H' x = some (.ins g.word dx (wf1 p n q)) → R .non H') :
    spWordInit g (.ref x :: (vs ++ dvs)) (upd (upd H dx (.own x)) x (.ins g.word dx [])) R E0 :=
  .inl ⟨x, dx, b, dy, p, n, q, by rw [e], upd_same, samePut (sameNew nd) nx _ _ hb, k _ (samePut (samePut (sameNew nd) nx) nx) upd_same⟩
theorem q_WordL {R : VK} {l x dx : Addr} {es : List V} {w : List Ent} {vs dvs : List V} (e : vs ++ dvs = [.ref l]) (hl : H l = some (.lst es)) (he : EntsV H w es) (ok : ∀ e ∈ w, EntOk e) (hz : w.length ≤ 1000000) (nx : H x = none) (nd : H dx = none) (ne : dx ≠ x) (k : ∀ H', Same H H' → WR g H' (.ref x) w 0 0 1 → R .non H') :
    spWordInit g (.ref x :: (vs ++ dvs)) (upd (upd H dx (.own x)) x (.ins g.word dx [])) R E0 := by
  have s1 : Same H (upd (upd H dx (.own x)) x (.ins g.word dx [])) := samePut (sameNew nd) nx
  refine .inr ⟨x, dx, l, es, w, by rw [e], upd_same, s1 _ _ hl, he.mono s1, ok, hz, fun H' p z hs hx hp => k H' (fun b o hb => hs b o (ne_of_none hb nx) (s1 _ _ hb)) ?_⟩
  exact ⟨x, dx, _, p, z, rfl, hx, .inr rfl, hp⟩
theorem p_Word_add (T : Txt g mg) (h : spWordAdd g vs H Q E) : t_Word_add g (EndQ Q) (start N_Word_add vs) H := by
  obtain ⟨v1, v2, w1, w2, d, n1, q1, n2, q2, rfl, h1, h2, hq, q⟩ := h
  obtain ⟨a1, dx1, fs1, p1, z1, rfl, ha1, hf1, hp1⟩ := h1
  obtain ⟨a2, dx2, fs2, p2, z2, rfl, ha2, hf2, hp2⟩ := h2
  have l1 := wf_part hf1
  have l2 := wf_part hf2
  refine ⟨_, rfl, a1, _, dx1, fs1, _, rfl, ha1, T.word, T.w_pieces, l1.2.2.1, _, rfl, a2, _, dx2, fs2, _, rfl, ha2, T.word, T.w_pieces, l2.2.2.1, nAdd ⟨_, rfl, nGt (b := 1000) ⟨_, rfl, noD (by omega) ?_⟩⟩⟩
  refine ⟨_, rfl, a1, _, dx1, fs1, _, rfl, ha1, T.word, T.w_part, l1.1, _, rfl, a2, _, dx2, fs2, _, rfl, ha2, T.word, T.w_part, l2.1, p1, p2, w1, w2, d, z1, z2, rfl, hp1, hp2, fun H1 pv z s1 hpv => ?_⟩
  refine ⟨_, rfl, a1, _, dx1, fs1, _, rfl, s1 _ _ ha1, T.word, T.w_nesting, l1.2.1, _, rfl, a2, _, dx2, fs2, _, rfl, s1 _ _ ha2, T.word, T.w_nesting, l2.2.1, small2, fun l nl => ?_⟩
  have s2 : Same H1 (upd H1 l (.lst [.int (n1 : Nat), .int (n2 : Nat)])) := sameNew nl
  refine ⟨l, [(n1 : Int), (n2 : Int)], rfl, sL upd_same, Nat.zero_lt_succ _, fun m hm hmax => ?_⟩
  have em : m = ((max n1 n2 : Nat) : Int) := by
    have a1 := hmax _ (List.mem_cons_self ..)
    have a2 := hmax _ (List.mem_cons_of_mem _ (List.mem_cons_self ..))
    rcases List.mem_cons.mp hm with rfl | hm
    · omega
    · rw [List.mem_singleton.mp hm] at a1 ⊢
      omega
  rw [em]
  refine ⟨_, rfl, ?_⟩
  intro x dx nx nd ne
  refine q_MadeR (vs := [pv, .int ((max n1 n2 : Nat) : Int), .int ((q1 + q2 : Nat) : Int)]) (dvs := []) rfl nx nd ne fun H3 s3 hx => ⟨rfl, ?_⟩
  intro y dy ny nyd nye
  refine q_WordM (vs := [.ref x]) (dvs := []) rfl hx ny nyd nye fun H4 s4 hy => ⟨rfl, ?_⟩
  exact q H4 _ (((s1.trans s2).trans s3).trans s4) ⟨y, dy, _, pv, z, rfl, hy, .inl rfl, hpv.mono ((s2.trans s3).trans s4)⟩
theorem p_Word_mul (T : Txt g mg) (h : spWordMul g vs H Q E) : t_Word_mul g (EndQ Q) (start N_Word_mul vs) H := by
  obtain ⟨v, w, d, n, q', t, rfl, hw, hn, ht, q⟩ := h
  refine ⟨_, rfl, _, rfl, (t : Int), 0, (t : Int), rfl, _, rfl, no ?_ ?_⟩
  · rw [decide_eq_true (show (0 : Int) ≤ (t : Int) by omega), decide_eq_true (Int.le_refl _)]
    rfl
  obtain ⟨a1, dx1, fs1, p1, z1, rfl, ha1, hf1, hp1⟩ := hw
  have l1 := wf_part hf1
  refine ⟨_, rfl, a1, _, dx1, fs1, _, rfl, ha1, T.word, T.w_nesting, l1.2.1, nEq (b := 6) ⟨_, rfl, noD (by omega) ?_⟩⟩
  refine ⟨_, rfl, a1, _, dx1, fs1, _, rfl, ha1, T.word, T.w_part, l1.1, _, rfl, p1, w, d, z1, t, d + 1, rfl, hp1, ht, by omega, fun _ => Nat.le_refl _, fun H1 pv z1 s1 hpv => ?_⟩
  refine ⟨_, rfl, a1, _, dx1, fs1, _, rfl, s1 _ _ ha1, T.word, T.w_nesting, l1.2.1, nAdd (b := 1) ⟨_, rfl, a1, _, dx1, fs1, _, rfl, s1 _ _ ha1, T.word, T.w_pieces, l1.2.2.1, ?_⟩⟩
  intro x dx nx nd ne
  refine q_MadeR (vs := [pv, .int ((n + 1 : Nat) : Int), .int (q' : Nat)]) (dvs := []) rfl nx nd ne fun H3 s3 hx => ⟨rfl, ?_⟩
  intro y dy ny nyd nye
  refine q_WordM (vs := [.ref x]) (dvs := []) rfl hx ny nyd nye fun H4 s4 hy => ⟨rfl, ?_⟩
  exact q H4 _ ((s1.trans s3).trans s4) ⟨y, dy, _, pv, z1, rfl, hy, .inl rfl, hpv.mono (s3.trans s4)⟩
end
end RH
set_option exponentiation.threshold 256
set_option Elab.async false
set_option linter.all false
set_option maxRecDepth 100000
set_option maxHeartbeats 4000000
set_option exponentiation.threshold 100
namespace RH
open PySem PySem.Spec PyProof.Rows L2
structure Keeps (H H' : Hp) : Prop where
  tup : ∀ b xs, H b = some (.tup xs) → H' b = some (.tup xs)
  prt : ∀ b C dx l lv rv t tf w, H b = some (.ins C dx (pf l lv rv t tf w)) → H' b = some (.ins C dx (pf l lv rv t tf w))
theorem EntV.keeps {H H' : Hp} {e : Ent} {v : V} (s : Keeps H H') (h : EntV H e v) : EntV H' e v := by
  obtain ⟨es, a, rfl, h⟩ := h
  exact ⟨es, a, rfl, s.tup _ _ h⟩
theorem EntsV.keeps {H H' : Hp} (s : Keeps H H') : ∀ {es : List Ent} {vs : List V}, EntsV H es vs → EntsV H' es vs
  | [], [], _ => trivial
  | _ :: _, _ :: _, h => ⟨h.1.keeps s, EntsV.keeps s h.2⟩
  | [], _ :: _, h => h.elim
  | _ :: _, [], h => h.elim
theorem TurnOk.keeps {H H' : Hp} {tf bv : V} {k : Nat} {w wb : List Ent} (s : Keeps H H') (h : TurnOk H tf bv k w wb) : TurnOk H' tf bv k w wb := by
  rcases h with h | ⟨t, h1, h2, h3⟩
  · exact .inl h
  · exact .inr ⟨t, h1, s.tup _ _ h2, h3⟩
theorem PR.keeps {C : Addr} {H H' : Hp} (s : Keeps H H') {v : V} {w : List Ent} {d z : Nat} (h : PR C H v w d z) : PR C H' v w d z := by
  induction h with
  | leaf ha hl he ht hb ih => exact .leaf (s.prt _ _ _ _ _ _ _ _ _ ha) (s.tup _ _ hl) (he.keeps s) (ht.keeps s) ih
  | rep ha hl hn hw hp ht hb ih1 ih2 => exact .rep (s.prt _ _ _ _ _ _ _ _ _ ha) (s.tup _ _ hl) hn hw ih1 (ht.keeps s) ih2
  | cat ha hl h1 h2 hp hq ht hb ih1 ih2 ih3 => exact .cat (s.prt _ _ _ _ _ _ _ _ _ ha) (s.tup _ _ hl) h1 h2 ih1 ih2 (ht.keeps s) ih3
/-- a word's own fields are stored -/
theorem keeps_word {H : Hp} {a C dx : Addr} {fs : List (Str × V)} {o : HO} (h : H a = some (.ins C dx fs)) (hf : fs.length < 6) : Keeps H (upd H a o) where
  tup := fun b xs e => by rw [upd_ne (ne_of e h (fun z => by cases z))]; exact e
  prt := fun b C' dx' l lv rv t tf w e => by
    rw [upd_ne (ne_of e h (fun z => by injection z with _ _ z; rw [← z] at hf; exact absurd hf (by show ¬ 6 < 6; omega)))]; exact e
theorem cutV_nat (xs : List V) {a b : Nat} (h : a ≤ b) : cutV xs (some (a : Int)) (some (b : Int)) = (xs.drop a).take (b - a) := by
  unfold cutV
  rw [HT.sIx_nat, HT.sIx_nat]
  by_cases ha : a ≤ xs.length
  · rw [Nat.min_eq_left ha]
    by_cases hb : b ≤ xs.length
    · rw [Nat.min_eq_left hb]
    · rw [Nat.min_eq_right (by omega), List.take_of_length_le (by rw [List.length_drop]; omega), List.take_of_length_le (by rw [List.length_drop]; omega)]
  · rw [Nat.min_eq_right (by omega), Nat.min_eq_right (by omega), Nat.sub_self, List.take_zero, List.drop_eq_nil_of_le (by omega), List.take_nil]
theorem rs60 (L : Nat) : Builtin.Range.rangeSize 0 (L : Int) 60 = (((L + 59) / 60 : Nat) : Int) := by
  unfold Builtin.Range.rangeSize
  rw [if_pos (show (60 : Int) > 0 by decide)]
  by_cases h : (0 : Int) < (L : Int)
  · rw [if_pos h]; omega
  · rw [if_neg h]; omega
theorem rg60 (L : Nat) (h : L ≤ 16777216) : ∃ n : Nat, RgC 0 (L : Int) 60 n ∧ L ≤ 60 * n := by
  refine ⟨(L + 59) / 60, ⟨by decide, by decide, ?_, rs60 L⟩, by omega⟩
  have fits : ∀ x : Int, 0 ≤ x → x ≤ 20000000 → Builtin.Range.rangeFitsLong x = true := fun x h1 h2 => by
    unfold Builtin.Range.rangeFitsLong
    rw [Bool.and_eq_true]
    exact ⟨decide_eq_true (by omega), decide_eq_true (by omega)⟩
  unfold Builtin.Range.small
  rw [rs60, fits 0 (by omega) (by omega), fits (L : Int) (by omega) (by omega), fits 60 (by omega) (by omega), fits (((L + 59) / 60 : Nat) : Int) (by omega) (by omega), if_pos (show (60 : Int) > 0 by decide), fits ((L : Int) + (60 - 1)) (by omega) (by omega), Bool.or_true]
  rfl
section
variable {g : G} {mg : Str → Option Value} {vs : List V} {H : Hp} {Q : VK} {E : XK}
theorem ty_made (T : Txt g mg) {a dx : Addr} {fs : List (Str × V)} (h : H a = some (.ins g.made dx fs)) : TyX g.K H (.ref a) (.ref g.made) := .base (.ins h T.made T.made_cl T.cls_get T.cls_tk T.made_ob)
theorem p_Word_init (T : Txt g mg) (h : spWordInit g vs H Q E) : t_Word_init g (EndQ Q) (start N_Word_init vs) H := by
  rcases h with ⟨a, dx, b, dy, p, n, q', rfl, ha, hb, q⟩ | ⟨a, dx, l, es, w, rfl, ha, hl, he, ok, hsz, q⟩
  · refine ⟨_, rfl, .ref b, .ref g.made, _, _, true, rfl, .own g.made, ty_made T hb, T.made_made, true, rfl, iteT ?_⟩
    have hab : b ≠ a := ne_of hb ha (fun z => by injection z with _ _ z; cases z)
    have hb' : ∀ o, upd H a o b = some (.ins g.made dy (wf1 p n q')) := fun o => by rw [upd_ne hab]; exact hb
    rw [← upd_self ha]
    refine (show sFld g.K (tVar 0) (tFld g.K (tVar 1) "part") "part" _ _ _ from q_setf (y := p) rfl T.word T.w_part (by show (0 : Nat) < 1000; decide) (fun R r => ⟨_, rfl, b, _, dy, _, _, rfl, hb' _, T.made, T.m_part, rfl, r⟩) ?_)
    refine (show sFld g.K (tVar 0) (tFld g.K (tVar 1) "nesting") "nesting" _ _ _ from q_setf (y := n) rfl T.word T.w_nesting (by show (1 : Nat) < 1000; decide) (fun R r => ⟨_, rfl, b, _, dy, _, _, rfl, hb' _, T.made, T.m_nesting, rfl, r⟩) ?_)
    exact (show sFld g.K (tVar 0) (tFld g.K (tVar 1) "pieces") "pieces" _ _ _ from q_setf (y := q') rfl T.word T.w_pieces (by show (2 : Nat) < 1000; decide) (fun R r => ⟨_, rfl, b, _, dy, _, _, rfl, hb' _, T.made, T.m_pieces, rfl, r⟩) q)
  · have hlen : es.length = w.length := he.len
    refine ⟨_, rfl, .ref l, .ref g.made, _, _, false, rfl, .own g.made, .base (.lst hl), T.list_made, false, rfl, iteF ?_⟩
    refine q_isi (v := .ref l) rfl (.base (.lst hl)) kit_ll ⟨true, rfl, no rfl ?_⟩
    -- all of them are entries
    refine ⟨_, rfl, l, rfl, ⟨_, sL hl⟩, fun D nD => ?_⟩
    refine lc_list (K := g.K) (a := l) (xs := es) (fun i H' => Same H H' ∧ H' D = some (.lst (List.replicate i (.bl true)))) ⟨sameNew nD, upd_same⟩ (fun i H' _ x => sL (x.1 _ _ hl)) ?_ ?_
    · rintro i y H1 hy ⟨s1, hD⟩
      obtain ⟨e, he1, he2⟩ := he.get hy
      have hi := (List.getElem?_eq_some_iff.mp hy).1
      refine ⟨rfl, q_yes (yes rfl ⟨_, rfl, y, e, rfl, he2.mono s1, ok e (List.mem_of_getElem? he1), fun H2 s2 => ⟨_, s2 _ _ hD, ?_, ?_⟩⟩)⟩
      · rw [List.length_replicate]
        exact Nat.lt_of_lt_of_le hi (Nat.le_trans (show es.length ≤ 1000000 by omega) (by decide))
      · refine ⟨samePut (s1.trans s2) nD, ?_⟩
        rw [upd_same, List.replicate_succ']
    · rintro H1 ⟨s1, hD⟩
      refine ⟨D, List.replicate es.length true, rfl, sL (by rw [List.map_replicate]; exact hD), ?_⟩
      have e : (List.replicate es.length true).all id = true := by simp
      rw [e]
      refine ⟨true, rfl, no rfl ?_⟩
      -- nesting, pieces
      have ha1 := s1 _ _ ha
      rw [← upd_self ha1]
      refine (show sFld g.K (tVar 0) (tC (.int 0)) "nesting" _ _ _ from q_setf (y := .int 0) rfl T.word T.w_nesting (by show (0 : Nat) < 1000; decide) (fun R r => r) ?_)
      refine (show sFld g.K (tVar 0) (tC (.int 1)) "pieces" _ _ _ from q_setf (y := .int 1) rfl T.word T.w_pieces (by show (1 : Nat) < 1000; decide) (fun R r => r) ?_)
      have hne : ∀ b o, b ≠ a → H b = some o → upd H1 a (.ins g.word dx (putF "pieces" (.int 1) (putF "nesting" (.int 0) []))) b = some o := fun b o hb h => by rw [upd_ne hb]; exact s1 _ _ h
      have hpa : upd H1 a (.ins g.word dx (putF "pieces" (.int 1) (putF "nesting" (.int 0) []))) a = some (.ins g.word dx [("nesting", .int 0), ("pieces", .int 1)]) := by rw [upd_same]; rfl
      generalize upd H1 a (.ins g.word dx (putF "pieces" (.int 1) (putF "nesting" (.int 0) []))) = H2 at hne hpa ⊢
      -- the first part
      refine ⟨small0, fun p np => ?_⟩
      intro x dx' nx nd ne
      refine q_PartR (vs := [.ref p, .non, .non, .int 1]) (dvs := [.non]) rfl (wide_leaf upd_same) nx nd ne fun H3 s3 hx => ⟨rfl, ?_⟩
      have s23 : Same H2 H3 := Same.trans (sameNew np) s3
      have ha3 := s23 _ _ hpa
      refine ⟨_, rfl, a, _, dx, _, rfl, ha3, T.word, T.w_part, by show (2 : Nat) < 1000; decide, ?_⟩
      have hx0 : PR g.part H3 (.ref x) [] 0 (2 * ([] : List Ent).length + 1) := mkLeaf hx (s3 _ _ upd_same) trivial
      obtain ⟨cnt, hrg, hcnt⟩ := rg60 es.length (by omega)
      have hla : l ≠ a := ne_of hl ha (fun z => by cases z)
      have hll : ∀ {H' : Hp}, (∀ b o, b ≠ a → H b = some o → H' b = some o) → H' l = some (.lst es) := fun h => h _ _ hla hl
      have hel : ∀ {H' : Hp}, (∀ b o, b ≠ a → H b = some o → H' b = some o) → EntsV H' w es := fun h => he.keeps ⟨fun b xs e => h b _ (ne_of e ha (fun z => by cases z)) e, fun b C dx l lv rv t tf w e => h b _ (ne_of e ha (fun z => by injection z with _ _ z; cases z)) e⟩
      have hpre : ∀ b o, b ≠ a → H b = some o → upd H3 a (.ins g.word dx (wf2 (.ref x) (.int ((0 : Nat) : Int)) (.int ((1 : Nat) : Int)))) b = some o := fun b o hb h => by rw [upd_ne hb]; exact s23 _ _ (hne b o hb h)
      refine ⟨_, rfl, l, es, rfl, .inl (sL (hll hpre)), 0, (es.length : Nat), 60, cnt, rfl, hrg, ?_⟩
      refine for_rangeC (lo := 0) (c := 60) (n := cnt) (fun i σ H' => ∃ pv z x2, σ = [some (.ref a), some (.ref l), x2, none] ∧ (∀ b o, b ≠ a → H b = some o → H' b = some o) ∧ H' a = some (.ins g.word dx (wf2 pv (.int ((0 : Nat) : Int)) (.int ((1 : Nat) : Int)))) ∧ PR g.part H' pv (w.take (60 * i)) 0 z)
        ⟨.ref x, 1, none, rfl, hpre, upd_same, ?_⟩ ?_ ?_
      · rw [Nat.mul_zero, List.take_zero]
        exact hx0.keeps (keeps_word ha3 (by show (2 : Nat) < 6; decide))
      · rintro i σ H4 hi ⟨pv, z, x2, rfl, hk4, ha4, hpv⟩
        refine ⟨_, rfl, a, _, dx, _, _, rfl, ha4, T.word, T.w_part, rfl, ?_⟩
        have ei : (0 : Int) + ((i : Nat) : Int) * 60 = ((60 * i : Nat) : Int) := by omega
        rw [ei]
        refine ⟨_, rfl, _, rfl, _, rfl, _, rfl, nAdd (b := 60) ⟨_, rfl, l, es, rfl, sL (hll hk4), fun p5 np5 => ?_⟩⟩
        rw [cutV_nat es (by omega), show 60 * i + 60 - 60 * i = 60 by omega]
        have s5 : Same H4 (upd H4 p5 (.lst ((es.drop (60 * i)).take 60))) := sameNew np5
        refine ⟨p5, _, rfl, .inl ⟨sL upd_same, fun p6 np6 => ?_⟩⟩
        have s6 := s5.trans (sameNew (o := .tup ((es.drop (60 * i)).take 60)) np6)
        intro x7 dx7 nx7 nd7 ne7
        refine q_PartR (vs := [.ref p6, .non, .non, .int 1]) (dvs := [.non]) rfl (wide_leaf upd_same) nx7 nd7 ne7 fun H7 s7 hx7 => ⟨rfl, ?_⟩
        have s67 := s6.trans s7
        have hnew : PR g.part H7 (.ref x7) ((w.drop (60 * i)).take 60) 0 (2 * ((w.drop (60 * i)).take 60).length + 1) := mkLeaf hx7 (s7 _ _ upd_same) ((((hel hk4).drop (60 * i)).take 60).mono s67)
        refine ⟨pv, .ref x7, _, _, 0, z, _, rfl, hpv.mono s67, hnew, fun H8 v8 z8 s8 hv8 => ?_⟩
        have ha8 := s8 _ _ (s67 _ _ ha4)
        refine ⟨_, rfl, a, _, dx, _, rfl, ha8, T.word, T.w_part, by show (3 : Nat) < 1000; decide, ?_⟩
        refine ⟨v8, z8, _, rfl, fun b o hb h => by rw [upd_ne hb]; exact s8 _ _ (s67 _ _ (hk4 b o hb h)), upd_same, ?_⟩
        rw [show 60 * (i + 1) = 60 * i + 60 by omega, List.take_add]
        exact hv8.keeps (keeps_word ha8 (by show (3 : Nat) < 6; decide))
      · rintro σ H4 ⟨pv, z, x2, rfl, hk4, ha4, hpv⟩
        rw [List.take_of_length_le (by omega)] at hpv
        exact q H4 pv z hk4 ha4 hpv
end
end RH
set_option exponentiation.threshold 256
set_option Elab.async false
set_option linter.all false
set_option maxRecDepth 100000
set_option maxHeartbeats 4000000
set_option exponentiation.threshold 100
namespace RH
open PySem PySem.Spec PyProof.Rows L2
theorem len_ne {w : List Ent} (h : 0 < w.length) : w ≠ [] := List.length_pos_iff.mp h
section
variable {g : G} {mg : Str → Option Value} {vs : List V} {H : Hp} {Q : VK} {E : XK}
theorem p_agreeing (T : Txt g mg) {n : Nat} (h : spAgreeing g n vs H Q E) : t_agreeing g n (EndQ Q) (start N_agreeing vs) H := by
  obtain ⟨v1, v2, w1, w2, d1, n1, q1, d2, n2, q2, f, s, rfl, h1, h2, hf, hs, hl1, hl2, hn, q⟩ := h
  have h10 := h1
  have h20 := h2
  obtain ⟨a1, dx1, fs1, p1, z1, rfl, ha1, hf1, hp1⟩ := h1
  obtain ⟨a2, dx2, fs2, p2, z2, rfl, ha2, hf2, hp2⟩ := h2
  have l1 := wf_part hf1
  have l2 := wf_part hf2
  refine ⟨_, rfl, _, rfl, a1, dx1, fs1, rfl, ha1, l1.2.2.2, _, w1, d1, n1, q1, rfl, h10, (f : Int), 0, (w1.length : Int), rfl, by omega, by omega, ?_⟩
  refine ⟨_, rfl, _, rfl, a2, dx2, fs2, rfl, ha2, l2.2.2.2, _, w2, d2, n2, q2, rfl, h20, (s : Int), 0, (w2.length : Int), rfl, by omega, by omega, ?_⟩
  refine ⟨_, rfl, a1, dx1, fs1, rfl, ha1, l1.2.2.2, _, w1, d1, n1, q1, rfl, h10, _, rfl, nSub hf ⟨_, rfl, a2, dx2, fs2, rfl, ha2, l2.2.2.2, _, w2, d2, n2, q2, rfl, h20, _, rfl, nSub hs (nMin2 ?_)⟩⟩
  refine ⟨_, rfl, a1, _, dx1, fs1, _, rfl, ha1, T.word, T.w_part, l1.1, small3, fun pa npa => ?_⟩
  have sa : Same H (upd H pa (.tup [p1, .int 1, .non])) := sameNew npa
  refine ⟨_, rfl, _, [⟨w1, 1, some (d1, z1)⟩], f, rfl, fun hp => ⟨ur_one upd_same (len_ne (by omega)) (hp1.mono sa), by rw [den_one]; exact hf, sm_one hl1⟩, fun H2 vb us2 s2 e0 e1 => ?_⟩
  have f1 : 0 < w1.length → UR g.part H2 us2 vb ∧ den us2 = w1.drop f ∧ (∀ u ∈ us2, udp u ≤ d1) ∧ Sm us2 := fun hp => by
    by_cases hf0 : f = 0
    · obtain ⟨rfl, rfl⟩ := e0 hf0
      exact ⟨(ur_one upd_same (len_ne hp) (hp1.mono sa)).mono s2, by rw [den_one, hf0, List.drop_zero], udp_one, sm_one hl1⟩
    · obtain ⟨x1, x2, x3, x4⟩ := e1 (Nat.pos_of_ne_zero hf0)
      exact ⟨x1, by rw [x2, den_one], x3 d1 udp_one, x4⟩
  have s12 := sa.trans s2
  refine ⟨_, rfl, a2, _, dx2, fs2, _, rfl, s12 _ _ ha2, T.word, T.w_part, l2.1, small3, fun pb npb => ?_⟩
  have sb : Same H2 (upd H2 pb (.tup [p2, .int 1, .non])) := sameNew npb
  refine ⟨_, rfl, _, [⟨w2, 1, some (d2, z2)⟩], s, rfl, fun hp => ⟨ur_one upd_same (len_ne (by omega)) (hp2.mono (s12.trans sb)), by rw [den_one]; exact hs, sm_one hl2⟩, fun H4 vd us4 s4 e2 e3 => ?_⟩
  have f2 : 0 < w2.length → UR g.part H4 us4 vd ∧ den us4 = w2.drop s ∧ (∀ u ∈ us4, udp u ≤ d2) ∧ Sm us4 := fun hp => by
    by_cases hs0 : s = 0
    · obtain ⟨rfl, rfl⟩ := e2 hs0
      exact ⟨(ur_one upd_same (len_ne hp) (hp2.mono (s12.trans sb))).mono s4, by rw [den_one, hs0, List.drop_zero], udp_one, sm_one hl2⟩
    · obtain ⟨x1, x2, x3, x4⟩ := e3 (Nat.pos_of_ne_zero hs0)
      exact ⟨x1, by rw [x2, den_one], x3 d2 udp_one, x4⟩
  have s34 := sb.trans s4
  refine ⟨_, rfl, vb, vd, us2, us4, min (w1.length - f) (w2.length - s), 2 * d1, 2 * d2, rfl, fun hm => ?_, fun H5 k s5 hk => ?_⟩
  · obtain ⟨x1, x2, x3, x4⟩ := f1 (by omega)
    obtain ⟨y1, y2, y3, y4⟩ := f2 (by omega)
    exact ⟨x1.mono s34, y1, by rw [x2, List.length_drop]; omega, by rw [y2, List.length_drop]; omega, x4, y4, Rk.of_udp x3, Rk.of_udp y3, by omega⟩
  · refine q H5 k ((s12.trans s34).trans s5) ?_
    by_cases hm : min (w1.length - f) (w2.length - s) = 0
    · rw [hm] at hk ⊢
      have : k = 0 := by have := hk.le; omega
      subst this
      exact ⟨Nat.le_refl _, by rw [List.take_zero, List.take_zero], fun z => absurd z (Nat.lt_irrefl _)⟩
    · have x2 := (f1 (by omega)).2.1
      have y2 := (f2 (by omega)).2.1
      rw [← x2, ← y2]
      exact hk
end
end RH
set_option exponentiation.threshold 256
set_option Elab.async false
set_option linter.all false
set_option maxRecDepth 100000
set_option maxHeartbeats 4000000
set_option exponentiation.threshold 100
namespace RH
open PySem PySem.Spec PyProof.Rows L2
section
variable {g : G} {mg : Str → Option Value} {vs : List V} {H : Hp} {Q : VK} {E : XK}
theorem p_first_difference (T : Txt g mg) {n : Nat} (h : spFirstDiff g n vs H Q E) : t_first_difference g n (EndQ Q) (start N_first_difference vs) H := by
  obtain ⟨v1, v2, w1, w2, d1, n1, q1, d2, n2, q2, rfl, h1, h2, hl1, hl2, hn, q⟩ := h
  refine ⟨_, rfl, _, rfl, v1, v2, w1, w2, d1, n1, q1, d2, n2, q2, 0, 0, rfl, h1, h2, Nat.zero_le _, Nat.zero_le _, hl1, hl2, hn, fun H1 k s1 hk => ?_⟩
  rw [List.drop_zero, List.drop_zero, Nat.sub_zero, Nat.sub_zero] at hk
  have qk := q H1 k s1 hk
  have h10 := h1.mono s1
  have h20 := h2.mono s1
  obtain ⟨a1, dx1, fs1, p1, z1, rfl, ha1, hf1, hp1⟩ := h1.mono s1
  obtain ⟨a2, dx2, fs2, p2, z2, rfl, ha2, hf2, hp2⟩ := h2.mono s1
  have l1 := wf_part hf1
  have l2 := wf_part hf2
  refine ⟨_, rfl, _, rfl, a1, dx1, fs1, rfl, ha1, l1.2.2.2, _, w1, d1, n1, q1, rfl, h10, nEq ⟨_, rfl, ?_⟩⟩
  by_cases e1 : k = w1.length
  · refine yesD e1 ⟨_, rfl, a2, dx2, fs2, rfl, ha2, l2.2.2.2, _, w2, d2, n2, q2, rfl, h20, nEq ⟨_, rfl, ?_⟩⟩
    by_cases e2 : w1.length = w2.length
    · refine yesD e2 ?_
      rw [if_pos ⟨e1, e2⟩] at qk
      exact qk
    · refine noD e2 ⟨_, rfl, ?_⟩
      rw [if_neg (fun z => e2 z.2)] at qk
      exact qk
  · refine noD e1 ⟨_, rfl, no rfl ⟨_, rfl, ?_⟩⟩
    rw [if_neg (fun z => e1 z.1)] at qk
    exact qk
end
end RH
set_option exponentiation.threshold 256
set_option Elab.async false
set_option linter.all false
set_option maxRecDepth 100000
set_option maxHeartbeats 4000000
set_option exponentiation.threshold 100
namespace RH
open PySem PySem.Spec PyProof.Rows L2
theorem UnV.keeps {C : Addr} {H H' : Hp} (s : Keeps H H') {u : UD} {v : V} (h : UnV C H u v) : UnV C H' u v := by
  unfold UnV at h ⊢
  cases e : u.s with
  | none => rw [e] at h; obtain ⟨h1, x, h2, h3⟩ := h; exact ⟨h1, x, h2, h3.keeps s⟩
  | some dz => rw [e] at h; exact ⟨h.1, h.2.keeps s⟩
theorem UR.keeps {C : Addr} {H H' : Hp} (s : Keeps H H') : ∀ {us : List UD} {v : V}, UR C H us v → UR C H' us v
  | [], _, h => h
  | _ :: _, _, ⟨a, uv, r, h1, h2, h3, h4⟩ => ⟨a, uv, r, h1, s.tup _ _ h2, h3.keeps s, UR.keeps s h4⟩
theorem keeps_lst {H : Hp} {a : Addr} {es : List V} {o : HO} (h : H a = some (.lst es)) : Keeps H (upd H a o) where
  tup := fun b xs e => by rw [upd_ne (ne_of e h (fun z => by cases z))]; exact e
  prt := fun b C' dx' l lv rv t tf w e => by rw [upd_ne (ne_of e h (fun z => by cases z))]; exact e
section
variable {g : G} {mg : Str → Option Value} {vs : List V} {H : Hp} {Q : VK} {E : XK}
theorem p_cut (T : Txt g mg) (h : spCut g vs H Q E) : t_cut g (EndQ Q) (start N_cut vs) H := by
  obtain ⟨v, w, d, n, q', f, l, rfl, hw, hfl, hl, hlim, q⟩ := h
  obtain ⟨a1, dx1, fs1, p1, z1, rfl, ha1, hf1, hp1⟩ := hw
  have l1 := wf_part hf1
  refine ⟨_, rfl, ?_⟩
  refine q_wide T hp1 (fun R r => ⟨_, rfl, a1, _, dx1, fs1, p1, rfl, ha1, T.word, T.w_part, l1.1, r⟩) ⟨(f : Int), 0, (w.length : Int), rfl, by omega, by omega, ?_⟩
  refine ⟨_, rfl, _, rfl, ?_⟩
  refine q_wide T hp1 (fun R r => ⟨_, rfl, a1, _, dx1, fs1, p1, rfl, ha1, T.word, T.w_part, l1.1, r⟩) ⟨(l : Int), (f : Int), (w.length : Int), rfl, by omega, by omega, ?_⟩
  refine ⟨_, rfl, a1, _, dx1, fs1, _, rfl, ha1, T.word, T.w_part, l1.1, small3, fun pa npa => ?_⟩
  have sa : Same H (upd H pa (.tup [p1, .int 1, .non])) := sameNew npa
  refine ⟨_, rfl, _, [⟨w, 1, some (d, z1)⟩], f, rfl, fun hp => ⟨ur_one upd_same (len_ne (by omega)) (hp1.mono sa), by rw [den_one]; omega, sm_one hlim⟩, fun H2 vb us2 s2 e0 e1 => ?_⟩
  have f1 : 0 < w.length → UR g.part H2 us2 vb ∧ den us2 = w.drop f ∧ (∀ u ∈ us2, udp u ≤ d) ∧ Sm us2 := fun hp => by
    by_cases hf0 : f = 0
    · obtain ⟨rfl, rfl⟩ := e0 hf0
      exact ⟨(ur_one upd_same (len_ne hp) (hp1.mono sa)).mono s2, by rw [den_one, hf0, List.drop_zero], udp_one, sm_one hlim⟩
    · obtain ⟨x1, x2, x3, x4⟩ := e1 (Nat.pos_of_ne_zero hf0)
      exact ⟨x1, by rw [x2, den_one], x3 d udp_one, x4⟩
  have s12 := sa.trans s2
  refine ⟨_, rfl, _, rfl, nSub hfl ⟨vb, us2, l - f, d, rfl, fun hm => ?_, fun H3 v3 z3 s3 hv3 => ?_⟩⟩
  · obtain ⟨x1, x2, x3, x4⟩ := f1 (by omega)
    exact ⟨x1, by rw [x2, List.length_drop]; omega, x4, x3⟩
  have s13 := s12.trans s3
  refine ⟨_, rfl, a1, _, dx1, fs1, _, rfl, s13 _ _ ha1, T.word, T.w_nesting, l1.2.1, _, rfl, a1, _, dx1, fs1, _, rfl, s13 _ _ ha1, T.word, T.w_pieces, l1.2.2.1, ?_⟩
  intro x dx nx nd ne
  refine q_MadeR (vs := [v3, .int (n : Nat), .int (q' : Nat)]) (dvs := []) rfl nx nd ne fun H4 s4 hx => ⟨rfl, ?_⟩
  intro y dy ny nyd nye
  refine q_WordM (vs := [.ref x]) (dvs := []) rfl hx ny nyd nye fun H5 s5 hy => ⟨rfl, ?_⟩
  refine q H5 _ ((s13.trans s4).trans s5) ⟨y, dy, _, v3, z3, rfl, hy, .inl rfl, ?_⟩
  have hv3 := hv3.mono (s4.trans s5)
  by_cases hm : l - f = 0
  · rw [hm, List.take_zero] at hv3 ⊢
    exact hv3
  · rw [(f1 (by omega)).2.1] at hv3
    exact hv3
/-- the loop of entries -/
def EntW (g : G) (H : Hp) (v : V) (D : Addr) (w : List Ent) (d l : Nat) (fv lv : V) (n : Nat) (σ : L2.St) (H' : Hp) : Prop :=
  ∃ us vu es R x5 x6 x7, σ = [some v, some fv, some lv, some (.ref D), some vu, x5, x6, x7] ∧ Same H H' ∧ H' D = some (.lst es) ∧ es.length ≤ l ∧ EntsV H' (w.take es.length) es ∧ R ≤ 2 * d ∧
    (es.length < l → UR g.part H' us vu ∧ den us = w.drop es.length ∧ (∀ m, Rk (2 * d) us m) ∧ Rk R us 1) ∧ n = (l - es.length) * (2 * d + 1) + R
theorem p_entries (T : Txt g mg) (h : spEntries g vs H Q E) : t_entries g (EndQ Q) (start N_entries vs) H := by
  obtain ⟨v, w, d, n, q', f, l, rfl, hw, hfl, hl, hl1000, hlim, q⟩ := h
  obtain ⟨a1, dx1, fs1, p1, z1, rfl, ha1, hf1, hp1⟩ := hw
  have l1 := wf_part hf1
  refine ⟨_, rfl, ?_⟩
  refine q_wide T hp1 (fun R r => ⟨_, rfl, a1, _, dx1, fs1, p1, rfl, ha1, T.word, T.w_part, l1.1, r⟩) ⟨(f : Int), 0, (w.length : Int), rfl, by omega, by omega, ?_⟩
  refine ⟨_, rfl, _, rfl, ?_⟩
  refine q_wide T hp1 (fun R r => ⟨_, rfl, a1, _, dx1, fs1, p1, rfl, ha1, T.word, T.w_part, l1.1, r⟩) ⟨_, rfl, nAdd (b := 1000) (nMin2 ⟨(l : Int), (f : Int), ((min w.length (f + 1000) : Nat) : Int), rfl, by omega, by omega, ?_⟩)⟩
  refine ⟨small0, fun D nD => ?_⟩
  have sD : Same H (upd H D (.lst [])) := sameNew nD
  refine ⟨_, rfl, a1, _, dx1, fs1, _, rfl, sD _ _ ha1, T.word, T.w_part, l1.1, small3, fun pa npa => ?_⟩
  have sa := sD.trans (sameNew (o := .tup [p1, .int 1, .non]) npa)
  refine ⟨_, rfl, _, [⟨w, 1, some (d, z1)⟩], f, rfl, fun hp => ⟨ur_one upd_same (len_ne (by omega)) (hp1.mono sa), by rw [den_one]; omega, sm_one hlim⟩, fun H2 vb us2 s2 e0 e1 => ?_⟩
  have f1 : 0 < w.length → UR g.part H2 us2 vb ∧ den us2 = w.drop f ∧ (∀ u ∈ us2, udp u ≤ d) ∧ Sm us2 := fun hp => by
    by_cases hf0 : f = 0
    · obtain ⟨rfl, rfl⟩ := e0 hf0
      exact ⟨(ur_one upd_same (len_ne hp) (hp1.mono sa)).mono s2, by rw [den_one, hf0, List.drop_zero], udp_one, sm_one hlim⟩
    · obtain ⟨x1, x2, x3, x4⟩ := e1 (Nat.pos_of_ne_zero hf0)
      exact ⟨x1, by rw [x2, den_one], x3 d udp_one, x4⟩
  have s12 := sa.trans s2
  have hD2 : H2 D = some (.lst []) := s2 _ _ ((sameNew npa) _ _ upd_same)
  refine ⟨EntW g H (.ref a1) D (w.drop f) d (l - f) (.int (f : Nat)) (.int (l : Nat)), ⟨_, us2, vb, [], 2 * d, none, none, none, rfl, s12, hD2, Nat.zero_le _, trivial, Nat.le_refl _, fun hlt => ?_, rfl⟩, ?_⟩
  · obtain ⟨x1, x2, x3, x4⟩ := f1 (by have : ([] : List V).length = 0 := rfl; omega)
    exact ⟨x1, x2, fun m => Rk.of_udp x3, Rk.of_udp x3⟩
  rintro n σ H3 ⟨us, vu, es, R, x5, x6, x7, rfl, s3, hD3, hel, hee, hR, hrest, rfl⟩
  refine ⟨_, rfl, D, es, rfl, .inl (sL hD3), _, rfl, _, rfl, nSub hfl (nLt ⟨_, rfl, ?_⟩)⟩
  by_cases hlt : es.length < l - f
  · obtain ⟨hu, hden, hrk, hr1⟩ := hrest hlt
    refine yesD hlt ⟨fun σ' H' => ∃ n', n' < (l - f - es.length) * (2 * d + 1) + R ∧ EntW g H (.ref a1) D (w.drop f) d (l - f) (.int (f : Nat)) (.int (l : Nat)) n' σ' H', fun _ _ x => x, ?_⟩
    have hdl : 0 < (den us).length := by rw [hden, List.length_drop, List.length_drop]; omega
    refine ⟨_, rfl, vu, us, rfl, hu, fun h0 => absurd (congrArg List.length h0) (by show ¬ _ = 0; omega), fun H4 v4 u us4 s4 hu4 hden4 ht hpt hrk4 hsm4 _ => ?_⟩
    obtain ⟨p, uv, r, rfl, hpp, huv, hr⟩ := hu4
    refine ⟨p, _, rfl, sT hpp, rfl, _, _, rfl, _, _, rfl, _, _, rfl, rfl, ?_⟩
    refine ⟨_, rfl, _, rfl, nSub (b := 1) ht ⟨_, rfl, small3, fun p5 np5 => ?_⟩⟩
    have s5 := sameNew (o := .tup [uv, .int ((u.t - 1 : Nat) : Int), r]) np5
    have hk4 : ∀ m, Rk (2 * d) (u :: us4) m := fun m => hrk4 _ _ (hrk m)
    have hh4 : Rk R (u :: us4) 1 := hrk4 _ _ hr1
    have hwp := huv.pos
    have hD5 := s5 _ _ (s4 _ _ hD3)
    refine q_isU T (u := u) rfl (huv.mono s5) ?_
    cases hs : u.s with
    | none =>
      have huv' := huv
      unfold UnV at huv'
      rw [hs] at huv'
      obtain ⟨ht1, e, hwe, hev⟩ := huv'
      have ht1 : u.t = 1 := by omega
      refine iteT ⟨_, rfl, Or.inl ⟨rfl, _, sL hD5⟩, _, rfl, D, _, _, rfl, rfl, hD5, Nat.lt_of_lt_of_le (show es.length < 1000 by omega) (by decide), ?_⟩
      have kp : Keeps (upd H4 p5 (.tup [uv, .int ((u.t - 1 : Nat) : Int), r])) (upd (upd H4 p5 (.tup [uv, .int ((u.t - 1 : Nat) : Int), r])) D (.lst (es ++ [uv]))) := keeps_lst hD5
      have hdr : (w.drop f).drop es.length = e :: den us4 := by rw [← hden, ← hden4, den_cons, ht1, rp_one, hwe]; rfl
      have hlen1 : (es ++ [uv]).length = es.length + 1 := by rw [List.length_append]; rfl
      refine ⟨(l - f - (es.length + 1)) * (2 * d + 1) + 2 * d, ?_, ⟨u.w, u.t - 1, u.s⟩ :: us4, .ref p5, es ++ [uv], 2 * d, _, _, _, rfl, samePut ((s3.trans s4).trans s5) nD, upd_same, by omega, ?_, Nat.le_refl _, fun _ => ⟨?_, ?_, ?_, ?_⟩, by rw [hlen1]⟩
      · have e1 : l - f - es.length = (l - f - (es.length + 1)) + 1 := by omega
        rw [e1, Nat.add_mul, Nat.one_mul]
        omega
      · rw [hlen1, List.take_succ]
        have : (w.drop f)[es.length]? = some e := by
          have := congrArg List.head? hdr
          rwa [List.head?_drop] at this
        rw [this]
        exact ((hee.mono (s4.trans s5)).append (show EntsV _ [e] [uv] from ⟨hev.mono s5, trivial⟩)).keeps kp
      · exact UR.keeps kp ⟨p5, uv, r, rfl, upd_same, (huv.times (by omega)).mono s5, hr.mono s5⟩
      · rw [hlen1, den_zero (u := ⟨u.w, u.t - 1, u.s⟩) (by show u.t - 1 = 0; omega), ← List.drop_drop, hdr]; rfl
      · intro m
        refine Rk.cons ?_ ?_
        · unfold rkm; rw [hs]; exact Nat.zero_le _
        · have := (hk4 (m + 1)).tail
          rw [ht1, hwe] at this
          show Rk _ us4 (m - (u.t - 1) * u.w.length)
          rw [ht1]
          simpa using this
      · refine Rk.cons ?_ ?_
        · unfold rkm; rw [hs]; exact Nat.zero_le _
        · have := (hk4 (1 + 1)).tail
          rw [ht1, hwe] at this
          show Rk _ us4 (1 - (u.t - 1) * u.w.length)
          rw [ht1]
          simpa using this
    | some dz =>
      obtain ⟨dd, z⟩ := dz
      have ht2 : 2 ≤ u.t := hpt (by rw [hs]; exact fun z => nomatch z)
      have hrkm : 2 * dd + 1 ≤ rkm u 1 := by
        unfold rkm; rw [hs]
        show 2 * dd + 1 ≤ (if u.t = 0 then 0 else if u.t = 1 then 2 * dd else if 1 ≤ u.w.length then 2 * dd + 1 else 2 * dd + 2)
        rw [if_neg (by omega), if_neg (by omega)]
        split <;> omega
      have hRR := Nat.le_trans hrkm (hh4.head (by decide))
      have hRd : 2 * dd + 1 ≤ 2 * d := Nat.le_trans hrkm ((hk4 1).head (by decide))
      refine iteF ⟨_, rfl, _, rfl, uv, .ref p5, u.w, dd, z, ⟨u.w, u.t - 1, u.s⟩ :: us4, rfl, (huv.part hs).mono s5, ⟨p5, uv, r, rfl, upd_same, (huv.times (by omega)).mono s5, hr.mono s5⟩, fun H6 v6 cs s6 hu6 o => ?_⟩
      have s46 := (s4.trans s5).trans s6
      have hcs : (den cs).length = u.w.length := by rw [o.den]
      have hrx : ∀ c ∈ cs, rkx c ≤ 2 * dd := fun c hc => by rw [rkx_udp]; have := o.udp c hc; omega
      refine ⟨(l - f - es.length) * (2 * d + 1) + 2 * dd, by omega, cs ++ ⟨u.w, u.t - 1, u.s⟩ :: us4, v6, es, 2 * dd, _, _, _, rfl, s3.trans s46, s6 _ _ hD5, hel, hee.mono s46, by omega, fun _ => ⟨hu6, ?_, fun m => ?_, ?_⟩, rfl⟩
      · rw [den_append, o.den, den_cons, ← hden, ← hden4, den_cons, ← List.append_assoc]
        congr 1
        rw [show u.t = (u.t - 1) + 1 by omega, rp_succ]; rfl
      · refine Rk.front (fun c hc => Nat.le_trans (hrx c hc) (by omega)) ?_
        rw [hcs]
        have := (hk4 m).less (n := 1) (by omega)
        rwa [Nat.one_mul] at this
      · refine Rk.front hrx ?_
        rw [hcs, show 1 - u.w.length = 0 by omega]
        exact Rk.zero
  · refine noD hlt ⟨_, rfl, q H3 _ s3 ⟨D, es, rfl, hD3, ?_⟩⟩
    have e : es.length = l - f := by omega
    rwa [e] at hee
theorem p_getitem (T : Txt g mg) (h : spGetItem g vs H Q E) : t_getitem g (EndQ Q) (start N_getitem vs) H := by
  obtain ⟨v, w, d, n, q', i, e, rfl, hw, he, hlim, q⟩ := h
  have hw0 := hw
  obtain ⟨a1, dx1, fs1, p1, z1, rfl, ha1, hf1, hp1⟩ := hw
  have l1 := wf_part hf1
  have hi := (List.getElem?_eq_some_iff.mp he).1
  refine ⟨_, rfl, ?_⟩
  refine q_wide T hp1 (fun R r => ⟨_, rfl, a1, _, dx1, fs1, p1, rfl, ha1, T.word, T.w_part, l1.1, r⟩) (nSub (b := 1) (by omega) ⟨(i : Int), 0, ((w.length - 1 : Nat) : Int), rfl, by omega, by omega, ?_⟩)
  have hne : fs1.lookup ("entries" : Str) = none := by rcases hf1 with rfl | rfl <;> rfl
  refine ⟨_, rfl, a1, dx1, fs1, rfl, ha1, hne, _, rfl, _, rfl, nAdd (b := 1) ⟨_, w, d, n, q', i, i + 1, rfl, hw0, by omega, by omega, by omega, hlim, fun H2 v2 s2 h2 => ?_⟩⟩
  obtain ⟨b, es, rfl, hb, hes⟩ := h2
  have e1 : (w.drop i).take (i + 1 - i) = [e] := by
    rw [show i + 1 - i = 1 by omega, List.take_one, List.head?_drop, he]; rfl
  rw [e1] at hes
  match es, hes with
  | [x], hx => exact ⟨b, _, 0, x, rfl, rfl, sL hb, rfl, q H2 x s2 hx.1⟩
end
end RH
set_option exponentiation.threshold 256
set_option Elab.async false
set_option linter.all false
set_option maxRecDepth 100000
set_option maxHeartbeats 4000000
set_option exponentiation.threshold 100
namespace RH
open PySem PySem.Spec PyProof.Rows L2
theorem log_lt {n : Nat} (h : n < 1099511627776) : n.log2 < 40 := by
  by_cases h0 : n = 0
  · subst h0; decide
  · exact (Nat.log2_lt h0).mpr h
theorem cmul {i j : Int} (h1 : 0 ≤ i) (h2 : i < 1099511627776) (h3 : 0 ≤ j) (h4 : j < 1099511627776) : CMulW i j := by
  have a := log_lt (n := i.natAbs) (by omega)
  have b := log_lt (n := j.natAbs) (by omega)
  show i.natAbs.log2 + j.natAbs.log2 < 1000000
  omega
theorem cdiv {i j : Int} (h3 : 0 < j) (h4 : j < 1099511627776) : CDivW i j := by
  have b := log_lt (n := j.natAbs) (by omega)
  exact ⟨h3, by omega⟩
theorem natsV_push (ds : List Nat) (n : Nat) : natsV ds ++ [.int (n : Nat)] = natsV (ds ++ [n]) := by unfold natsV; rw [List.map_append]; rfl
theorem natsV_len (ds : List Nat) : (natsV ds).length = ds.length := by unfold natsV; rw [List.length_map]
theorem natsV_take (ds : List Nat) (n : Nat) : (natsV ds).take n = natsV (ds.take n) := by unfold natsV; rw [List.map_take]
theorem natsV_drop (ds : List Nat) (n : Nat) : (natsV ds).drop n = natsV (ds.drop n) := by unfold natsV; rw [List.map_drop]
theorem natsV_get {ds : List Nat} {i : Nat} {v : V} (h : (natsV ds)[i]? = some v) : ∃ n, ds[i]? = some n ∧ v = .int (n : Nat) := by
  unfold natsV at h
  rw [List.getElem?_map] at h
  cases e : ds[i]? with
  | none => rw [e] at h; cases h
  | some n => rw [e] at h; exact ⟨n, rfl, (Option.some.inj h).symm⟩
theorem cutV_to (xs : List V) (b : Nat) : cutV xs none (some (b : Int)) = xs.take b := by
  unfold cutV
  rw [HT.sIx_nat]
  show (xs.drop 0).take (min b xs.length - 0) = _
  rw [List.drop_zero, Nat.sub_zero]
  by_cases h : b ≤ xs.length
  · rw [Nat.min_eq_left h]
  · rw [Nat.min_eq_right (by omega), List.take_of_length_le (Nat.le_refl _), List.take_of_length_le (by omega)]
theorem cutV_from (xs : List V) (a : Nat) : cutV xs (some (a : Int)) none = xs.drop a := by
  unfold cutV
  rw [HT.sIx_nat]
  show (xs.drop (min a xs.length)).take (xs.length - min a xs.length) = _
  by_cases h : a ≤ xs.length
  · rw [Nat.min_eq_left h, List.take_of_length_le (by rw [List.length_drop]; omega)]
  · rw [Nat.min_eq_right (by omega), List.drop_eq_nil_of_le (Nat.le_refl _), List.drop_eq_nil_of_le (by omega), List.take_nil]
theorem keeps_list {H : Hp} {a : Addr} {es : List V} {o : HO} (h : H a = some (.lst es)) : Keeps H (upd H a o) where
  tup := fun b xs e => by rw [upd_ne (ne_of e h (fun z => by cases z))]; exact e
  prt := fun b C' dx' l lv rv t tf w e => by rw [upd_ne (ne_of e h (fun z => by cases z))]; exact e
theorem isRow.push {w : List Ent} {i : Nat} (h : isRow w) : isRow (w ++ [ent4 i]) := fun e he => by
  rcases List.mem_append.mp he with he | he
  · exact h e he
  · exact ⟨i, List.mem_singleton.mp he⟩
theorem isRow.append {w v : List Ent} (h : isRow w) (h2 : isRow v) : isRow (w ++ v) := fun e he => by
  rcases List.mem_append.mp he with he | he
  · exact h e he
  · exact h2 e he
theorem small4 : (4 : Nat) ≤ sizeLine := by decide
theorem ent4_s (n : Nat) : EntS (ent4 n) := by
  have hn : n % 4 = 0 ∨ n % 4 = 1 ∨ n % 4 = 2 ∨ n % 4 = 3 := by omega
  unfold ent4
  rcases hn with h | h | h | h <;> rw [h]
  · exact ⟨by decide +kernel, fun x e => by injection e with e; rw [← e]; decide +kernel⟩
  · exact ⟨by decide +kernel, fun x e => by injection e with e; rw [← e]; decide +kernel⟩
  · exact ⟨by decide +kernel, fun x e => by injection e with e; rw [← e]; decide +kernel⟩
  · exact ⟨by decide +kernel, fun x e => nomatch e⟩
theorem ent4_0 {n : Nat} (h : n % 4 = 0) : ent4 n = ⟨"emit", some "a"⟩ := by unfold ent4; rw [h]; rfl
theorem ent4_1 {n : Nat} (h : n % 4 = 1) : ent4 n = ⟨"emit", some "b"⟩ := by unfold ent4; rw [h]; rfl
theorem ent4_2 {n : Nat} (h : n % 4 = 2) : ent4 n = ⟨"final", some "a"⟩ := by unfold ent4; rw [h]; rfl
theorem ent4_3 {n : Nat} (h : n % 4 = 3) : ent4 n = ⟨"emit", none⟩ := by unfold ent4; rw [h]; rfl
section
variable {g : G} {mg : Str → Option Value} {vs : List V} {H : Hp} {Q : VK} {E : XK}
theorem p_cell (T : Txt g mg) (h : spCell g vs H Q E) : t_cell g (EndQ Q) (start N_cell vs) H := by
  obtain ⟨a, ns, k, rfl, hl, q⟩ := h
  refine ⟨_, rfl, _, rfl, a, _, rfl, .inl hl, iLt ⟨_, rfl, ?_⟩⟩
  rw [List.length_map]
  by_cases hk : k < ns.length
  · refine yesD (by omega) ⟨_, rfl, _, rfl, a, _, (k : Nat), .int (ns[k]), rfl, rfl, hl, atI_nat ?_, q _⟩
    rw [List.getElem?_map, List.getElem?_eq_getElem hk]; rfl
  · exact noD (by omega) ⟨_, rfl, iAdd (q _)⟩
theorem p_entry (T : Txt g mg) (h : spEntry vs H Q E) : t_entry g (EndQ Q) (start N_entry vs) H := by
  obtain ⟨n, rfl, q⟩ := h
  refine ⟨small2, fun p1 n1 => ⟨small2, fun p2 n2 => ⟨small2, fun p3 n3 => ⟨small2, fun p4 n4 => ⟨small4, fun p5 n5 => ⟨_, rfl, .inl ⟨_, rfl, iMod (by decide) ?_⟩⟩⟩⟩⟩⟩⟩
  have e : ((n : Nat) : Int) % 4 = ((n % 4 : Nat) : Int) := by omega
  rw [e]
  have s4 := sameNew (o := .lst [.ref p1, .ref p2, .ref p3, .ref p4]) n5
  have s3 := (sameNew (o := .tup [.str "emit", .non]) n4).trans s4
  have s2 := (sameNew (o := .tup [.str "final", .str "a"]) n3).trans s3
  have s1 := (sameNew (o := .tup [.str "emit", .str "b"]) n2).trans s2
  have s0 := (sameNew (o := .tup [.str "emit", .str "a"]) n1).trans s1
  have hn : n % 4 = 0 ∨ n % 4 = 1 ∨ n % 4 = 2 ∨ n % 4 = 3 := by omega
  rcases hn with h | h | h | h <;> rw [h]
  · exact ⟨p5, _, _, .ref p1, rfl, rfl, sL upd_same, rfl, q _ _ s0 ⟨ent4_s n, p1, rfl, by rw [ent4_0 h]; exact s1 _ _ upd_same⟩⟩
  · exact ⟨p5, _, _, .ref p2, rfl, rfl, sL upd_same, rfl, q _ _ s0 ⟨ent4_s n, p2, rfl, by rw [ent4_1 h]; exact s2 _ _ upd_same⟩⟩
  · exact ⟨p5, _, _, .ref p3, rfl, rfl, sL upd_same, rfl, q _ _ s0 ⟨ent4_s n, p3, rfl, by rw [ent4_2 h]; exact s3 _ _ upd_same⟩⟩
  · exact ⟨p5, _, _, .ref p4, rfl, rfl, sL upd_same, rfl, q _ _ s0 ⟨ent4_s n, p4, rfl, by rw [ent4_3 h]; exact s4 _ _ upd_same⟩⟩
theorem dg_nat (x : Int) : x % 1009 = (((x % 1009).toNat : Nat) : Int) := (Int.toNat_of_nonneg (Int.emod_nonneg _ (by decide))).symm
theorem dg_lt {ds : List Nat} {x : Int} (h : ∀ y ∈ ds, y < 1009) : ∀ y ∈ ds ++ [(x % 1009).toNat], y < 1009 := fun y hy => by
  rcases List.mem_append.mp hy with hy | hy
  · exact h y hy
  · have := Int.emod_lt_of_pos x (show (0 : Int) < 1009 by decide)
    rw [List.mem_singleton.mp hy]; omega
theorem p_digits (T : Txt g mg) (h : spDigits vs H Q E) : t_digits g (EndQ Q) (start N_digits vs) H := by
  obtain ⟨c, m, rfl, hm, q⟩ := h
  refine ⟨small0, fun D nD => ?_⟩
  refine ⟨_, rfl, iPow ⟨by decide, by decide, by decide⟩ (iGe ⟨_, rfl, ?_⟩)⟩
  by_cases hc : (10 : Int) ^ (18 : Int).toNat ≤ c
  · refine yesD hc ?_
    refine ⟨_, rfl, _, rfl, .inl ⟨_, rfl, iMod (by decide) ?_⟩⟩
    refine ⟨_, rfl, (m : Nat), rfl, by omega, by omega, ?_⟩
    refine for_range (lo := 0) (n := ((m : Nat) : Int).toNat) (fun i σ H' => ∃ (r x : Int) (x5 : Option V) (ds : List Nat), σ = [some (.int c), some (.int (m : Nat)), some (.ref D), some (.int r), some (.int x), x5] ∧ 0 ≤ x ∧ x < 2147483648 ∧ Same H H' ∧ H' D = some (.lst (natsV ds)) ∧ ds.length = i ∧ ∀ x ∈ ds, x < 1009) ⟨c, _, none, [], rfl, Int.emod_nonneg _ (by decide), Int.lt_trans (Int.emod_lt_of_pos _ (by decide)) (by decide), sameNew nD, upd_same, rfl, fun _ z => absurd z List.not_mem_nil⟩ ?_ ?_
    · rintro i σ H1 hi ⟨r, x, x5, ds, rfl, hx1, hx2, s1, hD, hl, hds⟩
      refine ⟨_, rfl, iMul (cmul hx1 (by omega) (by decide) (by decide)) ⟨_, rfl, iMul (cmul (by decide) (by decide) (by omega) (by omega)) (iAdd (iAdd (.inl ⟨_, rfl, iMod (by decide) ?_⟩)))⟩⟩
      have a1 : 0 ≤ (x * 48271 + 30103 * (0 + ((i : Nat) : Int)) + 11) % 2147483647 := Int.emod_nonneg _ (by decide)
      have a2 : (x * 48271 + 30103 * (0 + ((i : Nat) : Int)) + 11) % 2147483647 < 2147483647 := Int.emod_lt_of_pos _ (by decide)
      generalize (x * 48271 + 30103 * (0 + ((i : Nat) : Int)) + 11) % 2147483647 = y at a1 a2 ⊢
      refine ⟨_, rfl, _, rfl, iDiv (cdiv (by decide) (by decide)) (iAdd (iMul (cmul a1 (by omega) (by omega) (by omega)) (.inl ⟨_, rfl, iMod (by decide) ?_⟩)))⟩
      have b1 : 0 ≤ (y * (y / 1009 + 69621)) % 2147483629 := Int.emod_nonneg _ (by decide)
      have b2 : (y * (y / 1009 + 69621)) % 2147483629 < 2147483629 := Int.emod_lt_of_pos _ (by decide)
      generalize (y * (y / 1009 + 69621)) % 2147483629 = z at b1 b2 ⊢
      refine ⟨_, rfl, iGt ⟨_, rfl, ?_⟩⟩
      by_cases hr : 0 < r
      · refine yesD hr ⟨_, rfl, Or.inl ⟨rfl, _, sL hD⟩, _, rfl, .inl ⟨_, rfl, iMod (by decide) ⟨D, _, _, rfl, rfl, hD, by rw [natsV_len, hl]; exact Nat.lt_of_lt_of_le (show i < 1000 by omega) (by decide), ?_⟩⟩⟩
        rw [dg_nat r, natsV_push]
        exact ⟨_, rfl, iDiv (cdiv (by decide) (by decide)) ⟨_, _, _, _, rfl, b1, by omega, samePut s1 nD, upd_same, by rw [List.length_append, hl]; rfl, dg_lt hds⟩⟩
      · refine noD hr ⟨_, rfl, Or.inl ⟨rfl, _, sL hD⟩, _, rfl, iDiv (cdiv (by decide) (by decide)) (.inl ⟨_, rfl, iMod (by decide) ⟨D, _, _, rfl, rfl, hD, by rw [natsV_len, hl]; exact Nat.lt_of_lt_of_le (show i < 1000 by omega) (by decide), ?_⟩⟩)⟩
        rw [dg_nat (z / 7), natsV_push]
        exact ⟨_, _, _, _, rfl, b1, by omega, samePut s1 nD, upd_same, by rw [List.length_append, hl]; rfl, dg_lt hds⟩
    · rintro σ H1 ⟨r, x, x5, ds, rfl, hx1, hx2, s1, hD, hl, hds⟩
      exact ⟨_, rfl, q H1 _ ds s1 ⟨D, rfl, hD⟩ (by omega) hds⟩
  · refine noD hc ?_
    refine ⟨_, rfl, .inl ⟨_, rfl, iMod (by decide) ?_⟩⟩
    refine ⟨_, rfl, (m : Nat), rfl, by omega, by omega, ?_⟩
    refine for_range (lo := 0) (n := ((m : Nat) : Int).toNat) (fun i σ H' => ∃ (r x : Int) (x5 : Option V) (ds : List Nat), σ = [some (.int c), some (.int (m : Nat)), some (.ref D), some (.int r), some (.int x), x5] ∧ 0 ≤ x ∧ x < 2147483648 ∧ Same H H' ∧ H' D = some (.lst (natsV ds)) ∧ ds.length = i ∧ ∀ x ∈ ds, x < 1009) ⟨0, _, none, [], rfl, Int.emod_nonneg _ (by decide), Int.lt_trans (Int.emod_lt_of_pos _ (by decide)) (by decide), sameNew nD, upd_same, rfl, fun _ z => absurd z List.not_mem_nil⟩ ?_ ?_
    · rintro i σ H1 hi ⟨r, x, x5, ds, rfl, hx1, hx2, s1, hD, hl, hds⟩
      refine ⟨_, rfl, iMul (cmul hx1 (by omega) (by decide) (by decide)) ⟨_, rfl, iMul (cmul (by decide) (by decide) (by omega) (by omega)) (iAdd (iAdd (.inl ⟨_, rfl, iMod (by decide) ?_⟩)))⟩⟩
      have a1 : 0 ≤ (x * 48271 + 30103 * (0 + ((i : Nat) : Int)) + 11) % 2147483647 := Int.emod_nonneg _ (by decide)
      have a2 : (x * 48271 + 30103 * (0 + ((i : Nat) : Int)) + 11) % 2147483647 < 2147483647 := Int.emod_lt_of_pos _ (by decide)
      generalize (x * 48271 + 30103 * (0 + ((i : Nat) : Int)) + 11) % 2147483647 = y at a1 a2 ⊢
      refine ⟨_, rfl, _, rfl, iDiv (cdiv (by decide) (by decide)) (iAdd (iMul (cmul a1 (by omega) (by omega) (by omega)) (.inl ⟨_, rfl, iMod (by decide) ?_⟩)))⟩
      have b1 : 0 ≤ (y * (y / 1009 + 69621)) % 2147483629 := Int.emod_nonneg _ (by decide)
      have b2 : (y * (y / 1009 + 69621)) % 2147483629 < 2147483629 := Int.emod_lt_of_pos _ (by decide)
      generalize (y * (y / 1009 + 69621)) % 2147483629 = z at b1 b2 ⊢
      refine ⟨_, rfl, iGt ⟨_, rfl, ?_⟩⟩
      by_cases hr : 0 < r
      · refine yesD hr ⟨_, rfl, Or.inl ⟨rfl, _, sL hD⟩, _, rfl, .inl ⟨_, rfl, iMod (by decide) ⟨D, _, _, rfl, rfl, hD, by rw [natsV_len, hl]; exact Nat.lt_of_lt_of_le (show i < 1000 by omega) (by decide), ?_⟩⟩⟩
        rw [dg_nat r, natsV_push]
        exact ⟨_, rfl, iDiv (cdiv (by decide) (by decide)) ⟨_, _, _, _, rfl, b1, by omega, samePut s1 nD, upd_same, by rw [List.length_append, hl]; rfl, dg_lt hds⟩⟩
      · refine noD hr ⟨_, rfl, Or.inl ⟨rfl, _, sL hD⟩, _, rfl, iDiv (cdiv (by decide) (by decide)) (.inl ⟨_, rfl, iMod (by decide) ⟨D, _, _, rfl, rfl, hD, by rw [natsV_len, hl]; exact Nat.lt_of_lt_of_le (show i < 1000 by omega) (by decide), ?_⟩⟩)⟩
        rw [dg_nat (z / 7), natsV_push]
        exact ⟨_, _, _, _, rfl, b1, by omega, samePut s1 nD, upd_same, by rw [List.length_append, hl]; rfl, dg_lt hds⟩
    · rintro σ H1 ⟨r, x, x5, ds, rfl, hx1, hx2, s1, hD, hl, hds⟩
      exact ⟨_, rfl, q H1 _ ds s1 ⟨D, rfl, hD⟩ (by omega) hds⟩
theorem p_row (T : Txt g mg) (h : spRow vs H Q E) : t_row g (EndQ Q) (start N_row vs) H := by
  obtain ⟨v, ds, m, rfl, hm, ⟨a, rfl, ha⟩, q⟩ := h
  refine ⟨_, rfl, _, rfl, _, rfl, a, _, rfl, sL ha, fun p np => ?_⟩
  rw [cutV_to, natsV_take]
  refine ⟨p, rfl, ⟨_, sL upd_same⟩, fun D nD => ?_⟩
  have s0 : Same H (upd H p (.lst (natsV (ds.take m)))) := sameNew np
  have hlen : (natsV (ds.take m)).length ≤ m := by rw [natsV_len, List.length_take]; omega
  refine lc_list (K := g.K) (a := p) (xs := natsV (ds.take m)) (fun i H' => Same (upd H p (.lst (natsV (ds.take m)))) H' ∧ ∃ es w, H' D = some (.lst es) ∧ EntsV H' w es ∧ isRow w ∧ w.length = i) ⟨sameNew nD, [], [], upd_same, trivial, fun _ z => absurd z List.not_mem_nil, rfl⟩ (fun i H' _ x => sL (x.1 _ _ upd_same)) ?_ ?_
  · rintro i y H1 hy ⟨s1, es, w, hD, hes, hw, hi⟩
    obtain ⟨n, hn, rfl⟩ := natsV_get hy
    refine ⟨rfl, q_yes (yes rfl ?_)⟩
    refine ⟨_, rfl, .inl ⟨_, rfl, iMod (by decide) ⟨_, rfl, .inl ⟨_, rfl, iMod (by decide) ⟨small2, fun p2 np2 => ⟨_, rfl, iGt (.inr ⟨_, rfl, ?_⟩)⟩⟩⟩⟩⟩⟩
    have fin : ∀ k : Nat, spEntry [.int (k : Nat)] (upd H1 p2 (.lst [.int ((n : Nat) % 2), .int ((n : Nat) % 4)])) (fun y H4 => ∃ acc, H4 D = some (.lst acc) ∧ acc.length < sizeLine ∧ Same (upd H p (.lst (natsV (ds.take m)))) (upd H4 D (.lst (acc ++ [y]))) ∧ ∃ es w, upd H4 D (.lst (acc ++ [y])) D = some (.lst es) ∧ EntsV (upd H4 D (.lst (acc ++ [y]))) w es ∧ isRow w ∧ w.length = i + 1) E := fun k => by
      refine ⟨k, rfl, fun H4 v4 s4 hv4 => ?_⟩
      have s14 := (sameNew (o := .lst [.int ((n : Nat) % 2), .int ((n : Nat) % 4)]) np2).trans s4
      have hD4 := s14 _ _ hD
      have hi2 : i < (natsV (ds.take m)).length := (List.getElem?_eq_some_iff.mp hy).1
      refine ⟨es, hD4, ?_, samePut (s1.trans s14) nD, es ++ [v4], w ++ [ent4 k], upd_same, ?_, hw.push, by rw [List.length_append, hi]; rfl⟩
      · rw [hes.len, hi]
        exact Nat.lt_of_lt_of_le hi2 (Nat.le_trans hlen (Nat.le_trans hm (by decide)))
      · exact ((hes.mono s14).append (show EntsV H4 [ent4 k] [v4] from ⟨hv4, trivial⟩)).keeps (keeps_list hD4)
    have e2 : ((n : Nat) : Int) % 2 = ((n % 2 : Nat) : Int) := by omega
    have e4 : ((n : Nat) : Int) % 4 = ((n % 4 : Nat) : Int) := by omega
    by_cases hc : (700 : Int) < (n : Nat)
    · rw [decide_eq_true hc]
      refine ⟨p2, _, 1, .int ((n : Nat) % 4), rfl, rfl, sL upd_same, rfl, ?_⟩
      have f := fin (n % 4)
      rw [← e4] at f
      exact f
    · rw [decide_eq_false hc]
      refine ⟨p2, _, 0, .int ((n : Nat) % 2), rfl, rfl, sL upd_same, rfl, ?_⟩
      have f := fin (n % 2)
      rw [← e2] at f
      exact f
  · rintro H1 ⟨s1, es, w, hD, hes, hw, hi⟩
    rw [natsV_len, List.length_take] at hi
    exact q H1 _ w (s0.trans s1) ⟨D, es, rfl, hD, hes⟩ hw (by omega) (fun hm => by omega)
end
end RH
set_option exponentiation.threshold 256
set_option Elab.async false
set_option linter.all false
set_option maxRecDepth 100000
set_option maxHeartbeats 4000000
set_option exponentiation.threshold 100
namespace RH
open PySem PySem.Spec PyProof.Rows L2
theorem ent4_ok (i : Nat) : EntOk (ent4 i) := by
  have hn : i % 4 = 0 ∨ i % 4 = 1 ∨ i % 4 = 2 ∨ i % 4 = 3 := by omega
  have na : NameOk "a" := ⟨by decide +kernel, by decide +kernel, by decide +kernel⟩
  have nb : NameOk "b" := ⟨by decide +kernel, by decide +kernel, by decide +kernel⟩
  rcases hn with h | h | h | h
  · rw [ent4_0 h]; exact ⟨.inl rfl, na⟩
  · rw [ent4_1 h]; exact ⟨.inl rfl, nb⟩
  · rw [ent4_2 h]; exact ⟨.inr rfl, na⟩
  · rw [ent4_3 h]; exact ⟨.inl rfl, rfl⟩
theorem isRow.ok {w : List Ent} (h : isRow w) : ∀ e ∈ w, EntOk e := fun e he => by
  obtain ⟨i, rfl⟩ := h e he
  exact ent4_ok i
theorem isRow.s {w : List Ent} (h : isRow w) : ∀ e ∈ w, EntS e := fun e he => by
  obtain ⟨i, rfl⟩ := h e he
  exact ent4_s i
theorem isRow.rp {w : List Ent} (h : isRow w) : ∀ n : Nat, isRow (rp n w)
  | 0 => fun e he => absurd he List.not_mem_nil
  | n + 1 => by rw [rp_succ]; exact h.append (isRow.rp h n)
theorem DR.get0 {H : Hp} {a : Addr} {ds : List Nat} (i : Nat) (hi : i < ds.length) : ∃ n : Nat, atI (natsV ds) ((i : Nat) : Int) = some (.int (n : Nat)) := by
  refine ⟨ds[i], atI_nat ?_⟩
  unfold natsV
  rw [List.getElem?_map, List.getElem?_eq_getElem hi]; rfl
theorem eqvAll_ents : ∀ (a b : List Ent), PyData.eqvAll (a.map entD) (b.map entD) = decide (a = b)
  | [], [] => by simp [PyData.eqvAll]
  | [], b :: bs => by simp [PyData.eqvAll]
  | a :: as, [] => by simp [PyData.eqvAll]
  | a :: as, b :: bs => by
    rw [List.map_cons, List.map_cons, PyData.eqvAll, eqv_ent, eqvAll_ents as bs]
    by_cases h1 : a = b <;> by_cases h2 : as = bs <;> simp [h1, h2]
theorem eqv_ents (a b : List Ent) : PyData.eqv (.list (a.map entD)) (.list (b.map entD)) = decide (a = b) := by
  rw [PyData.eqv]; exact eqvAll_ents a b
theorem dp_ents {K : PySem.W.Frag} {H : Hp} : ∀ {w : List Ent} {es : List V}, EntsV H w es → DpAll K H es (w.map entD)
  | [], [], _ => .nil
  | _ :: _, _ :: _, h => .cons (dp_ent h.1) (dp_ents h.2)
  | [], _ :: _, h => h.elim
  | _ :: _, [], h => h.elim
theorem entD_lay {e : Ent} (h : EntS e) : PyData.canLay0 (entD e) = true := SeqAt.canLay_of_shaped (ent_shaped h)
theorem entD_depth (e : Ent) : PyData.depth (entD e) ≤ 2 := by
  obtain ⟨k, t⟩ := e
  unfold entD tagD
  cases t <;> simp [PyData.depth, PyData.depthAll]
theorem ents_lay : ∀ {w : List Ent}, (∀ e ∈ w, EntS e) → PyData.canLayAll0 (w.map entD) = true
  | [], _ => by simp [PyData.canLayAll0]
  | e :: w, h => by
    rw [List.map_cons, PyData.canLayAll0, entD_lay (h e (List.mem_cons_self ..)), ents_lay (fun x hx => h x (List.mem_cons_of_mem _ hx))]
    rfl
theorem ents_depth : ∀ (w : List Ent), PyData.depthAll (w.map entD) ≤ 2
  | [] => by simp [PyData.depthAll]
  | e :: w => by
    have h1 := entD_depth e
    have h2 := ents_depth w
    rw [List.map_cons, PyData.depthAll]
    omega
theorem ents_shaped {w : List Ent} (h : ∀ e ∈ w, EntS e) : SeqAt.shaped (.list (w.map entD)) = true := by
  have h1 := ents_lay h
  have h2 := ents_depth w
  unfold SeqAt.shaped
  rw [PyData.canLay0, h1, PyData.depth]
  simp
  omega
theorem EntsV.s {H : Hp} : ∀ {w : List Ent} {es : List V}, EntsV H w es → ∀ e ∈ w, EntS e
  | [], [], _ => fun _ z => absurd z List.not_mem_nil
  | _ :: _, _ :: _, h => fun e he => by
    rcases List.mem_cons.mp he with rfl | he
    · exact h.1.1
    · exact EntsV.s h.2 e he
  | [], _ :: _, h => h.elim
  | _ :: _, [], h => h.elim
/-- two lists of entries compared -/
theorem q_eqL {K : PySem.W.Frag} {H : Hp} {v1 v2 : V} {w1 w2 : List Ent} {R : VK} (h1 : LR H v1 w1) (h2 : LR H v2 w2) (q : R (.bl (decide (w1 = w2))) H) : rEqD K v1 v2 H R := by
  obtain ⟨a, es, rfl, ha, he⟩ := h1
  obtain ⟨b, fs, rfl, hb, hf⟩ := h2
  refine ⟨.list (w1.map entD), .list (w2.map entD), .lst (sL ha) (dp_ents he), .lst (sL hb) (dp_ents hf), ents_shaped he.s, ents_shaped hf.s, ?_⟩
  rw [eqv_ents]
  exact q
theorem EntsV.rp {H : Hp} {w : List Ent} {es : List V} (h : EntsV H w es) : ∀ n, EntsV H (rp n w) (rp n es)
  | 0 => trivial
  | n + 1 => by rw [rp_succ, rp_succ]; exact h.append (EntsV.rp h n)
theorem LIM_ge : 1000000000 ≤ LIM := by
  unfold LIM
  exact Nat.le_trans (show 1000000000 ≤ 2 ^ 30 by decide) (Nat.pow_le_pow_right (by decide) (by decide))
theorem lim8 {n : Nat} (h : n < 1000000000) : n < 8 * LIM * LIM := by
  have h1 := LIM_ge
  have h2 : LIM ≤ 8 * LIM * LIM := Nat.le_mul_of_pos_left _ (by omega)
  omega
/-- a list of entries, repeated -/
theorem q_repL {H : Hp} {v : V} {w : List Ent} {t : Nat} {R : VK} (h : LR H v w) (ht : t ≤ 1000) (hw : w.length ≤ 1000) (q : ∀ p H', Same H H' → LR H' (.ref p) (rp t w) → R (.ref p) H') : rRep v (.int (t : Nat)) H R := by
  obtain ⟨a, es, rfl, ha, he⟩ := h
  have l := he.len
  refine ⟨a, _, es, rfl, rfl, ha, by omega, by omega, ?_, fun p np => q p _ (sameNew np) ⟨p, _, rfl, upd_same, ?_⟩⟩
  · rw [Int.toNat_natCast, l]
    exact Nat.le_trans (Nat.mul_le_mul hw ht) (by decide)
  · rw [Int.toNat_natCast]
    exact (he.rp t).mono (sameNew np)
theorem q_catL {H : Hp} {v1 v2 : V} {w1 w2 : List Ent} {R : VK} (h1 : LR H v1 w1) (h2 : LR H v2 w2) (hw1 : w1.length ≤ 10000) (hw2 : w2.length ≤ 10000) (q : ∀ p H', Same H H' → LR H' (.ref p) (w1 ++ w2) → R (.ref p) H') : rCat v1 v2 H R := by
  obtain ⟨a, es, rfl, ha, he⟩ := h1
  obtain ⟨b, fs, rfl, hb, hf⟩ := h2
  refine ⟨a, b, es, fs, rfl, rfl, ha, hb, ?_, fun p np => q p _ (sameNew np) ⟨p, _, rfl, upd_same, (he.append hf).mono (sameNew np)⟩⟩
  rw [he.len, hf.len]
  exact Nat.le_trans (Nat.add_le_add hw1 hw2) (by decide)
theorem iMax0 {x : Int} {H : Hp} {R : VK} (q : R (.int ((x.toNat : Nat) : Int)) H) : rMax2 [.int 0, .int x] H R := by
  unfold rMax2
  refine ⟨_, _, rfl, ?_⟩
  have e : (if x > 0 then x else 0) = ((x.toNat : Nat) : Int) := by split <;> omega
  rw [e]; exact q
theorem SqL.same {K : PySem.W.Frag} {H H' : Hp} {a : Addr} {xs : List V} (s : Same H H') (h : SqL K H a xs) : SqL K H' a xs := by
  rcases h with (h | ⟨o, h⟩) | h
  · exact .inl (.inl (s _ _ h))
  · exact .inl (.inr ⟨o, s _ _ h⟩)
  · exact .inr h
theorem scal_self {w : Prop} [Decidable w] {k : Nat} : scal (if w then V.non else .int (k : Nat)) (if w then V.non else .int (k : Nat)) = true := by
  by_cases h : w
  · rw [if_pos h]; rfl
  · rw [if_neg h]; rfl
theorem agr_all {w1 w2 : List Ent} {k : Nat} (h : Agr w1 w2 (min w1.length w2.length) k) : (k = w1.length ∧ w1.length = w2.length) ↔ w1 = w2 := by
  constructor
  · rintro ⟨e1, e2⟩
    have := h.eq
    rwa [e1, List.take_of_length_le (Nat.le_refl _), e2, List.take_of_length_le (Nat.le_refl _)] at this
  · rintro rfl
    refine ⟨?_, rfl⟩
    rcases Nat.lt_or_ge k (min w1.length w1.length) with hlt | hge
    · exact absurd rfl (h.ne hlt)
    · have := h.le; omega
theorem mod1 (a b : Nat) : ((a : Nat) : Int) % (((b : Nat) : Int) + 1) = ((a % (b + 1) : Nat) : Int) := by
  rw [show ((b : Nat) : Int) + 1 = ((b + 1 : Nat) : Int) by omega]; exact (Int.natCast_emod a (b + 1)).symm
section
variable {g : G} {mg : Str → Option Value} {vs : List V} {H : Hp} {Q : VK} {E : XK}
theorem cut1 (ds : List Nat) (k : Nat) : cutV (natsV ds) (some ((k : Nat) : Int)) none = natsV (ds.drop k) := by rw [cutV_from, natsV_drop]
theorem q_mulW {v : V} {w : List Ent} {d n q' t : Nat} {R : VK} (h : WR g H v w d n q') (hn : n < 6) (ht : t ≤ 1000) (hw : w.length ≤ 1000) (q : ∀ H' v, Same H H' → WR g H' v (rp t w) (d + 1) (n + 1) q' → R v H') : rOwnI g.word (spWordMul g) E0 v (.int (t : Nat)) H R := by
  have h' := h
  obtain ⟨a, dx, fs, pv, z, rfl, ha, _⟩ := h'
  refine ⟨a, dx, fs, _, rfl, rfl, ha, .ref a, w, d, n, q', t, rfl, h, hn, lim8 ?_, q⟩
  exact Nat.lt_of_le_of_lt (Nat.mul_le_mul ht hw) (by decide)
theorem q_addW {v1 v2 : V} {w1 w2 : List Ent} {d n1 q1 n2 q2 : Nat} {R : VK} (h1 : WR g H v1 w1 d n1 q1) (h2 : WR g H v2 w2 d n2 q2) (hq : q1 + q2 ≤ 1000) (q : ∀ H' v, Same H H' → WR g H' v (w1 ++ w2) d (max n1 n2) (q1 + q2) → R v H') : rOwn2 g.word (spWordAdd g) E0 v1 v2 H R := by
  have h1' := h1
  have h2' := h2
  obtain ⟨a, dx, fs, pv, z, rfl, ha, _⟩ := h1'
  obtain ⟨b, dy, gs, pw, zw, rfl, hb, _⟩ := h2'
  exact ⟨a, dx, fs, b, dy, gs, rfl, rfl, ha, hb, .ref a, .ref b, w1, w2, d, n1, q1, n2, q2, rfl, h1, h2, hq, q⟩
theorem kit_bb : PySem.W.kitOne g.K (.type "bool") (.type "bool") = some true := kit_ty (by decide +kernel)
theorem cutE_from {w : List Ent} {es : List V} (h : EntsV H w es) {p : Addr} (k : Nat) (hp : H p = some (.lst (cutV es (some ((k : Nat) : Int)) none))) : LR H (.ref p) (w.drop k) := by
  rw [cutV_from] at hp
  exact ⟨p, _, rfl, hp, h.drop k⟩
theorem cutE_to {w : List Ent} {es : List V} (h : EntsV H w es) {p : Addr} (k : Nat) (hp : H p = some (.lst (cutV es none (some ((k : Nat) : Int))))) : LR H (.ref p) (w.take k) := by
  rw [cutV_to] at hp
  exact ⟨p, _, rfl, hp, h.take k⟩
end
end RH
set_option exponentiation.threshold 256
set_option Elab.async false
set_option linter.all false
set_option maxRecDepth 100000
set_option maxHeartbeats 4000000
set_option exponentiation.threshold 100
namespace RH
open PySem PySem.Spec PyProof.Rows L2
section
variable {g : G} {mg : Str → Option Value} {vs : List V} {H : Hp} {Q : VK} {E : XK}
theorem p_alike (T : Txt g mg) (h : spAlike vs H Q E) : t_alike g (EndQ Q) (start N_alike vs) H := by
  obtain ⟨v1, v2, w1, w2, rfl, ⟨a, es, rfl, ha, he⟩, ⟨b, fs, rfl, hb, hf⟩, q⟩ := h
  have l1 := he.len
  have l2 := hf.len
  refine ⟨fun m σ H' => ∃ k : Nat, m = min w1.length w2.length - k ∧ σ = [some (.ref a), some (.ref b), some (.int (k : Nat))] ∧ H' = H ∧ k ≤ min w1.length w2.length ∧ w1.take k = w2.take k, ⟨_, 0, rfl, rfl, rfl, Nat.zero_le _, by rw [List.take_zero, List.take_zero]⟩, ?_⟩
  rintro m σ H1 ⟨k, rfl, rfl, rfl, hk, hkk⟩
  refine ⟨_, rfl, _, rfl, a, _, rfl, .inl (sL ha), _, rfl, b, _, rfl, .inl (sL hb), nMin2 (nLt ⟨_, rfl, ?_⟩)⟩
  rw [l1, l2]
  by_cases hlt : k < min w1.length w2.length
  · refine yesD hlt ?_
    obtain ⟨x, hx, ex⟩ := he.get' (List.getElem?_eq_getElem (show k < w1.length by omega))
    obtain ⟨y, hy, ey⟩ := hf.get' (List.getElem?_eq_getElem (show k < w2.length by omega))
    refine ⟨_, rfl, _, rfl, a, _, _, x, rfl, rfl, sL ha, atI_nat hx, _, rfl, _, rfl, b, _, _, y, rfl, rfl, sL hb, atI_nat hy, entD (w1[k]), entD (w2[k]), dp_ent ex, dp_ent ey, ent_shaped ex.1, ent_shaped ey.1, ⟨_, rfl, ?_⟩⟩
    rw [eqv_ent]
    by_cases hxy : w1[k] = w2[k]
    · refine yesD hxy ⟨fun σ' H' => σ' = [some (.ref a), some (.ref b), some (.int ((k + 1 : Nat) : Int))] ∧ H' = H1, ?_, ⟨_, rfl, nAdd (b := 1) ⟨rfl, rfl⟩⟩⟩
      rintro σ' H' ⟨rfl, rfl⟩
      refine ⟨_, ?_, k + 1, rfl, rfl, rfl, by omega, ?_⟩
      · omega
      · rw [List.take_succ, List.take_succ, hkk, List.getElem?_eq_getElem (show k < w1.length by omega), List.getElem?_eq_getElem (show k < w2.length by omega), hxy]
    · refine noD hxy ⟨_, rfl, q k ⟨hk, hkk, fun _ z => hxy ?_⟩⟩
      rw [List.getElem?_eq_getElem (show k < w1.length by omega), List.getElem?_eq_getElem (show k < w2.length by omega)] at z
      exact Option.some.inj z
  · exact noD hlt (iteF ⟨_, rfl, q k ⟨hk, hkk, fun z => absurd z hlt⟩⟩)
end
end RH
set_option exponentiation.threshold 256
set_option Elab.async false
set_option linter.all false
set_option maxRecDepth 100000
set_option maxHeartbeats 4000000
set_option exponentiation.threshold 100
namespace RH
open PySem PySem.Spec PyProof.Rows L2
def FnF (K : PySem.W.Frag) (mg : Str → Option Value) (x qual : Str) (st : Stmt) (ps : List Str) : Prop := ∃ (f : Addr) (fd : FuncData), L2.Fun K x qual st f fd ∧ mg x = some (.ref f) ∧ PySem.W.keepIn K (.ref f) = true ∧ Binds K fd ps []
def MtF (K : PySem.W.Frag) (C : Addr) (x m qual : Str) (st : Stmt) (ps : List Str) : Prop := ∃ (f : Addr) (fd : FuncData), Cls K C ∧ Meth K C m f ∧ PySem.W.selfFirst K C = true ∧ L2.Fun K x qual st f fd ∧ Binds K fd ps []
def MkF (K : PySem.W.Frag) (mg : Str → Option Value) (x : Str) (C : Addr) (qual : Str) (st : Stmt) (ps : List Str) : Prop := ∃ (f : Addr) (fd : FuncData), Mk K C f ∧ L2.Fun K "__init__" qual st f fd ∧ mg x = some (.ref C) ∧ Binds K fd ps []
def MkD (K : PySem.W.Frag) (mg : Str → Option Value) (x : Str) (C : Addr) (qual : Str) (st : Stmt) (ps : List Str) (dvs : List V) : Prop :=
  ∃ (f : Addr) (fd : FuncData), Mk K C f ∧ FunD K "__init__" qual (defArgs st) (defBody st) (defScope st) dvs [] f fd ∧ mg x = some (.ref C) ∧ (∃ ds, Vals [] ds ∧ Binds K fd ps ds) ∧ ∃ ds, Vals dvs ds ∧ Binds K fd ps ds
section
variable {P : Program} {w : World} {K : PySem.W.Frag} {mg : Str → Option Value} {base : Heap} {x m qual : Str} {st : Stmt} {C : Addr} {N ps : List Str} {k : Nat} {sp : Sp} {dvs : List V}
theorem fnf_of (F : FnF K mg x qual st ps) (S : FnScope N ps (defScope st)) (len : ∀ vs H Q E, sp vs H Q E → vs.length = ps.length)
    (hbody : ∀ {f : Addr} (cdv : Value) (A : Around) (outer : List Env) (s : Shared) (H : Hp) (vs : List V) (Q : VK) (E : XK), Room k (A.deeper (envOfC qual (defScope st) s.heap.objs.size f cdv)) → sp vs H Q E →
      ∃ t, PSs (cxOf CX0 P w K mg base N qual (defScope st) f cdv A outer s H E).nox (defBody st) t ∧ t { nx := fun _ H' => Q .non H', rt := Q } (start N vs) H) : Cl P w K mg base (k + 1) x sp [] := by
  obtain ⟨f, fd, F, hm, kp, b⟩ := F
  exact ⟨f, fd, ps, [], F.ok S len hbody, hm, kp, b, .nil⟩
theorem mtf_of (F : MtF K C x m qual st ps) (S : FnScope N ps (defScope st)) (len : ∀ vs H Q E, sp vs H Q E → vs.length = ps.length)
    (hbody : ∀ {f : Addr} (cdv : Value) (A : Around) (outer : List Env) (s : Shared) (H : Hp) (vs : List V) (Q : VK) (E : XK), Room k (A.deeper (envOfC qual (defScope st) s.heap.objs.size f cdv)) → sp vs H Q E →
      ∃ t, PSs (cxOf CX0 P w K mg base N qual (defScope st) f cdv A outer s H E).nox (defBody st) t ∧ t { nx := fun _ H' => Q .non H', rt := Q } (start N vs) H) : Mtl P w K mg base (k + 1) C m sp := by
  obtain ⟨f, fd, c, M, sf, F, b⟩ := F
  exact ⟨f, fd, ps, c, M, sf, F.ok S len hbody, b⟩
theorem gtf_of (F : MtF K C x "__getitem__" qual st ps) (S : FnScope N ps (defScope st)) (len : ∀ vs H Q E, sp vs H Q E → vs.length = ps.length)
    (hbody : ∀ {f : Addr} (cdv : Value) (A : Around) (outer : List Env) (s : Shared) (H : Hp) (vs : List V) (Q : VK) (E : XK), Room k (A.deeper (envOfC qual (defScope st) s.heap.objs.size f cdv)) → sp vs H Q E →
      ∃ t, PSs (cxOf CX0 P w K mg base N qual (defScope st) f cdv A outer s H E).nox (defBody st) t ∧ t { nx := fun _ H' => Q .non H', rt := Q } (start N vs) H) : Gtl P w K mg base (k + 1) C sp := by
  obtain ⟨f, fd, c, M, sf, F, b⟩ := F
  refine ⟨f, fd, ps, M, ?_, F.ok S len hbody, b⟩
  obtain ⟨oc, od, kV, doc, pm, an, cdv, ct, osl, rfl, lk, hcd⟩ := F.ex
  unfold PySem.W.fnIn
  rw [lk]
theorem mkf_of (F : MkF K mg x C qual st ps) (S : FnScope N ps (defScope st)) (len : ∀ vs H Q E, sp vs H Q E → vs.length = ps.length)
    (hbody : ∀ {f : Addr} (cdv : Value) (A : Around) (outer : List Env) (s : Shared) (H : Hp) (vs : List V) (Q : VK) (E : XK), Room k (A.deeper (envOfC qual (defScope st) s.heap.objs.size f cdv)) → sp vs H Q E →
      ∃ t, PSs (cxOf CX0 P w K mg base N qual (defScope st) f cdv A outer s H E).nox (defBody st) t ∧ t { nx := fun _ H' => Q .non H', rt := Q } (start N vs) H) : Mkl P w K mg base (k + 1) x C sp [] := by
  obtain ⟨f, fd, M, F, hm, b⟩ := F
  exact ⟨f, fd, ps, [], M, F.ok S len hbody, hm, b, .nil⟩
theorem mkd_of (F : MkD K mg x C qual st ps dvs) (S : FnScope N ps (defScope st)) (len : ∀ vs H Q E, sp vs H Q E → vs.length = ps.length)
    (hbody : ∀ {f : Addr} (cdv : Value) (A : Around) (outer : List Env) (s : Shared) (H : Hp) (vs : List V) (Q : VK) (E : XK), Room k (A.deeper (envOfC qual (defScope st) s.heap.objs.size f cdv)) → sp vs H Q E →
      ∃ t, PSs (cxOf CX0 P w K mg base N qual (defScope st) f cdv A outer s H E).nox (defBody st) t ∧ t { nx := fun _ H' => Q .non H', rt := Q } (start N vs) H) : Mkl P w K mg base (k + 1) x C sp [] ∧ Mkl P w K mg base (k + 1) x C sp dvs := by
  obtain ⟨f, fd, M, F, hm, ⟨d0, v0, b0⟩, d1, v1, b1⟩ := F
  have ok : FnOk P w K mg base CX0 (k + 1) f fd ps sp := F.ok S len fun cdv A outer s H vs Q E hr h => by
    obtain ⟨t, h1, h2⟩ := hbody cdv A outer s H vs Q E hr h
    exact ⟨t, h1.nox, h2⟩
  exact ⟨⟨f, fd, ps, d0, M, ok, hm, b0, v0⟩, ⟨f, fd, ps, d1, M, ok, hm, b1, v1⟩⟩
end
theorem no_alike_for {g : G} {vs : List V} {H : Hp} {Q : VK} {E : XK} (h : spAlikeFor g 0 vs H Q E) : False := by
  obtain ⟨v1, v2, w1, w2, d1, d2, z1, z2, _, _, _, _, _, _, _, h, _⟩ := h
  omega
theorem rkm_pos {u : UD} {m : Nat} (hs : u.s ≠ none) (ht : 2 ≤ u.t) : 1 ≤ rkm u m := by
  unfold rkm
  cases e : u.s with
  | none => exact absurd e hs
  | some p =>
    obtain ⟨d, z⟩ := p
    show 1 ≤ (if u.t = 0 then 0 else if u.t = 1 then 2 * d else if m ≤ u.w.length then 2 * d + 1 else 2 * d + 2)
    rw [if_neg (by omega), if_neg (by omega)]
    split <;> omega
theorem no_alike_ahead {g : G} {vs : List V} {H : Hp} {Q : VK} {E : XK} (h : spAlikeAhead g 0 vs H Q E) : False := by
  obtain ⟨v1, v2, u1, us1, u2, us2, m, m0, a, b, _, _, _, hm, hm0, _, _, _, _, r1, r2, hab, c1, c2, c3, c4, _⟩ := h
  have k1 := r1.head (by omega)
  have k2 := r2.head (by omega)
  have n1 : ¬ Wd u1 us1 m := fun z => by have := rkm_pos (m := m0) z.part z.t; omega
  have n2 : ¬ Wd u2 us2 m := fun z => by have := rkm_pos (m := m0) z.part z.t; omega
  by_cases e1 : u1.s = none
  · exact n2 (c3 e1)
  · by_cases e2 : u2.s = none
    · exact n1 (c4 e2)
    · rcases Nat.lt_or_ge u1.w.length u2.w.length with h | h
      · exact n2 (c2 e1 e2 h)
      · exact n1 (c1 e1 e2 h)
def spLawK (K : PySem.W.Frag) : Sp := fun vs H Q _ => ∃ (a : Addr) (ns : List Int), vs = [.ref a] ∧ SqL K H a (ns.map V.int) ∧ ns.length ≤ 63 ∧ ∀ H', Q (.bl true) H'
end RH
set_option exponentiation.threshold 256
set_option Elab.async false
set_option linter.all false
set_option maxRecDepth 100000
set_option maxHeartbeats 4000000
set_option exponentiation.threshold 100
namespace RH
open PySem PySem.Spec PyProof.Rows L2
section
variable {g : G} {mg : Str → Option Value} {vs : List V} {H : Hp} {Q : VK} {E : XK}
theorem ty_word (T : Txt g mg) {a dx : Addr} {fs : List (Str × V)} (h : H a = some (.ins g.word dx fs)) : TyX g.K H (.ref a) (.ref g.word) := .base (.ins h T.word T.word_cl T.cls_get T.cls_tk T.word_ob)
theorem p_Word_eq (T : Txt g mg) {n : Nat} (h : spWordEq g n vs H Q E) : t_Word_eq g n (EndQ Q) (start N_Word_eq vs) H := by
  obtain ⟨v1, v2, w1, w2, d1, n1, q1, d2, n2, q2, rfl, h1, h2, hl1, hl2, hn, q⟩ := h
  obtain ⟨a1, dx1, fs1, p1, z1, rfl, ha1, hf1, hp1⟩ := h1
  obtain ⟨a2, dx2, fs2, p2, z2, rfl, ha2, hf2, hp2⟩ := h2
  have l1 := wf_part hf1
  have l2 := wf_part hf2
  refine ⟨_, rfl, .ref a2, .ref g.word, _, _, true, rfl, .own g.word, ty_word T ha2, T.word_word, true, rfl, iteF ?_⟩
  refine q_wide T hp1 (fun R r => ⟨_, rfl, a1, _, dx1, fs1, p1, rfl, ha1, T.word, T.w_part, l1.1, r⟩) ?_
  refine q_wide T hp2 (fun R r => ⟨_, rfl, a2, _, dx2, fs2, p2, rfl, ha2, T.word, T.w_part, l2.1, r⟩) (nNe ⟨_, rfl, ?_⟩)
  by_cases hlen : w1.length = w2.length
  · refine no (by rw [decide_eq_true hlen]; rfl) ?_
    refine ⟨_, rfl, a1, _, dx1, fs1, _, rfl, ha1, T.word, T.w_part, l1.1, small3, fun pa npa => ?_⟩
    have sa : Same H (upd H pa (.tup [p1, .int 1, .non])) := sameNew npa
    refine ⟨_, rfl, a2, _, dx2, fs2, _, rfl, sa _ _ ha2, T.word, T.w_part, l2.1, small3, fun pb npb => ?_⟩
    have sb := sameNew (o := .tup [p2, .int 1, .non]) npb
    have sab := sa.trans sb
    refine q_wide T (hp1.mono sab) (fun R r => ⟨_, rfl, a1, _, dx1, fs1, p1, rfl, sab _ _ ha1, T.word, T.w_part, l1.1, r⟩) ?_
    refine ⟨.ref pa, .ref pb, [⟨w1, 1, some (d1, z1)⟩], [⟨w2, 1, some (d2, z2)⟩], w1.length, 2 * d1, 2 * d2, rfl, fun hm => ?_, fun H5 k s5 hk => ?_⟩
    · exact ⟨(ur_one upd_same (len_ne hm) (hp1.mono sa)).mono sb, ur_one upd_same (len_ne (by omega)) (hp2.mono sab), by rw [den_one]; exact Nat.le_refl _, by rw [den_one]; omega, sm_one hl1, sm_one hl2, Rk.of_udp udp_one, Rk.of_udp udp_one, by omega⟩
    · have s := sab.trans s5
      refine q_wide T (hp1.mono s) (fun R r => ⟨_, rfl, a1, _, dx1, fs1, p1, rfl, s _ _ ha1, T.word, T.w_part, l1.1, r⟩) (nEq ?_)
      rw [den_one, den_one] at hk
      have hk2 : Agr w1 w2 (min w1.length w2.length) k := by rw [show min w1.length w2.length = w1.length by omega]; exact hk
      have e : decide (k = w1.length) = decide (w1 = w2) := by
        by_cases hh : w1 = w2
        · rw [decide_eq_true hh, decide_eq_true ((agr_all hk2).mpr hh).1]
        · rw [decide_eq_false hh, decide_eq_false (fun z => hh ((agr_all hk2).mp ⟨z, hlen⟩))]
      rw [e]
      exact q H5 s
  · refine yes (by rw [decide_eq_false hlen]; rfl) ?_
    have := q H (Same.refl H)
    rwa [decide_eq_false (fun z => hlen (by rw [z]))] at this
end
end RH
set_option exponentiation.threshold 256
set_option Elab.async false
set_option linter.all false
set_option maxRecDepth 100000
set_option maxHeartbeats 4000000
namespace RH
section
variable {α : Type}
def Per (x : List α) (p : Nat) : Prop := x.drop p = x.take (x.length - p)
theorem per_iff {x : List α} {p : Nat} : Per x p ↔ ∀ i, i + p < x.length → x[i + p]? = x[i]? := by
  unfold Per
  constructor
  · intro h i hi
    have h2 := congrArg (fun l => l[i]?) h
    simp only [List.getElem?_drop] at h2
    rw [List.getElem?_take_of_lt (by omega)] at h2
    rw [Nat.add_comm i p]; exact h2
  · intro h
    refine List.ext_getElem? fun i => ?_
    rw [List.getElem?_drop]
    by_cases hi : i + p < x.length
    · rw [List.getElem?_take_of_lt (by omega), Nat.add_comm p i]; exact h i hi
    · rw [List.getElem?_eq_none (by omega), List.getElem?_eq_none (by rw [List.length_take]; omega)]
/-- x goes round in w -/
def Cyc (w x : List α) : Prop := ∀ i, i < x.length → x[i]? = w[i % w.length]?
theorem cyc_rp {w : List α} (hw : w ≠ []) (t c : Nat) (hc : c ≤ w.length) : Cyc w (rp t w ++ w.take c) := by
  have e : rp t w ++ w.take c = (rp (t + 1) w).take (t * w.length + c) := by
    rw [rp_add, rp_one, List.take_append, rp_len, List.take_of_length_le (l := rp t w) (by rw [rp_len]; omega), show t * w.length + c - t * w.length = c by omega]
  intro i hi
  rw [List.length_append, rp_len, List.length_take] at hi
  rw [e, List.getElem?_take_of_lt (by omega)]
  exact rp_get hw (t + 1) i (by rw [Nat.add_mul, Nat.one_mul]; omega)
theorem cyc_len {w : List α} (t c : Nat) (hc : c ≤ w.length) : (rp t w ++ w.take c).length = t * w.length + c := by
  rw [List.length_append, rp_len, List.length_take]; omega
theorem Cyc.mult {w x : List α} (h : Cyc w x) (j : Nat) : Per x (w.length * j) := by
  refine per_iff.mpr fun i hi => ?_
  rw [h _ hi, h i (by omega), Nat.add_mul_mod_self_left]
theorem Cyc.per {w x : List α} (h : Cyc w x) (hw : w ≠ []) {p : Nat} (hx : p + w.length ≤ x.length) : Per x p ↔ ∀ r, r < w.length → w[(r + p) % w.length]? = w[r]? := by
  rw [per_iff]
  constructor
  · intro k r hr
    have h2 := k r (by omega)
    rwa [h _ (by omega), h _ (by omega), Nat.mod_eq_of_lt hr] at h2
  · intro k i hi
    have hm : 0 < w.length := List.length_pos_iff.mpr hw
    rw [h _ hi, h i (by omega), ← k (i % w.length) (Nat.mod_lt _ hm), Nat.mod_add_mod]
theorem Cyc.alike {w x y : List α} (h : Cyc w x) (h' : Cyc w y) (hw : w ≠ []) {p : Nat} (hx : p + w.length ≤ x.length) (hy : p + w.length ≤ y.length) : Per x p ↔ Per y p := (h.per hw hx).trans (h'.per hw hy).symm
theorem per_far {x : List α} {p : Nat} (h : x.length ≤ p) : Per x p := per_iff.mpr fun i hi => by omega
/-- one entry is bent -/
def bent (x : List α) (a : Nat) (z : α) : List α := x.take a ++ [z] ++ x.drop (a + 1)
theorem bent_len {x : List α} {a : Nat} {z : α} (ha : a < x.length) : (bent x a z).length = x.length := by
  unfold bent
  rw [List.length_append, List.length_append, List.length_take, List.length_drop]
  show min a x.length + 1 + (x.length - (a + 1)) = x.length
  omega
theorem bent_at {x : List α} {a : Nat} {z : α} (ha : a < x.length) : (bent x a z)[a]? = some z := by
  unfold bent
  rw [List.append_assoc, List.getElem?_append_right (by rw [List.length_take]; omega), List.length_take, show a - min a x.length = 0 by omega]
  rfl
theorem bent_ne {x : List α} {a i : Nat} {z : α} (ha : a < x.length) (hi : i ≠ a) : (bent x a z)[i]? = x[i]? := by
  unfold bent
  rcases Nat.lt_or_ge i a with h | h
  · rw [List.append_assoc, List.getElem?_append_left (by rw [List.length_take]; omega), List.getElem?_take_of_lt h]
  · rw [List.getElem?_append_right (by rw [List.length_append, List.length_take]; show min a x.length + 1 ≤ i; omega), List.getElem?_drop]
    congr 1
    rw [List.length_append, List.length_take]
    show a + 1 + (i - (min a x.length + 1)) = i
    omega
theorem bent_per {x : List α} {a p : Nat} {z : α} (ha : a < x.length) (hz : z ∉ x) (hp : 1 ≤ p) (hx : Per x p) : Per (bent x a z) p ↔ a < p ∧ x.length ≤ a + p := by
  have nz : ∀ i, x[i]? ≠ some z := fun i h => hz (List.mem_of_getElem? h)
  rw [per_iff, bent_len ha]
  rw [per_iff] at hx
  constructor
  · intro h
    refine ⟨?_, ?_⟩
    · rcases Nat.lt_or_ge a p with h1 | h1
      · exact h1
      · have h2 := h (a - p) (by omega)
        rw [show a - p + p = a by omega, bent_at ha, bent_ne ha (by omega)] at h2
        exact absurd h2.symm (nz _)
    · rcases Nat.lt_or_ge (a + p) x.length with h1 | h1
      · have h2 := h a h1
        rw [bent_at ha, bent_ne ha (by omega)] at h2
        exact absurd h2 (nz _)
      · exact h1
  · rintro ⟨h1, h2⟩ i hi
    rw [bent_ne ha (by omega), bent_ne ha (by omega)]
    exact hx i hi
theorem bent_last {x : List α} {a : Nat} {z : α} (ha : a < x.length) (hz : z ∉ x) (hl : 2 ≤ x.length) : Per (bent x a z) (x.length - 1) ↔ (a ≠ 0 ∧ a ≠ x.length - 1) ∧ x[0]? = x[x.length - 1]? := by
  have nz : ∀ i, x[i]? ≠ some z := fun i h => hz (List.mem_of_getElem? h)
  rw [per_iff, bent_len ha]
  constructor
  · intro h
    have h2 := h 0 (by omega)
    rw [Nat.zero_add] at h2
    by_cases h0 : a = 0
    · rw [bent_ne ha (by omega), ← h0, bent_at ha] at h2
      exact absurd h2 (nz _)
    · by_cases h1 : a = x.length - 1
      · rw [← h1, bent_at ha, bent_ne ha (by omega)] at h2
        exact absurd h2.symm (nz _)
      · rw [bent_ne ha (by omega), bent_ne ha (by omega)] at h2
        exact ⟨⟨h0, h1⟩, h2.symm⟩
  · rintro ⟨⟨h0, h1⟩, h2⟩ i hi
    have : i = 0 := by omega
    subst this
    rw [Nat.zero_add, bent_ne ha (by omega), bent_ne ha (by omega)]
    exact h2.symm
end
end RH
set_option exponentiation.threshold 256
set_option Elab.async false
set_option linter.all false
set_option maxRecDepth 100000
set_option maxHeartbeats 4000000
namespace RH
section
variable {α : Type}
theorem agr_far {u v : List α} (hu : u ≠ []) (hv : v ≠ []) {s t k : Nat} (h : Agr ((rp (u.length + v.length) u).take (u.length + v.length)) ((rp (u.length + v.length) v).take (u.length + v.length)) (u.length + v.length) k) :
    Agr (rp s u) (rp t v) (min (s * u.length) (t * v.length)) (if k = u.length + v.length then min (s * u.length) (t * v.length) else min k (min (s * u.length) (t * v.length))) := by
  have pu : 0 < u.length := List.length_pos_iff.mpr hu
  have pv : 0 < v.length := List.length_pos_iff.mpr hv
  generalize hb : u.length + v.length = b at h ⊢
  by_cases e : k = b
  · rw [if_pos e]
    refine ⟨Nat.le_refl _, ?_, fun z => absurd z (Nat.lt_irrefl _)⟩
    have h2 := h.eq
    rw [e, List.take_take, List.take_take, Nat.min_self] at h2
    exact rp_agree hu hv (M := b) (by omega) (by rw [hb]; exact h2) (by omega) (by omega)
  · rw [if_neg e]
    have hk := h.le
    have hb1 : b * 1 ≤ b * u.length := Nat.mul_le_mul_left b pu
    have hb2 : b * 1 ≤ b * v.length := Nat.mul_le_mul_left b pv
    have g1 : ∀ i, i < b → ((rp b u).take b)[i]? = u[i % u.length]? := fun i hi => by rw [List.getElem?_take_of_lt hi, rp_get hu b i (by omega)]
    have g2 : ∀ i, i < b → ((rp b v).take b)[i]? = v[i % v.length]? := fun i hi => by rw [List.getElem?_take_of_lt hi, rp_get hv b i (by omega)]
    refine ⟨by omega, take_eq_of_get fun i hi => ?_, fun hlt => ?_⟩
    · have h3 := get_of_take_eq h.eq (show i < k by omega)
      rw [g1 i (by omega), g2 i (by omega)] at h3
      rw [rp_get hu s i (by omega), rp_get hv t i (by omega)]
      exact h3
    · have ek : min k (min (s * u.length) (t * v.length)) = k := by omega
      rw [ek] at hlt ⊢
      have h3 := h.ne (by omega)
      rw [g1 k (by omega), g2 k (by omega)] at h3
      rw [rp_get hu s k (by omega), rp_get hv t k (by omega)]
      exact h3
theorem agr_ahead {a x y : List α} {k : Nat} (h : Agr x y (min x.length y.length) k) : Agr (a ++ x) (a ++ y) (min (a ++ x).length (a ++ y).length) (a.length + k) := by
  have e : min (a ++ x).length (a ++ y).length = a.length + min x.length y.length := by rw [List.length_append, List.length_append]; omega
  rw [e]
  refine Agr.behind ?_ ?_
  · rw [List.take_left, List.take_left]
  · rw [List.drop_left, List.drop_left]; exact h
theorem take_app {A B : List α} (r : Nat) : (A ++ B).take (A.length + r) = A ++ B.take r := by
  rw [List.take_append, List.take_of_length_le (Nat.le_add_right _ _), show A.length + r - A.length = r by omega]
theorem drop_app {A B : List α} (r : Nat) : (A ++ B).drop (A.length + r) = B.drop r := by
  rw [List.drop_append, List.drop_eq_nil_of_le (Nat.le_add_right _ _), show A.length + r - A.length = r by omega, List.nil_append]
theorem bent_app {A U C : List α} {r : Nat} {z : α} (hr : r < U.length) : A ++ bent U r z ++ C = bent (A ++ U ++ C) (A.length + r) z := by
  unfold bent
  rw [List.append_assoc A U C, take_app, show A.length + r + 1 = A.length + (r + 1) by omega, drop_app, List.take_append_of_le_length (by omega), List.drop_append_of_le_length (by omega)]
  simp only [List.append_assoc]
theorem rp_split {U : List α} {S T : Nat} (h : S < T) : rp T U = rp S U ++ U ++ rp (T - S - 1) U := by
  have e : T = S + 1 + (T - S - 1) := by omega
  rw [e, rp_add, rp_add, rp_one, show S + 1 + (T - S - 1) - S - 1 = T - S - 1 by omega]
theorem bent_rep {U : List α} {S T r : Nat} {z : α} (h : S < T) (hr : r < U.length) : rp S U ++ bent U r z ++ rp (T - S - 1) U = bent (rp T U) (S * U.length + r) z := by
  rw [bent_app hr, ← rp_split h, rp_len]
theorem agr_bent {x : List α} {a : Nat} {z : α} (ha : a < x.length) (hz : z ∉ x) : Agr x (bent x a z) (min x.length (bent x a z).length) a := by
  rw [bent_len ha, Nat.min_self]
  refine ⟨Nat.le_of_lt ha, take_eq_of_get fun i hi => ?_, fun _ e => ?_⟩
  · rw [bent_ne ha (by omega)]
  · rw [bent_at ha] at e
    exact hz (List.mem_of_getElem? e)
theorem bent_drop {x : List α} {a : Nat} {z : α} (ha : a < x.length) : (bent x a z).drop (a + 1) = x.drop (a + 1) := by
  refine List.ext_getElem? fun i => ?_
  rw [List.getElem?_drop, List.getElem?_drop, bent_ne ha (by omega)]
theorem agr_refl (x : List α) (m : Nat) : Agr x x m m := ⟨Nat.le_refl _, rfl, fun z => absurd z (Nat.lt_irrefl _)⟩
theorem mem_rp {U : List α} {z : α} : ∀ {n : Nat}, z ∈ rp n U → z ∈ U
  | 0, h => absurd h List.not_mem_nil
  | n + 1, h => by
    rw [rp_succ] at h
    rcases List.mem_append.mp h with h | h
    · exact h
    · exact mem_rp h
theorem rp_last {U : List α} {T : Nat} (h : 1 ≤ T) : rp (T - 1) U ++ U = rp T U := by
  have e : T = T - 1 + 1 := by omega
  rw [e, rp_add, rp_one, show T - 1 + 1 - 1 = T - 1 by omega]
end
end RH
set_option exponentiation.threshold 256
set_option Elab.async false
set_option linter.all false
set_option maxRecDepth 100000
set_option maxHeartbeats 4000000
namespace RH
open PySem PySem.Spec PyProof.Rows L2
theorem LIM_big : 10000000000000000000000000000000000000000 ≤ LIM := by
  unfold LIM
  exact Nat.le_trans (show 10000000000000000000000000000000000000000 ≤ 2 ^ 200 by decide) (Nat.pow_le_pow_right (by decide) (by decide))
theorem take_min {w : List Ent} (c : Nat) : w.take c = w.take (min c w.length) := by
  rcases Nat.le_total c w.length with h | h
  · rw [Nat.min_eq_left h]
  · rw [Nat.min_eq_right h, List.take_of_length_le h, List.take_of_length_le (Nat.le_refl _)]
theorem bool_iff {b : Bool} {p : Prop} [Decidable p] (h : b = true ↔ p) : b = decide p := by
  cases b with
  | true => rw [decide_eq_true (h.mp rfl)]
  | false => rw [decide_eq_false (fun z => Bool.noConfusion (h.mpr z))]
theorem dgt {ds : List Nat} (h : ∀ x ∈ ds, x < 1009) (i : Nat) (hi : i < ds.length) : ∃ n : Nat, n < 1009 ∧ atI (natsV ds) ((i : Nat) : Int) = some (.int (n : Nat)) := by
  refine ⟨ds[i], h _ (List.getElem_mem hi), atI_nat ?_⟩
  unfold natsV
  rw [List.getElem?_map, List.getElem?_eq_getElem hi]; rfl
theorem LIM_big2 : 10000000000000000000000000000000000000000000000000000000000000000000000 ≤ LIM := by
  unfold LIM
  exact Nat.le_trans (show 10000000000000000000000000000000000000000000000000000000000000000000000 ≤ 2 ^ 250 by decide) (Nat.pow_le_pow_right (by decide) (by decide))
theorem isRow.take {w : List Ent} (h : isRow w) (n : Nat) : isRow (w.take n) := fun e he => h e (List.mem_of_mem_take he)
section
variable {g : G} {mg : Str → Option Value} {vs : List V} {H : Hp} {Q : VK} {E : XK}
theorem q_mulF {v : V} {w : List Ent} {d n q' t : Nat} {R : VK} (h : WR g H v w d n q') (hn : n < 6) (ht : t * w.length < LIM) (q : ∀ H' v, Same H H' → WR g H' v (rp t w) (d + 1) (n + 1) q' → R v H') : rOwnI g.word (spWordMul g) E0 v (.int (t : Nat)) H R := by
  have h' := h
  obtain ⟨a, dx, fs, pv, z, rfl, ha, _⟩ := h'
  have h1 := LIM_ge
  have h2 : LIM ≤ 8 * LIM * LIM := Nat.le_mul_of_pos_left _ (by omega)
  exact ⟨a, dx, fs, _, rfl, rfl, ha, .ref a, w, d, n, q', t, rfl, h, hn, by omega, q⟩
theorem WR.ref {v : V} {w : List Ent} {d n q : Nat} (h : WR g H v w d n q) : ∃ a dx fs, v = .ref a ∧ H a = some (.ins g.word dx fs) ∧ fs.lookup ("length" : Str) = none ∧ fs.lookup ("cut" : Str) = none := by
  obtain ⟨a, dx, fs, pv, z, rfl, ha, hf, _⟩ := h
  exact ⟨a, dx, fs, rfl, ha, by rcases hf with rfl | rfl <;> rfl, by rcases hf with rfl | rfl <;> rfl⟩
end
end RH
set_option exponentiation.threshold 256
set_option Elab.async false
set_option linter.all false
set_option maxRecDepth 100000
set_option maxHeartbeats 4000000
namespace RH
open PySem PySem.Spec PyProof.Rows L2
theorem fac3b (k : Nat) : ∃ c : Nat, c ≤ 100000000000000000000000000000 ∧ atI [V.int 1, V.int (10 ^ (9 : Int).toNat), V.int (10 ^ (29 : Int).toNat)] ((k % 3 : Nat) : Int) = some (.int (c : Nat)) := by
  have h : k % 3 = 0 ∨ k % 3 = 1 ∨ k % 3 = 2 := by omega
  rcases h with h | h | h <;> rw [h]
  · exact ⟨1, by decide, rfl⟩
  · exact ⟨1000000000, by decide, by show some (V.int (10 ^ (9 : Int).toNat)) = _; rw [show (10 : Int) ^ (9 : Int).toNat = ((1000000000 : Nat) : Int) by decide]⟩
  · exact ⟨100000000000000000000000000000, by decide, by show some (V.int (10 ^ (29 : Int).toNat)) = _; rw [show (10 : Int) ^ (29 : Int).toNat = ((100000000000000000000000000000 : Nat) : Int) by decide]⟩
theorem min2 {a b : Nat} {m : Int} (hm : m ∈ [((a : Nat) : Int), ((b : Nat) : Int)]) (h : ∀ y, y ∈ [((a : Nat) : Int), ((b : Nat) : Int)] → m ≤ y) : m = ((min a b : Nat) : Int) := by
  have a1 := h _ (List.mem_cons_self ..)
  have a2 := h _ (List.mem_cons_of_mem _ (List.mem_cons_self ..))
  rcases List.mem_cons.mp hm with rfl | hm
  · omega
  · rw [List.mem_singleton.mp hm] at a1 ⊢; omega
theorem max2 {a b : Nat} {m : Int} (hm : m ∈ [((a : Nat) : Int), ((b : Nat) : Int)]) (h : ∀ y, y ∈ [((a : Nat) : Int), ((b : Nat) : Int)] → y ≤ m) : m = ((max a b : Nat) : Int) := by
  have a1 := h _ (List.mem_cons_self ..)
  have a2 := h _ (List.mem_cons_of_mem _ (List.mem_cons_self ..))
  rcases List.mem_cons.mp hm with rfl | hm
  · omega
  · rw [List.mem_singleton.mp hm] at a1 ⊢; omega
section
variable {g : G} {mg : Str → Option Value} {vs : List V} {H : Hp} {Q : VK} {E : XK}
theorem p_far_right (T : Txt g mg) {n : Nat} (hn : 20 ≤ n) (h : spFarRight vs H Q E) : t_far_right g n (EndQ Q) (start N_far_right vs) H := by
  obtain ⟨v, ds, rfl, ⟨ad, rfl, had⟩, hdl, hdb, q⟩ := h
  have hL := LIM_big
  -- the root
  obtain ⟨d6, b6, h6⟩ := dgt hdb 6 (by omega)
  obtain ⟨d7, b7, h7⟩ := dgt hdb 7 (by omega)
  obtain ⟨d8, b8, h8⟩ := dgt hdb 8 (by omega)
  obtain ⟨d9, b9, h9⟩ := dgt hdb 9 (by omega)
  refine ⟨_, rfl, _, rfl, ad, _, _, _, rfl, rfl, sL had, h6, .inl ⟨_, rfl, nMod (b := 3) (by decide) (nAdd (a := 1) ?_)⟩⟩
  refine ⟨.ref ad, ds, 1 + d6 % 3, rfl, by omega, ⟨ad, rfl, had⟩, fun H1 r wr s1 hr hw hr1 hr2 => ?_⟩
  have hwr : wr.length = 1 + d6 % 3 := hr2 (by omega)
  refine ⟨_, rfl, _, rfl, ad, _, _, _, rfl, rfl, sL (s1 _ _ had), h7, .inl ⟨_, rfl, nMod (b := 3) (by decide) (nAdd (a := 1) (q_repL hr (by omega) (by omega) fun p2 H2 s2 h2 => ?_))⟩⟩
  refine ⟨_, rfl, _, rfl, ad, _, _, _, rfl, rfl, sL (s2 _ _ (s1 _ _ had)), h8, .inl ⟨_, rfl, nMod (b := 3) (by decide) (nAdd (a := 1) (q_repL (hr.mono s2) (by omega) (by omega) fun p3 H3 s3 h3 => ?_))⟩⟩
  have had3 := s3 _ _ (s2 _ _ (s1 _ _ had))
  have s03 := (s1.trans s2).trans s3
  have h2 := h2.mono s3
  have nz : ∀ {w : List Ent}, 0 < w.length → w ≠ [] := fun z => len_ne z
  have hu1 : (rp (1 + d7 % 3) wr).length ≤ 9 := by rw [rp_len, hwr]; exact Nat.mul_le_mul (show 1 + d7 % 3 ≤ 3 by omega) (show 1 + d6 % 3 ≤ 3 by omega)
  have hu2 : 1 ≤ (rp (1 + d7 % 3) wr).length := by rw [rp_len]; exact Nat.mul_pos (by omega) (by omega)
  have hv1 : (rp (1 + d8 % 3) wr).length ≤ 9 := by rw [rp_len, hwr]; exact Nat.mul_le_mul (show 1 + d8 % 3 ≤ 3 by omega) (show 1 + d6 % 3 ≤ 3 by omega)
  have hv2 : 1 ≤ (rp (1 + d8 % 3) wr).length := by rw [rp_len]; exact Nat.mul_pos (by omega) (by omega)
  have hurow := hw.rp (1 + d7 % 3)
  have hvrow := hw.rp (1 + d8 % 3)
  generalize rp (1 + d7 % 3) wr = u at h2 hu1 hu2 hurow
  generalize rp (1 + d8 % 3) wr = v0 at h3 hv1 hv2 hvrow
  -- the other
  refine ⟨fun σ H' => ∃ ov wo, σ = [some (.ref ad), some r, some (.ref p2), some ov, none, none, none, none, none, none, none, none] ∧ Same H3 H' ∧ LR H' ov wo ∧ isRow wo ∧ 1 ≤ wo.length ∧ wo.length ≤ 9, ?_, ?_⟩
  · refine ⟨_, rfl, ad, _, _, _, rfl, rfl, sL had3, h9, .inl ⟨_, rfl, iMod (by decide) (sEq rfl ⟨_, rfl, ?_⟩)⟩⟩
    generalize decide (V.int _ = V.int 0) = b
    cases b with
    | true =>
      obtain ⟨d16, b16, h16⟩ := dgt hdb 16 (by omega)
      refine iteT ⟨_, rfl, _, rfl, ad, _, rfl, sL had3, fun p np => ?_⟩
      rw [show cutV (natsV ds) (some 10) none = natsV (ds.drop 10) from cut1 ds 10]
      refine ⟨_, rfl, ad, _, _, _, rfl, rfl, sL (sameNew np _ _ had3), h16, .inl ⟨_, rfl, nMod (b := 5) (by decide) (nAdd (a := 1) ?_)⟩⟩
      refine ⟨.ref p, ds.drop 10, 1 + d16 % 5, rfl, by omega, ⟨p, rfl, upd_same⟩, fun H4 r4 w4 s4 hr4 hw4 hr41 hr42 => ?_⟩
      have := hr42 (by rw [List.length_drop]; omega)
      exact ⟨r4, w4, rfl, (sameNew np).trans s4, hr4, hw4, by omega, by omega⟩
    | false => exact iteF ⟨.ref p3, v0, rfl, Same.refl _, h3, hvrow, hv2, hv1⟩
  rintro σ H4 ⟨ov, wo, rfl, s4, ho, hwo, ho1, ho2⟩
  clear h3 hvrow hv1 hv2
  have had4 := s4 _ _ had3
  have h2 := h2.mono s4
  refine ⟨fun σ H' => ∃ ov wo, σ = [some (.ref ad), some r, some (.ref p2), some ov, none, none, none, none, none, none, none, none] ∧ Same H4 H' ∧ LR H' ov wo ∧ isRow wo ∧ 1 ≤ wo.length ∧ wo.length ≤ 10, ?_, ?_⟩
  · refine ⟨_, rfl, ad, _, _, _, rfl, rfl, sL had4, h9, .inl ⟨_, rfl, iMod (by decide) (sEq rfl ⟨_, rfl, ?_⟩)⟩⟩
    generalize decide (V.int _ = V.int 1) = b
    cases b with
    | true =>
      obtain ⟨lo, eo, rfl, hlo, heo⟩ := ho
      refine iteT ⟨_, rfl, _, rfl, _, rfl, lo, eo, rfl, sL hlo, fun p np => ?_⟩
      have s5 := sameNew (o := .lst (cutV eo none (some ((1 : Nat) : Int)))) np
      refine q_catL (w1 := wo) (w2 := wo.take 1) ⟨lo, eo, rfl, s5 _ _ hlo, heo.mono s5⟩ (cutE_to (heo.mono s5) 1 upd_same) (by omega) (by rw [List.length_take]; omega) fun p6 H6 s6 h6 => ?_
      exact ⟨.ref p6, wo ++ wo.take 1, rfl, s5.trans s6, h6, hwo.append (fun e he => hwo e (List.mem_of_mem_take he)), by rw [List.length_append]; omega, by rw [List.length_append, List.length_take]; omega⟩
    | false => exact iteF ⟨ov, wo, rfl, Same.refl _, ho, hwo, ho1, by omega⟩
  clear ho hwo ho1 ho2
  rintro σ H5 ⟨ov, vv, rfl, s5, ho, hvrow, hv2, hv1⟩
  have had5 := s5 _ _ had4
  have h2 := h2.mono s5
  have s05 := (s03.trans s4).trans s5
  -- ahead
  obtain ⟨d23, b23, h23⟩ := dgt hdb 23 (by omega)
  refine ⟨_, rfl, _, rfl, ad, _, rfl, sL had5, fun p np => ?_⟩
  rw [show cutV (natsV ds) (some 17) none = natsV (ds.drop 17) from cut1 ds 17]
  refine ⟨_, rfl, ad, _, _, _, rfl, rfl, sL (sameNew np _ _ had5), h23, .inl ⟨_, rfl, nMod (b := 4) (by decide) ?_⟩⟩
  refine ⟨.ref p, ds.drop 17, d23 % 4, rfl, by omega, ⟨p, rfl, upd_same⟩, fun H6 ra aa s6 hra harow ha1 _ => ?_⟩
  have s56 := (sameNew (o := .lst (natsV (ds.drop 17))) np).trans s6
  have had6 := s56 _ _ had5
  have h2 := h2.mono s56
  have ho := ho.mono s56
  have s06 := s05.trans s56
  -- turns
  refine ⟨2, rfl, by omega, by omega, fun D nD => ?_⟩
  refine lc_range (lo := 0) (n := (2 : Int).toNat) (fun i H' => Same H6 H' ∧ ∃ ts : List Nat, H' D = some (.lst (natsV ts)) ∧ ts.length = i ∧ ∀ x ∈ ts, 1 ≤ x ∧ x ≤ 200000000000000000000000000000000) ⟨sameNew nD, [], upd_same, rfl, fun _ z => absurd z List.not_mem_nil⟩ ?_ ?_
  · rintro i H7 hi ⟨s7, ts, hD, htl, htb⟩
    have hi2 : i < 2 := hi
    rw [show (0 : Int) + ((i : Nat) : Int) = ((i : Nat) : Int) by omega]
    obtain ⟨d1, b1, h1⟩ := dgt hdb (24 + i) (by omega)
    obtain ⟨d2, b2, h2'⟩ := dgt hdb (26 + i) (by omega)
    obtain ⟨cf, hcf, hat⟩ := fac3b d2
    refine ⟨rfl, q_yes (yes rfl ?_)⟩
    refine ⟨_, rfl, _, rfl, nAdd (a := 24) ⟨ad, _, _, _, rfl, rfl, sL (s7 _ _ had6), h1, iPow ⟨by decide, by decide, by decide⟩ (iPow ⟨by decide, by decide, by decide⟩ ⟨small3, fun p8 np8 => ?_⟩)⟩⟩
    have s8 := sameNew (o := .lst [V.int 1, V.int (10 ^ (9 : Int).toNat), V.int (10 ^ (29 : Int).toNat)]) np8
    refine ⟨_, rfl, _, rfl, nAdd (a := 26) ⟨ad, _, _, _, rfl, rfl, sL (s8 _ _ (s7 _ _ had6)), h2', .inl ⟨_, rfl, nMod (b := 3) (by decide) ⟨p8, _, _, _, rfl, rfl, sL upd_same, hat, nMul (lim1 (by omega)) (lim1 (by omega)) (nAdd (a := 1) ?_)⟩⟩⟩⟩
    have ht0 : d1 * cf ≤ 1009 * 100000000000000000000000000000 := Nat.mul_le_mul (by omega) hcf
    refine ⟨_, s8 _ _ hD, ?_, ?_⟩
    · rw [natsV_len, htl]; exact Nat.lt_of_lt_of_le hi2 (by decide)
    · rw [natsV_push]
      refine ⟨samePut (s7.trans s8) nD, ts ++ [1 + d1 * cf], upd_same, by rw [List.length_append, htl]; rfl, fun x hx => ?_⟩
      rcases List.mem_append.mp hx with hx | hx
      · exact htb x hx
      · rw [List.mem_singleton.mp hx]; omega
  rintro H7 ⟨s7, ts, hD, htl, htb⟩
  obtain ⟨sT', tT, rfl⟩ : ∃ a b, ts = [a, b] := by
    match ts, htl with
    | [a, b], _ => exact ⟨a, b, rfl⟩
  have hsb := htb sT' (List.mem_cons_self ..)
  have htb' := htb tT (List.mem_cons_of_mem _ (List.mem_cons_self ..))
  obtain ⟨lu, eu, elu, hlu, heu⟩ := h2.mono s7
  cases elu
  obtain ⟨lo, eo, rfl, hlo, heo⟩ := ho.mono s7
  obtain ⟨la, ea, rfl, hla, hea⟩ := hra.mono s7
  have leu := heu.len
  have leo := heo.len
  have lea := hea.len
  have hmu : sT' * u.length ≤ 200000000000000000000000000000000 * 9 := Nat.mul_le_mul hsb.2 hu1
  have hmv : tT * vv.length ≤ 200000000000000000000000000000000 * 10 := Nat.mul_le_mul htb'.2 hv1
  -- the two words
  refine ⟨_, rfl, ?_⟩
  intro x dx nx nd ne
  refine q_WordL (vs := [.ref la]) (dvs := []) rfl hla hea harow.ok (by omega) nx nd ne fun H8 s8 hx => ⟨rfl, ⟨_, rfl, ?_⟩⟩
  intro y dy ny nyd nye
  refine q_WordL (vs := [.ref p2]) (dvs := []) rfl (s8 _ _ hlu) (heu.mono s8) hurow.ok (by omega) ny nyd nye fun H9 s9 hy => ⟨rfl, ?_⟩
  refine ⟨_, rfl, D, _, 0, .int (sT' : Nat), rfl, rfl, sL (s9 _ _ (s8 _ _ hD)), rfl, q_mulF hy (by decide) (by omega) fun H10 v10 s10 h10 => q_addW ((hx.mono (s9.trans s10)).up (Nat.zero_le 1)) h10 (by decide) fun H11 v11 s11 h11 => ?_⟩
  have s711 := ((s8.trans s9).trans s10).trans s11
  refine ⟨_, rfl, ?_⟩
  intro x2 dx2 nx2 nd2 ne2
  refine q_WordL (vs := [.ref la]) (dvs := []) rfl (s711 _ _ hla) (hea.mono s711) harow.ok (by omega) nx2 nd2 ne2 fun H12 s12 hx2 => ⟨rfl, ⟨_, rfl, ?_⟩⟩
  intro y2 dy2 ny2 nyd2 nye2
  refine q_WordL (vs := [.ref lo]) (dvs := []) rfl (s12 _ _ (s711 _ _ hlo)) ((heo.mono s711).mono s12) hvrow.ok (by omega) ny2 nyd2 nye2 fun H13 s13 hy2 => ⟨rfl, ?_⟩
  refine ⟨_, rfl, D, _, 1, .int (tT : Nat), rfl, rfl, sL (s13 _ _ (s12 _ _ (s711 _ _ hD))), rfl, q_mulF hy2 (by decide) (by omega) fun H14 v14 s14 h14 => q_addW ((hx2.mono (s13.trans s14)).up (Nat.zero_le 1)) h14 (by decide) fun H15 v15 s15 h15 => ?_⟩
  have s1115 := ((s12.trans s13).trans s14).trans s15
  refine ⟨small2, fun p16 np16 => ?_⟩
  have s16 := sameNew (o := .lst [v11, v15]) np16
  have s1116 := s1115.trans s16
  have s716 := s711.trans s1116
  have hW1 := h11.mono s1116
  have hW2 := h15.mono s16
  have hp16 : upd H15 p16 (.lst [v11, v15]) p16 = some (.lst [v11, v15]) := upd_same
  have hlu := s716 _ _ hlu
  have hlo := s716 _ _ hlo
  have hla := s716 _ _ hla
  have hD := s716 _ _ hD
  have heu := heu.mono s716
  have heo := heo.mono s716
  have s0 := s06.trans (s7.trans s716)
  clear hx hy hx2 hy2 h10 h14 had had3 had4 had5 had6 h6 h7 h8 h9 h23 h2 ho hra
  generalize upd H15 p16 (.lst [v11, v15]) = H16 at hW1 hW2 hp16 hlu hlo hla hD heu heo s0 ⊢
  -- both
  refine ⟨_, rfl, p2, eu, rfl, .inl (sL hlu), _, rfl, lo, eo, rfl, .inl (sL hlo), nAdd ?_⟩
  rw [leu, leo]
  obtain ⟨b, eb⟩ : ∃ b, u.length + vv.length = b := ⟨_, rfl⟩
  rw [eb]
  -- how far both are alike
  refine ⟨_, rfl, _, rfl, q_repL ⟨p2, eu, rfl, hlu, heu⟩ (by omega) (by omega) fun p17 H17 s17 h17 => ?_⟩
  obtain ⟨_, e17, ee, hl17, he17⟩ := h17
  cases ee
  refine ⟨_, rfl, _, rfl, p17, e17, rfl, sL hl17, fun p18 np18 => ?_⟩
  have s18 := sameNew (o := .lst (cutV e17 none (some ((b : Nat) : Int)))) np18
  have s1618 := s17.trans s18
  have k18 : LR _ (.ref p18) ((rp b u).take b) := cutE_to (he17.mono s18) b upd_same
  refine ⟨_, rfl, _, rfl, q_repL ⟨lo, eo, rfl, s1618 _ _ hlo, heo.mono s1618⟩ (by omega) (by omega) fun p19 H19 s19 h19 => ?_⟩
  obtain ⟨_, e19, ee, hl19, he19⟩ := h19
  cases ee
  refine ⟨_, rfl, _, rfl, p19, e19, rfl, sL hl19, fun p20 np20 => ?_⟩
  have s20 := sameNew (o := .lst (cutV e19 none (some ((b : Nat) : Int)))) np20
  have s1620 := (s1618.trans s19).trans s20
  refine ⟨_, _, _, _, rfl, k18.mono (s19.trans s20), cutE_to (he19.mono s20) b upd_same, fun k hk => ?_⟩
  have bu : b * 1 ≤ b * u.length := Nat.mul_le_mul_left b hu2
  have bv : b * 1 ≤ b * vv.length := Nat.mul_le_mul_left b hv2
  rw [List.length_take, List.length_take, rp_len, rp_len, show min (min b (b * u.length)) (min b (b * vv.length)) = b by omega] at hk
  rw [← eb] at hk
  have far := agr_far (nz hu2) (nz hv2) (s := sT') (t := tT) hk
  rw [eb] at far
  have hW1 := hW1.mono s1620
  have hW2 := hW2.mono s1620
  have hp16 := s1620 _ _ hp16
  have hlu := s1620 _ _ hlu
  have hlo := s1620 _ _ hlo
  have hla := s1620 _ _ hla
  have hD := s1620 _ _ hD
  have s0 := s0.trans s1620
  generalize upd H19 p20 (.lst (cutV e19 none (some ((b : Nat) : Int)))) = H20 at hW1 hW2 hp16 hlu hlo hla hD s0 ⊢
  -- the lengths
  refine ⟨_, rfl, D, _, 0, .int (sT' : Nat), rfl, rfl, sL hD, rfl, _, rfl, p2, eu, rfl, .inl (sL hlu), nMul (lim1 (by omega)) (lim1 (by omega)) ⟨_, rfl, D, _, 1, .int (tT : Nat), rfl, rfl, sL hD, rfl, _, rfl, lo, eo, rfl, .inl (sL hlo), nMul (lim1 (by omega)) (lim1 (by omega)) ⟨small2, fun p21 np21 => ?_⟩⟩⟩
  rw [leu, leo]
  obtain ⟨l1, el1⟩ : ∃ l, sT' * u.length = l := ⟨_, rfl⟩
  obtain ⟨l2, el2⟩ : ∃ l, tT * vv.length = l := ⟨_, rfl⟩
  rw [el1, el2] at far ⊢
  rw [el1] at hmu
  rw [el2] at hmv
  have s21 := sameNew (o := .lst [V.int (l1 : Nat), V.int (l2 : Nat)]) np21
  have hp21 : SqL g.K (upd H20 p21 (.lst [V.int (l1 : Nat), V.int (l2 : Nat)])) p21 ([((l1 : Nat) : Int), ((l2 : Nat) : Int)].map V.int) := sL upd_same
  have hW1 := hW1.mono s21
  have hW2 := hW2.mono s21
  have hp16 := s21 _ _ hp16
  have hla := s21 _ _ hla
  have s0 := s0.trans s21
  generalize upd H20 p21 (.lst [V.int (l1 : Nat), V.int (l2 : Nat)]) = H21 at hW1 hW2 hp16 hla hp21 s0 ⊢
  obtain ⟨due, edue⟩ : ∃ d, (if k = b then min l1 l2 else min k (min l1 l2)) = d := ⟨_, rfl⟩
  refine ⟨fun σ H' => σ = [some (.ref ad), some r, some (.ref p2), some (.ref lo), some (.ref la), some (.ref D), some (.ref p16), some (.int (b : Nat)), some (.int (k : Nat)), some (.ref p21), some (.int (due : Nat)), none] ∧ H' = H21, ?_, ?_⟩
  · refine ⟨_, rfl, _, rfl, nEq ⟨_, rfl, ?_⟩⟩
    by_cases hkb : k = b
    · refine yesD hkb ⟨_, rfl, p21, _, rfl, hp21, Nat.zero_lt_succ _, fun m hm hmin => ?_⟩
      rw [min2 hm hmin, ← edue, if_pos hkb]
      exact ⟨rfl, rfl⟩
    · refine noD hkb ⟨_, rfl, _, rfl, p21, _, rfl, hp21, Nat.zero_lt_succ _, fun m hm hmin => ?_⟩
      rw [min2 hm hmin]
      refine nMin2 ?_
      rw [← edue, if_neg hkb]
      exact ⟨rfl, rfl⟩
  rintro σ H' ⟨rfl, rfl⟩
  rw [edue] at far
  have hfl : Agr (rp sT' u) (rp tT vv) (min (rp sT' u).length (rp tT vv).length) due := by rw [rp_len, rp_len, el1, el2]; exact far
  have hag := agr_ahead (a := aa) hfl
  have hd1 : due ≤ min l1 l2 := far.le
  have hlW1 : (aa ++ rp sT' u).length = aa.length + l1 := by rw [List.length_append, rp_len, el1]
  have hlW2 : (aa ++ rp tT vv).length = aa.length + l2 := by rw [List.length_append, rp_len, el2]
  -- agreeing
  refine ⟨_, rfl, p16, _, 0, v11, rfl, rfl, sL hp16, rfl, _, rfl, p16, _, 1, v15, rfl, rfl, sL hp16, rfl, v11, v15, _, _, 1, _, _, 1, _, _, 0, 0, rfl, hW1, hW2, Nat.zero_le _, Nat.zero_le _, by omega, by omega, by omega, fun H22 k' s22 hk' => ?_⟩
  rw [List.drop_zero, List.drop_zero, Nat.sub_zero, Nat.sub_zero] at hk'
  obtain rfl := hag.uniq hk'
  refine ⟨_, rfl, la, ea, rfl, .inl (sL (s22 _ _ hla)), _, rfl, nAdd ?_⟩
  rw [lea]
  refine nNe ⟨_, rfl, no (by rw [decide_eq_true rfl]; rfl) ?_⟩
  have hW1 := hW1.mono s22
  have hW2 := hW2.mono s22
  have hp16 := s22 _ _ hp16
  have hla := s22 _ _ hla
  have hp21 := SqL.same s22 hp21
  have s0 := s0.trans s22
  -- the first difference
  refine ⟨_, rfl, p16, _, 1, v15, rfl, rfl, sL hp16, rfl, _, rfl, p16, _, 0, v11, rfl, rfl, sL hp16, rfl, v15, v11, _, _, 1, _, _, 1, _, _, rfl, hW2, hW1, by omega, by omega, by omega, fun H23 k' s23 hk' => ?_⟩
  have hk2 := hk'.symm
  rw [Nat.min_comm] at hk2
  obtain rfl := hag.uniq hk2
  have hW1 := hW1.mono s23
  have hW2 := hW2.mono s23
  have hp16 := s23 _ _ hp16
  have hla := s23 _ _ hla
  have hp21 := SqL.same s23 hp21
  have s0 := s0.trans s23
  refine ⟨_, rfl, la, ea, rfl, .inl (sL hla), _, rfl, nAdd ⟨small2, fun p24 np24 => ⟨_, rfl, _, rfl, p21, _, rfl, SqL.same (sameNew np24) hp21, Nat.zero_lt_succ _, fun m hm hmax => ?_⟩⟩⟩
  rw [max2 hm hmax, lea]
  refine nEq (.inr ⟨_, rfl, ?_⟩)
  have s24 := sameNew (o := .lst [V.int ((aa.length + due : Nat) : Int), V.non]) np24
  refine ⟨p24, _, (if decide (due = max l1 l2) = true then 1 else 0), (if due = max l1 l2 then V.non else .int ((aa.length + due : Nat) : Int)), rfl, rfl, sL upd_same, ?_, ?_⟩
  · by_cases hd : due = max l1 l2
    · rw [decide_eq_true hd, if_pos hd, if_pos rfl]; rfl
    · rw [decide_eq_false hd, if_neg hd, if_neg Bool.false_ne_true]; rfl
  have efd : (if aa.length + due = (aa ++ rp tT vv).length ∧ (aa ++ rp tT vv).length = (aa ++ rp sT' u).length then V.non else .int ((aa.length + due : Nat) : Int)) = (if due = max l1 l2 then V.non else .int ((aa.length + due : Nat) : Int)) := by
    by_cases hd : due = max l1 l2
    · rw [if_pos hd, if_pos ⟨by omega, by omega⟩]
    · rw [if_neg hd, if_neg (fun z => hd (by omega))]
  rw [efd]
  refine sNe scal_self ⟨_, rfl, no (by rw [decide_eq_true rfl]; rfl) ?_⟩
  have hW1 := hW1.mono s24
  have hW2 := hW2.mono s24
  have hp16 := s24 _ _ hp16
  have hp21 := SqL.same s24 hp21
  have s0 := s0.trans s24
  -- equal or not
  have hW1' := hW1
  have hW2' := hW2
  obtain ⟨aX, dX, fX, eX, haX, _⟩ := hW1'.ref
  obtain ⟨aY, dY, fY, eY, haY, _⟩ := hW2'.ref
  refine ⟨_, rfl, p16, _, 0, v11, rfl, rfl, sL hp16, rfl, _, rfl, p16, _, 1, v15, rfl, rfl, sL hp16, rfl, aX, dX, fX, aY, dY, fY, eX, eY, haX, haY, v11, v15, _, _, 1, _, _, 1, _, _, rfl, hW1, hW2, by omega, by omega, by omega, fun H25 s25 => ?_⟩
  refine ⟨_, rfl, _, rfl, p21, _, rfl, SqL.same s25 hp21, Nat.zero_lt_succ _, fun m hm hmax => ?_⟩
  rw [max2 hm hmax]
  refine nEq (sEq rfl ?_)
  have ee : decide (aa ++ rp sT' u = aa ++ rp tT vv) = decide (due = max l1 l2) := by
    have := agr_all hag
    by_cases hd : due = max l1 l2
    · rw [decide_eq_true hd, decide_eq_true (this.mp ⟨by omega, by omega⟩)]
    · rw [decide_eq_false hd, decide_eq_false (fun z => hd (by have := this.mpr z; omega))]
  rw [ee, decide_eq_true rfl]
  exact q H25 (s0.trans s25)
end
end RH
set_option exponentiation.threshold 256
set_option Elab.async false
set_option linter.all false
set_option maxRecDepth 100000
set_option maxHeartbeats 4000000
namespace RH
open PySem PySem.Spec PyProof.Rows L2
def fb : Ent := ⟨"final", some "b"⟩
def fc : Ent := ⟨"final", some "c"⟩
def ec : Ent := ⟨"emit", some "c"⟩
theorem fb_ok : EntOk fb := ⟨.inr rfl, ⟨by decide +kernel, by decide +kernel, by decide +kernel⟩⟩
theorem fc_ok : EntOk fc := ⟨.inr rfl, ⟨by decide +kernel, by decide +kernel, by decide +kernel⟩⟩
theorem ec_ok : EntOk ec := ⟨.inl rfl, ⟨by decide +kernel, by decide +kernel, by decide +kernel⟩⟩
theorem fb_s : EntS fb := ⟨by decide +kernel, fun x e => by injection e with e; rw [← e]; decide +kernel⟩
theorem fc_s : EntS fc := ⟨by decide +kernel, fun x e => by injection e with e; rw [← e]; decide +kernel⟩
theorem ec_s : EntS ec := ⟨by decide +kernel, fun x e => by injection e with e; rw [← e]; decide +kernel⟩
theorem fc_ne (i : Nat) : fc ≠ ent4 i := by
  have hn : i % 4 = 0 ∨ i % 4 = 1 ∨ i % 4 = 2 ∨ i % 4 = 3 := by omega
  rcases hn with h | h | h | h
  · rw [ent4_0 h]; decide +kernel
  · rw [ent4_1 h]; decide +kernel
  · rw [ent4_2 h]; decide +kernel
  · rw [ent4_3 h]; decide +kernel
theorem ec_ne (i : Nat) : ec ≠ ent4 i := by
  have hn : i % 4 = 0 ∨ i % 4 = 1 ∨ i % 4 = 2 ∨ i % 4 = 3 := by omega
  rcases hn with h | h | h | h
  · rw [ent4_0 h]; decide +kernel
  · rw [ent4_1 h]; decide +kernel
  · rw [ent4_2 h]; decide +kernel
  · rw [ent4_3 h]; decide +kernel
theorem not_in {I O : List Ent} {z : Ent} (hI : isRow I) (hO : isRow O) (hz : ∀ i, z ≠ ent4 i) (hb : z ≠ fb) (M : Nat) : z ∉ rp M I ++ (O ++ [fb]) := fun h => by
  rcases List.mem_append.mp h with h | h
  · obtain ⟨i, e⟩ := hI _ (mem_rp h)
    exact hz i e
  · rcases List.mem_append.mp h with h | h
    · obtain ⟨i, e⟩ := hO _ h
      exact hz i e
    · exact hb (List.mem_singleton.mp h)
theorem cutV_last (xs : List V) : cutV xs none (some (-1)) = xs.take (xs.length - 1) := by
  unfold cutV
  show (xs.drop 0).take ((if (-1 : Int) < 0 then ((-1 : Int) + (xs.length : Int)).toNat else min (-1 : Int).toNat xs.length) - 0) = _
  rw [List.drop_zero, Nat.sub_zero, if_pos (by decide), show ((-1 : Int) + (xs.length : Int)).toNat = xs.length - 1 by omega]
/-- the last entry bent -/
theorem bentA {I O : List Ent} (M : Nat) (z : Ent) : rp M I ++ O ++ [z] = bent (rp M I ++ (O ++ [fb])) ((rp M I ++ (O ++ [fb])).length - 1) z := by
  have e : (rp M I ++ (O ++ [fb])).length - 1 = (rp M I ++ O).length := by simp only [List.length_append]; show _ + (_ + 1) - 1 = _; omega
  unfold bent
  rw [e, ← List.append_assoc, List.take_left, List.drop_eq_nil_of_le (by rw [List.length_append]; show _ + 1 ≤ _; omega), List.append_nil]
/-- the last row's first entry bent -/
theorem bentB {I O : List Ent} {M : Nat} (hM : 1 ≤ M) (hI : I ≠ []) (z : Ent) : rp (M - 1) I ++ [z] ++ I.drop 1 ++ O = bent (rp M I ++ O) ((M - 1) * I.length) z := by
  have hp : 0 < I.length := List.length_pos_iff.mpr hI
  have e1 : rp M I ++ O = rp (M - 1) I ++ (I ++ O) := by rw [← rp_last hM, List.append_assoc]
  have e2 : (M - 1) * I.length = (rp (M - 1) I).length + 0 := by rw [rp_len]; omega
  unfold bent
  rw [e1, e2, take_app, show (rp (M - 1) I).length + 0 + 1 = (rp (M - 1) I).length + 1 by omega, drop_app, List.take_zero, List.append_nil, List.drop_append_of_le_length (by omega)]
  simp only [List.append_assoc]
section
variable {g : G} {mg : Str → Option Value} {vs : List V} {H : Hp} {Q : VK} {E : XK}
theorem p_nested_right (T : Txt g mg) {n : Nat} (hn : 20 ≤ n) (h : spNestedRight vs H Q E) : t_nested_right g n (EndQ Q) (start N_nested_right vs) H := by
  obtain ⟨v, ds, rfl, ⟨ad, rfl, had⟩, hdl, hdb, q⟩ := h
  have hL := LIM_big2
  have e27 : (10 : Int) ^ (27 : Int).toNat = ((1000000000000000000000000000 : Nat) : Int) := by decide
  obtain ⟨d6, b6, h6⟩ := dgt hdb 6 (by omega)
  obtain ⟨d12, b12, h12⟩ := dgt hdb 12 (by omega)
  obtain ⟨d13, b13, h13⟩ := dgt hdb 13 (by omega)
  obtain ⟨d14, b14, h14⟩ := dgt hdb 14 (by omega)
  obtain ⟨d15, b15, h15⟩ := dgt hdb 15 (by omega)
  obtain ⟨d16, b16, h16⟩ := dgt hdb 16 (by omega)
  obtain ⟨d17, b17, h17⟩ := dgt hdb 17 (by omega)
  -- inner
  refine ⟨_, rfl, _, rfl, ad, _, _, _, rfl, rfl, sL had, h6, .inl ⟨_, rfl, nMod (b := 4) (by decide) (nAdd (a := 1) ?_)⟩⟩
  refine ⟨.ref ad, ds, 1 + d6 % 4, rfl, by omega, ⟨ad, rfl, had⟩, fun H1 ri I s1 hri hI hI1 hI2 => ?_⟩
  have hIl : I.length = 1 + d6 % 4 := hI2 (by omega)
  have had1 := s1 _ _ had
  -- outer
  refine ⟨_, rfl, _, rfl, ad, _, rfl, sL had1, fun p np => ?_⟩
  rw [show cutV (natsV ds) (some 7) none = natsV (ds.drop 7) from cut1 ds 7]
  refine ⟨_, rfl, ad, _, _, _, rfl, rfl, sL (sameNew np _ _ had1), h12, .inl ⟨_, rfl, nMod (b := 3) (by decide) ?_⟩⟩
  refine ⟨.ref p, ds.drop 7, d12 % 3, rfl, by omega, ⟨p, rfl, upd_same⟩, fun H2 ro O s2 hro hO hO1 _ => ⟨small2, fun p3 np3 => ⟨small1, fun p4 np4 => ?_⟩⟩⟩
  have s3 := sameNew (o := .tup [V.str "final", V.str "b"]) np3
  have s4 := sameNew (o := .lst [V.ref p3]) np4
  refine q_catL (hro.mono (s3.trans s4)) (w2 := [fb]) ⟨p4, [.ref p3], rfl, upd_same, ⟨⟨fb_s, p3, rfl, s4 _ _ upd_same⟩, trivial⟩⟩ (by omega) (by decide) fun p5 H5 s5 h5 => ?_
  have s15 := (((sameNew (o := .lst (natsV (ds.drop 7))) np).trans s2).trans (s3.trans s4)).trans s5
  have had5 := s15 _ _ had1
  obtain ⟨li, ei, rfl, hli, hei⟩ := hri.mono s15
  obtain ⟨_, eo, ee, hlo, heo⟩ := h5
  cases ee
  have lei := hei.len
  have leo := heo.len
  have hOl : (O ++ [fb]).length = O.length + 1 := by rw [List.length_append]; rfl
  -- many, turns
  refine ⟨_, rfl, ad, _, _, _, rfl, rfl, sL had5, h13, iPow ⟨by decide, by decide, by decide⟩ ?_⟩
  rw [e27]
  refine nMul (lim1 (by omega)) (lim1 (by omega)) (nAdd (a := 1) ⟨_, rfl, ad, _, _, _, rfl, rfl, sL had5, h14, iPow ⟨by decide, by decide, by decide⟩ ?_⟩)
  rw [e27]
  refine nMul (lim1 (by omega)) (lim1 (by omega)) (nAdd (a := 3) ⟨_, _, rfl, ?_⟩)
  obtain ⟨M, eM⟩ : ∃ M, 1 + d13 * 1000000000000000000000000000 = M := ⟨_, rfl⟩
  obtain ⟨W, eW⟩ : ∃ W, 3 + d14 * 1000000000000000000000000000 = W := ⟨_, rfl⟩
  rw [eM, eW]
  -- spot
  refine ⟨_, rfl, ad, _, _, _, rfl, rfl, sL had5, h15, .inl ⟨_, rfl, nMod (b := 3) (by decide) ⟨_, rfl, ad, _, _, _, rfl, rfl, sL had5, h16, .inl ⟨_, rfl, nMod (b := 2) (by decide) ⟨_, rfl, nSub (b := 3) (by omega) (nMul (lim1 (by omega)) (lim1 (by omega)) (nAdd ?_))⟩⟩⟩⟩⟩
  have hS : d15 % 3 + d16 % 2 * (W - 3) < W := by
    have h2 : d16 % 2 = 0 ∨ d16 % 2 = 1 := by omega
    rcases h2 with h2 | h2 <;> rw [h2]
    · omega
    · omega
  generalize d15 % 3 + d16 % 2 * (W - 3) = S at hS ⊢
  have hM1 : 1 ≤ M := by omega
  have hMb : M ≤ 2000000000000000000000000000000 := by omega
  have hWb : W ≤ 2000000000000000000000000000000 := by omega
  have hMI : M * I.length ≤ 2000000000000000000000000000000 * 4 := Nat.mul_le_mul hMb (by omega)
  -- usual
  have okO : ∀ e ∈ O ++ [fb], EntOk e := fun e he => by
    rcases List.mem_append.mp he with he | he
    · exact hO.ok e he
    · rw [List.mem_singleton.mp he]; exact fb_ok
  refine ⟨_, rfl, ?_⟩
  intro x dx nx nd ne
  refine q_WordL (vs := [.ref li]) (dvs := []) rfl hli hei hI.ok (by omega) nx nd ne fun H6 s6 hx => ⟨rfl, ⟨_, rfl, q_mulF hx (by decide) (by omega) fun H7 v7 s7 h7 => ⟨_, rfl, ?_⟩⟩⟩
  intro y dy ny nyd nye
  have s67 := s6.trans s7
  refine q_WordL (vs := [.ref p5]) (dvs := []) rfl (s67 _ _ hlo) (heo.mono s67) okO (by omega) ny nyd nye fun H8 s8 hy => ⟨rfl, q_addW (h7.mono s8) (hy.up (Nat.zero_le 1)) (by decide) fun H9 vU s9 hU => ?_⟩
  have s59 := (s67.trans s8).trans s9
  have hli := s59 _ _ hli
  have hlo := s59 _ _ hlo
  have hei := hei.mono s59
  have heo := heo.mono s59
  have had := s59 _ _ had5
  have s0 := (s1.trans s15).trans s59
  clear hx h7 hy had1 had5 s1 s2 s3 s4 s5 s15 s6 s7 s67 s8 s9 s59
  -- odd, the one way
  refine ⟨_, rfl, ?_⟩
  intro x dx nx nd ne
  refine q_WordL (vs := [.ref li]) (dvs := []) rfl hli hei hI.ok (by omega) nx nd ne fun H6 s6 hx => ⟨rfl, ⟨_, rfl, q_mulF hx (by decide) (by omega) fun H7 v7 s7 h7 => ?_⟩⟩
  have s67 := s6.trans s7
  refine ⟨_, rfl, _, rfl, _, rfl, p5, eo, rfl, sL (s67 _ _ hlo), fun p10 np10 => ?_⟩
  have s10 := sameNew (o := .lst (cutV eo none (some (-1)))) np10
  have h10 : upd H7 p10 (.lst (cutV eo none (some (-1)))) p10 = some (.lst (eo.take (eo.length - 1))) := by rw [upd_same, cutV_last]
  have he10 : EntsV (upd H7 p10 (.lst (cutV eo none (some (-1))))) O (eo.take (eo.length - 1)) := by
    have := ((heo.mono s67).mono s10).take (eo.length - 1)
    rw [leo, hOl, Nat.add_sub_cancel] at this ⊢
    rwa [List.take_left] at this
  intro y dy ny nyd nye
  refine q_WordL (vs := [.ref p10]) (dvs := []) rfl h10 he10 hO.ok (by omega) ny nyd nye fun H8 s8 hy => ⟨rfl, q_addW ((h7.mono s10).mono s8) (hy.up (Nat.zero_le 1)) (by decide) fun H11 v11 s11 h11 => ⟨small2, fun p12 np12 => ⟨small1, fun p13 np13 => ?_⟩⟩⟩
  have s12 := sameNew (o := .tup [V.str "final", V.str "c"]) np12
  have s13 := sameNew (o := .lst [V.ref p12]) np13
  have h13' : EntsV (upd (upd H11 p12 (.tup [V.str "final", V.str "c"])) p13 (.lst [V.ref p12])) [fc] [V.ref p12] := ⟨⟨fc_s, p12, rfl, s13 _ _ upd_same⟩, trivial⟩
  intro x' dx' nx' nd' ne'
  refine q_WordL (vs := [.ref p13]) (dvs := []) rfl upd_same h13' (fun e he => by rw [List.mem_singleton.mp he]; exact fc_ok) (by decide) nx' nd' ne' fun H14 s14 hz => ⟨rfl, q_addW (h11.mono ((s12.trans s13).trans s14)) (hz.up (Nat.zero_le 1)) (by decide) fun H15 vA s15 hA => ?_⟩
  have s915 := ((((s67.trans s10).trans s8).trans s11).trans ((s12.trans s13).trans s14)).trans s15
  have hU := hU.mono s915
  have hli := s915 _ _ hli
  have hlo := s915 _ _ hlo
  have hei := hei.mono s915
  have heo := heo.mono s915
  have had := s915 _ _ had
  have s0 := s0.trans s915
  rw [bentA] at hA
  have zA := not_in hI hO fc_ne (by decide +kernel) M
  have zB := not_in hI hO ec_ne (by decide +kernel) M
  have hUl : (rp M I ++ (O ++ [fb])).length = M * I.length + (O.length + 1) := by rw [List.length_append, rp_len, hOl]
  clear hx h7 hy hz h11 h10 he10 h13' s6 s7 s67 s10 s8 s11 s12 s13 s14 s15 s915
  have hIp : 1 ≤ I.length := by omega
  have hM1I : (M - 1) * I.length + I.length = M * I.length := by
    have : M = M - 1 + 1 := by omega
    rw [show M * I.length = (M - 1 + 1) * I.length by rw [← this], Nat.add_mul, Nat.one_mul]
  refine ⟨fun σ H' => ∃ ov r z nn qq, σ = [some (.ref ad), some (.ref li), some (.ref p5), some (.int (M : Nat)), some (.int (W : Nat)), some (.int (S : Nat)), some vU, some ov, none, none, none, none] ∧ Same H15 H' ∧ WR g H' ov (bent (rp M I ++ (O ++ [fb])) r z) 1 nn qq ∧ qq ≤ 4 ∧ r < (rp M I ++ (O ++ [fb])).length ∧ z ∉ rp M I ++ (O ++ [fb]) ∧ r = (if d17 % 2 = 0 then (M - 1) * I.length else (rp M I ++ (O ++ [fb])).length - 1), ?_, ?_⟩
  · refine ⟨_, rfl, ad, _, _, _, rfl, rfl, sL had, h17, .inl ⟨_, rfl, nMod (b := 2) (by decide) (nEq (b := 0) ⟨_, rfl, ?_⟩)⟩⟩
    by_cases hd : d17 % 2 = 0
    · refine yesD hd ⟨_, rfl, ?_⟩
      intro x dx nx nd ne
      refine q_WordL (vs := [.ref li]) (dvs := []) rfl hli hei hI.ok (by omega) nx nd ne fun H6 s6 hx => ⟨rfl, ⟨_, rfl, nSub (b := 1) hM1 (q_mulF hx (by decide) (by omega) fun H7 v7 s7 h7 => ⟨small2, fun p12 np12 => ⟨small1, fun p13 np13 => ?_⟩⟩)⟩⟩
      have s67 := s6.trans s7
      have s12 := sameNew (o := .tup [V.str "emit", V.str "c"]) np12
      have s13 := sameNew (o := .lst [V.ref p12]) np13
      have h13' : EntsV (upd (upd H7 p12 (.tup [V.str "emit", V.str "c"])) p13 (.lst [V.ref p12])) [ec] [V.ref p12] := ⟨⟨ec_s, p12, rfl, s13 _ _ upd_same⟩, trivial⟩
      intro x' dx' nx' nd' ne'
      refine q_WordL (vs := [.ref p13]) (dvs := []) rfl upd_same h13' (fun e he => by rw [List.mem_singleton.mp he]; exact ec_ok) (by decide) nx' nd' ne' fun H8 s8 hz => ⟨rfl, q_addW (h7.mono ((s12.trans s13).trans s8)) (hz.up (Nat.zero_le 1)) (by decide) fun H9 v9 s9 h9 => ?_⟩
      have s69 := (s67.trans ((s12.trans s13).trans s8)).trans s9
      refine ⟨_, rfl, _, rfl, li, ei, rfl, sL (s69 _ _ hli), fun p10 np10 => ?_⟩
      have s10 := sameNew (o := .lst (cutV ei (some ((1 : Nat) : Int)) none)) np10
      obtain ⟨_, e10, ee, hl10, he10⟩ : LR _ (.ref p10) (I.drop 1) := cutE_from ((hei.mono s69).mono s10) 1 upd_same
      cases ee
      intro x2 dx2 nx2 nd2 ne2
      refine q_WordL (vs := [.ref p10]) (dvs := []) rfl hl10 he10 (fun e he => hI.ok e (List.mem_of_mem_drop he)) (by rw [List.length_drop]; omega) nx2 nd2 ne2 fun H11 s11 hi2 => ⟨rfl, q_addW ((h9.mono s10).mono s11) (hi2.up (Nat.zero_le 1)) (by decide) fun H12 v12 s12' h12' => ⟨_, rfl, ?_⟩⟩
      have s612 := ((s69.trans s10).trans s11).trans s12'
      intro x3 dx3 nx3 nd3 ne3
      refine q_WordL (vs := [.ref p5]) (dvs := []) rfl (s612 _ _ hlo) (heo.mono s612) okO (by omega) nx3 nd3 ne3 fun H13 s13' ho3 => ⟨rfl, q_addW (h12'.mono s13') (ho3.up (Nat.zero_le 1)) (by decide) fun H14 vB s14 hB => ?_⟩
      rw [bentB hM1 (len_ne hIp)] at hB
      exact ⟨vB, (M - 1) * I.length, ec, _, _, rfl, (s612.trans s13').trans s14, hB, by decide, by omega, zB, by rw [if_pos hd]⟩
    · exact noD hd ⟨vA, _, fc, _, _, rfl, Same.refl _, hA, by decide, by omega, zA, by rw [if_neg hd]⟩
  rintro σ H16 ⟨ov, r, z, nn, qq, rfl, s16, hodd, hqq, hr, hzU, er⟩
  have hU := hU.mono s16
  have hli := s16 _ _ hli
  have hlo := s16 _ _ hlo
  have had := s16 _ _ had
  have s0 := s0.trans s16
  clear hA zA zB
  generalize hUU : rp M I ++ (O ++ [fb]) = U at hU hodd hr hzU er hUl
  have hUb : U.length ≤ 10000000000000000000000000000000 := by omega
  have hWU : W * U.length ≤ 2000000000000000000000000000000 * 10000000000000000000000000000000 := Nat.mul_le_mul hWb hUb
  have hSU : S * U.length + U.length ≤ W * U.length := by
    have := Nat.mul_le_mul_right U.length (show S + 1 ≤ W by omega)
    rwa [Nat.add_mul, Nat.one_mul] at this
  have hWS : (W - S - 1) * U.length ≤ W * U.length := Nat.mul_le_mul_right _ (by omega)
  -- whole and bent
  refine ⟨_, rfl, _, rfl, q_mulF hU (by decide) (by omega) fun H20 vW s20 hW => ?_⟩
  refine ⟨_, rfl, _, rfl, q_mulF (hU.mono s20) (by decide) (by omega) fun H21 v21 s21 h21 => ⟨_, rfl, q_addW h21 ((hodd.mono (s20.trans s21)).up (by decide)) (by omega) fun H22 v22 s22 h22 => ⟨_, rfl, _, rfl, _, rfl, nSub (by omega) (nSub (b := 1) (by omega) (q_mulF (hU.mono ((s20.trans s21).trans s22)) (by decide) (by omega) fun H23 v23 s23 h23 => q_addW (h22.mono s23) h23 (by omega) fun H24 vB s24 hB => ?_))⟩⟩⟩
  rw [bent_rep hS hr] at hB
  have s2124 := ((s21.trans s22).trans s23).trans s24
  have s1624 := s20.trans s2124
  have hW := hW.mono s2124
  have hU := hU.mono s1624
  have hli := s1624 _ _ hli
  have hlo := s1624 _ _ hlo
  have had := s1624 _ _ had
  have s0 := s0.trans s1624
  clear h21 h22 h23 hodd
  -- wide, at
  refine ⟨_, rfl, _, rfl, li, ei, rfl, .inl (sL hli), nMul (lim1 (by omega)) (lim1 (by omega)) ⟨_, rfl, p5, eo, rfl, .inl (sL hlo), nAdd ?_⟩⟩
  rw [lei, leo, hOl, ← hUl]
  refine ⟨_, rfl, _, rfl, nMul (lim1 (by omega)) (lim1 (by omega)) ⟨_, rfl, nSub (b := 1) (by omega) ⟨_, rfl, nSub (b := 1) hM1 ⟨_, rfl, li, ei, rfl, .inl (sL hli), nMul (lim1 (by omega)) (lim1 (by omega)) ⟨small2, fun p25 np25 => ?_⟩⟩⟩⟩⟩
  have s25 := sameNew (o := .lst [V.int ((U.length - 1 : Nat) : Int), V.int (((M - 1) * ei.length : Nat) : Int)]) np25
  refine ⟨_, rfl, ad, _, _, _, rfl, rfl, sL (s25 _ _ had), h17, .inl ⟨_, rfl, nMod (b := 2) (by decide) (nEq (b := 0) (.inr ⟨_, rfl, ?_⟩))⟩⟩
  refine ⟨p25, _, (if decide (d17 % 2 = 0) = true then 1 else 0), .int (r : Nat), rfl, rfl, sL upd_same, ?_, nAdd ?_⟩
  · by_cases hd : d17 % 2 = 0
    · rw [decide_eq_true hd, if_pos rfl, er, if_pos hd, ← lei]; rfl
    · rw [decide_eq_false hd, if_neg Bool.false_ne_true, er, if_neg hd]; rfl
  have hW := hW.mono s25
  have hB := hB.mono s25
  have hU := hU.mono s25
  have s0 := s0.trans s25
  generalize upd H24 p25 (.lst [V.int ((U.length - 1 : Nat) : Int), V.int (((M - 1) * ei.length : Nat) : Int)]) = H25 at hW hB hU s0 ⊢
  have hXl : (rp W U).length = W * U.length := rp_len ..
  have hat0 : S * U.length + r < W * U.length := by omega
  generalize S * U.length + r = at' at hat0 hB ⊢
  have hat : at' < (rp W U).length := by omega
  have hzX : z ∉ rp W U := fun h => hzU (mem_rp h)
  have hBl : (bent (rp W U) at' z).length = W * U.length := by rw [bent_len hat, hXl]
  have hUp : 1 ≤ U.length := by omega
  have hne : rp W U ≠ bent (rp W U) at' z := fun e => by
    have := bent_at hat (z := z)
    rw [← e] at this
    exact hzX (List.mem_of_getElem? this)
  obtain ⟨aW, dW, fW, rfl, haW, nW, _⟩ := hW.ref
  obtain ⟨aB, dB, fB, rfl, haB, nB, _⟩ := hB.ref
  -- the lengths, not equal
  refine ⟨_, rfl, aW, dW, fW, rfl, haW, nW, _, _, _, _, _, rfl, hW, _, rfl, _, rfl, nMul (lim1 (by omega)) (lim1 (by omega)) ?_⟩
  rw [hXl]
  refine nNe ⟨_, rfl, no (by rw [decide_eq_true rfl]; rfl) ?_⟩
  refine ⟨_, rfl, aB, dB, fB, rfl, haB, nB, _, _, _, _, _, rfl, hB, _, rfl, aW, dW, fW, rfl, haW, nW, _, _, _, _, _, rfl, hW, ?_⟩
  rw [hBl, hXl]
  refine nNe ⟨_, rfl, no (by rw [decide_eq_true rfl]; rfl) ?_⟩
  refine ⟨_, rfl, _, rfl, aW, dW, fW, aB, dB, fB, rfl, rfl, haW, haB, .ref aW, .ref aB, _, _, _, _, _, _, _, _, rfl, hW, hB, by omega, by omega, by omega, fun H26 s26 => ⟨_, rfl, no (decide_eq_false hne) ?_⟩⟩
  -- where they differ
  refine ⟨_, rfl, _, rfl, .ref aW, .ref aB, _, _, _, _, _, _, _, _, rfl, hW.mono s26, hB.mono s26, by omega, by omega, by omega, fun H27 k s27 hk => ?_⟩
  obtain rfl := (agr_bent hat hzX).uniq hk
  rw [if_neg (fun z => by have := z.1; omega)]
  refine ⟨_, rfl, nNe ⟨_, rfl, no (by rw [decide_eq_true rfl]; rfl) ?_⟩⟩
  have s27' := s26.trans s27
  refine ⟨_, rfl, _, rfl, nAdd (b := 1) ⟨_, rfl, _, rfl, nAdd (b := 1) ⟨.ref aB, .ref aW, _, _, _, _, _, _, _, _, at' + 1, at' + 1, rfl, hB.mono s27', hW.mono s27', by omega, by omega, by omega, by omega, by omega, fun H28 k s28 hk => ?_⟩⟩⟩
  rw [bent_drop hat] at hk
  obtain rfl := (agr_refl _ _).uniq hk
  refine ⟨_, rfl, _, rfl, nMul (lim1 (by omega)) (lim1 (by omega)) ⟨_, rfl, nSub (by omega) (nSub (b := 1) (by omega) ?_)⟩⟩
  rw [hBl, hXl, show min (W * U.length - (at' + 1)) (W * U.length - (at' + 1)) = W * U.length - at' - 1 by omega]
  refine nNe ⟨_, rfl, no (by rw [decide_eq_true rfl]; rfl) ?_⟩
  have s28' := s27'.trans s28
  have hW := hW.mono s28'
  have hB := hB.mono s28'
  have hU := hU.mono s28'
  have haW := s28' _ _ haW
  have haB := s28' _ _ haB
  have s0 := s0.trans s28'
  -- single entries
  have g1 : (rp W U)[at']? = some ((rp W U)[at']'hat) := List.getElem?_eq_getElem hat
  have hUne : U ≠ [] := len_ne hUp
  have hml : at' % U.length < U.length := Nat.mod_lt _ (by omega)
  have g2 : (rp W U)[at' % U.length]? = some ((rp W U)[at']'hat) := by
    rw [← g1, rp_get hUne W at' (by omega), rp_get hUne W _ (by have := Nat.mod_le at' U.length; omega), Nat.mod_mod]
  generalize (rp W U)[at']'hat = e1 at g1 g2
  have hz1 : z ≠ e1 := fun h => hzX (by rw [h]; exact List.mem_of_getElem? g1)
  refine ⟨_, rfl, _, rfl, aW, dW, fW, _, rfl, rfl, haW, .ref aW, _, _, _, _, at', e1, rfl, hW, g1, by omega, fun H29 v29 s29 h29 => ⟨_, rfl, _, rfl, .inl ⟨_, rfl, _, rfl, nMod (by omega) ⟨aW, dW, fW, _, rfl, rfl, s29 _ _ haW, .ref aW, _, _, _, _, at' % U.length, e1, rfl, hW.mono s29, g2, by omega, fun H30 v30 s30 h30 => ?_⟩⟩⟩⟩
  refine ⟨_, _, dp_ent (h29.mono s30), dp_ent h30, ent_shaped h29.1, ent_shaped h30.1, true, ?_, iteT ?_⟩
  · rw [eqv_ent, decide_eq_true rfl]
  have s30' := s29.trans s30
  refine ⟨_, rfl, _, rfl, aB, dB, fB, _, rfl, rfl, s30' _ _ haB, .ref aB, _, _, _, _, at', z, rfl, hB.mono s30', bent_at hat, by omega, fun H31 v31 s31 h31 => ⟨_, rfl, _, rfl, aW, dW, fW, _, rfl, rfl, s31 _ _ (s30' _ _ haW), .ref aW, _, _, _, _, at', e1, rfl, (hW.mono s30').mono s31, g1, by omega, fun H32 v32 s32 h32 => ?_⟩⟩
  refine ⟨_, _, dp_ent (h31.mono s32), dp_ent h32, ent_shaped h31.1, ent_shaped h32.1, true, ?_, iteT ?_⟩
  · rw [eqv_ent, decide_eq_false hz1]; rfl
  have s32' := (s30'.trans s31).trans s32
  have hW1U : (W - 1) * U.length ≤ W * U.length := Nat.mul_le_mul_right _ (by omega)
  refine ⟨_, rfl, _, rfl, _, rfl, nSub (b := 1) (by omega) (q_mulF (hU.mono s32') (by decide) (by omega) fun H33 v33 s33 h33 => ⟨_, rfl, q_addW h33 (((hU.mono s32').mono s33).up (by decide)) (by decide) fun H34 v34 s34 h34 => ?_⟩)⟩
  rw [rp_last (by omega)] at h34
  obtain ⟨aV, dV, fV, rfl, haV, _⟩ := h34.ref
  have s34' := (s32'.trans s33).trans s34
  refine ⟨aW, dW, fW, aV, dV, fV, rfl, rfl, s34' _ _ haW, haV, .ref aW, .ref aV, _, _, _, _, _, _, _, _, rfl, hW.mono s34', h34, by omega, by omega, by omega, fun H35 s35 => ?_⟩
  rw [decide_eq_true rfl]
  exact q H35 ((s0.trans s34').trans s35)
theorem p_law (T : Txt g mg) {n : Nat} (hn : 20 ≤ n) (h : spLaw g vs H Q E) : t_law g n (EndQ Q) (start N_law vs) H := by
  obtain ⟨a, ns, rfl, hl, hns, q⟩ := h
  refine ⟨_, rfl, a, _, rfl, .inl hl, iAdd ?_⟩
  rw [List.length_map, show (1 : Int) + ((ns.length : Nat) : Int) = ((1 + ns.length : Nat) : Int) by omega]
  refine nMin2 (a := 3) ⟨_, rfl, by omega, by omega, ?_⟩
  refine for_range (lo := 0) (fun i σ H' => ∃ x1 x2 : Option V, σ = [some (.ref a), x1, x2] ∧ Same H H') ⟨_, _, rfl, Same.refl H⟩ ?_ ?_
  · rintro i σ H1 hi ⟨x1, x2, rfl, s1⟩
    rw [show (0 : Int) + ((i : Nat) : Int) = ((i : Nat) : Int) by omega]
    refine ⟨_, rfl, _, rfl, a, ns, i, rfl, SqL.same s1 hl, fun c => ⟨c, 60, rfl, by decide, fun H2 v ds s2 hds hdl hdb => ?_⟩⟩
    refine ⟨_, rfl, v, ds, rfl, hds, by omega, hdb, fun H3 s3 => ⟨true, rfl, iteF ?_⟩⟩
    obtain ⟨ad, rfl, had⟩ := hds
    refine ⟨_, rfl, _, rfl, ad, _, rfl, sL (s3 _ _ had), fun p np => ?_⟩
    rw [show cutV (natsV ds) (some 30) none = natsV (ds.drop 30) from cut1 ds 30]
    refine ⟨.ref p, ds.drop 30, rfl, ⟨p, rfl, upd_same⟩, by rw [List.length_drop]; omega, fun x hx => hdb x (List.mem_of_mem_drop hx), fun H4 s4 => ⟨true, rfl, iteF ?_⟩⟩
    exact ⟨_, _, rfl, (((s1.trans s2).trans s3).trans (sameNew np)).trans s4⟩
  · rintro σ H1 ⟨x1, x2, rfl, s1⟩
    exact q H1
end
end RH
set_option exponentiation.threshold 256
set_option Elab.async false
set_option linter.all false
set_option maxRecDepth 100000
set_option maxHeartbeats 4000000
set_option exponentiation.threshold 100
namespace RH
open PySem PySem.Spec PyProof.Rows L2
section
variable {P : Program} {w : World} {mg : Str → Option Value} {base : Heap} {g : G}
theorem law_ok (T : Txt g mg)
    (F_is_integer : FnF g.K mg "is_integer" "is_integer" s_is_integer P_is_integer)
    (F_is_between : FnF g.K mg "is_between" "is_between" s_is_between P_is_between)
    (F_is_name : FnF g.K mg "is_name" "is_name" s_is_name P_is_name)
    (F_is_entry : FnF g.K mg "is_entry" "is_entry" s_is_entry P_is_entry)
    (F_Part_init : MkD g.K mg "Part" g.part "Part.__init__" s_Part_init P_Part_init [.non])
    (F_joined : FnF g.K mg "joined" "joined" s_joined P_joined)
    (F_repeated : FnF g.K mg "repeated" "repeated" s_repeated P_repeated)
    (F_width : FnF g.K mg "width" "width" s_width P_width)
    (F_opened : FnF g.K mg "opened" "opened" s_opened P_opened)
    (F_first_unit : FnF g.K mg "first_unit" "first_unit" s_first_unit P_first_unit)
    (F_behind : FnF g.K mg "behind" "behind" s_behind P_behind)
    (F_part_of : FnF g.K mg "part_of" "part_of" s_part_of P_part_of)
    (F_rotated : FnF g.K mg "rotated" "rotated" s_rotated P_rotated)
    (F_gone_by : FnF g.K mg "gone_by" "gone_by" s_gone_by P_gone_by)
    (F_alike_ahead : FnF g.K mg "alike_ahead" "alike_ahead" s_alike_ahead P_alike_ahead)
    (F_run_ahead : FnF g.K mg "run_ahead" "run_ahead" s_run_ahead P_run_ahead)
    (F_agreement : FnF g.K mg "agreement" "agreement" s_agreement P_agreement)
    (F_alike_for : FnF g.K mg "alike_for" "alike_for" s_alike_for P_alike_for)
    (F_check_index : FnF g.K mg "check_index" "check_index" s_check_index P_check_index)
    (F_Made_init : MkD g.K mg "Made" g.made "Made.__init__" s_Made_init P_Made_init [.int 1])
    (F_Word_init : MkF g.K mg "Word" g.word "Word.__init__" s_Word_init P_Word_init)
    (F_Word_add : MtF g.K g.word "__add__" (PySem.dunder (Operator.info .Add).2) "Word.__add__" s_Word_add P_Word_add)
    (F_Word_mul : MtF g.K g.word "__mul__" (PySem.dunder (Operator.info .Mult).2) "Word.__mul__" s_Word_mul P_Word_mul)
    (F_length : MtF g.K g.word "length" "length" "Word.length" s_length P_length)
    (F_agreeing : FnF g.K mg "agreeing" "agreeing" s_agreeing P_agreeing)
    (F_cell : FnF g.K mg "_law_cell" "_law_cell" s_cell P_cell)
    (F_digits : FnF g.K mg "_law_digits" "_law_digits" s_digits P_digits)
    (F_entry : FnF g.K mg "_law_entry" "_law_entry" s_entry P_entry)
    (F_row : FnF g.K mg "_law_row" "_law_row" s_row P_row)
    (F_cut : MtF g.K g.word "cut" "cut" "Word.cut" s_cut P_cut)
    (F_entries : MtF g.K g.word "entries" "entries" "Word.entries" s_entries P_entries)
    (F_getitem : MtF g.K g.word "__getitem__" "__getitem__" "Word.__getitem__" s_getitem P_getitem)
    (F_Word_eq : MtF g.K g.word "__eq__" "__eq__" "Word.__eq__" s_Word_eq P_Word_eq)
    (F_first_difference : FnF g.K mg "first_difference" "first_difference" s_first_difference P_first_difference)
    (F_alike : FnF g.K mg "_law_alike" "_law_alike" s_alike P_alike)
    (F_far_right : FnF g.K mg "_law_far_right" "_law_far_right" s_far_right P_far_right)
    (F_nested_right : FnF g.K mg "_law_nested_right" "_law_nested_right" s_nested_right P_nested_right)
    {f_law : Addr} {fd_law : FuncData} (F_law : Fun g.K "law" "law" s_law f_law fd_law) : FnOk P w g.K mg base CX0 (12 + 2 * 20) f_law fd_law P_law (spLaw g) := by
  have h_is_integer : Cl P w g.K mg base 1 "is_integer" spIsInteger [] := fnf_of F_is_integer sc_is_integer (fun vs H Q E h => by unfold spIsInteger at h; repeat (first | (obtain ⟨e, _⟩ := h; subst e; rfl) | (obtain ⟨_, h⟩ := h))) (fun cdv A outer s H vs Q E hr h => ⟨_, d_is_integer T hr, by first | exact p_is_integer T h | exact p_is_integer h⟩)
  have h_is_between : Cl P w g.K mg base 2 "is_between" spIsBetween [] := fnf_of F_is_between sc_is_between (fun vs H Q E h => by unfold spIsBetween at h; repeat (first | (obtain ⟨e, _⟩ := h; subst e; rfl) | (obtain ⟨_, h⟩ := h))) (fun cdv A outer s H vs Q E hr h => ⟨_, d_is_between T hr h_is_integer, by first | exact p_is_between T h | exact p_is_between h⟩)
  have h_is_name : Cl P w g.K mg base 1 "is_name" spIsName [] := fnf_of F_is_name sc_is_name (fun vs H Q E h => by rcases h with ⟨x, rfl, _⟩ | ⟨rfl, _⟩ <;> rfl) (fun cdv A outer s H vs Q E hr h => ⟨_, d_is_name T hr, by first | exact p_is_name T h | exact p_is_name h⟩)
  have h_is_entry : Cl P w g.K mg base 2 "is_entry" spIsEntry [] := fnf_of F_is_entry sc_is_entry (fun vs H Q E h => by unfold spIsEntry at h; repeat (first | (obtain ⟨e, _⟩ := h; subst e; rfl) | (obtain ⟨_, h⟩ := h))) (fun cdv A outer s H vs Q E hr h => ⟨_, d_is_entry T hr h_is_name, by first | exact p_is_entry T h | exact p_is_entry h⟩)
  have o_Part_init := mkd_of (P := P) (w := w) (base := base) F_Part_init sc_Part_init (sp := (spPartInit g)) (fun vs H Q E h => by unfold spPartInit at h; repeat (first | (obtain ⟨e, _⟩ := h; subst e; rfl) | (obtain ⟨_, h⟩ := h))) (fun cdv A outer s H vs Q E hr h => ⟨_, d_Part_init T hr, by first | exact p_Part_init T h | exact p_Part_init h⟩)
  have h_Part : Mkl P w g.K mg base 1 "Part" g.part (spPartInit g) [] := o_Part_init.1
  have h_Part_d : Mkl P w g.K mg base 1 "Part" g.part (spPartInit g) [.non] := o_Part_init.2
  have h_joined : Cl P w g.K mg base 3 "joined" (spJoined g) [] := fnf_of F_joined sc_joined (fun vs H Q E h => by unfold spJoined at h; repeat (first | (obtain ⟨e, _⟩ := h; subst e; rfl) | (obtain ⟨_, h⟩ := h))) (fun cdv A outer s H vs Q E hr h => ⟨_, d_joined T hr h_Part_d, by first | exact p_joined T h | exact p_joined h⟩)
  have h_repeated : Cl P w g.K mg base 3 "repeated" (spRepeated g) [] := fnf_of F_repeated sc_repeated (fun vs H Q E h => by unfold spRepeated at h; repeat (first | (obtain ⟨e, _⟩ := h; subst e; rfl) | (obtain ⟨_, h⟩ := h))) (fun cdv A outer s H vs Q E hr h => ⟨_, d_repeated T hr h_Part_d, by first | exact p_repeated T h | exact p_repeated h⟩)
  have h_width : Cl P w g.K mg base 1 "width" (spWidth g) [] := fnf_of F_width sc_width (fun vs H Q E h => by unfold spWidth at h; repeat (first | (obtain ⟨e, _⟩ := h; subst e; rfl) | (obtain ⟨_, h⟩ := h))) (fun cdv A outer s H vs Q E hr h => ⟨_, d_width T hr, by first | exact p_width T h | exact p_width h⟩)
  have h_opened : Cl P w g.K mg base 1 "opened" (spOpened g) [] := fnf_of F_opened sc_opened (fun vs H Q E h => by unfold spOpened at h; repeat (first | (obtain ⟨e, _⟩ := h; subst e; rfl) | (obtain ⟨_, h⟩ := h))) (fun cdv A outer s H vs Q E hr h => ⟨_, d_opened T hr, by first | exact p_opened T h | exact p_opened h⟩)
  have h_first_unit : Cl P w g.K mg base 2 "first_unit" (spFirstUnit g) [] := fnf_of F_first_unit sc_first_unit (fun vs H Q E h => by unfold spFirstUnit at h; repeat (first | (obtain ⟨e, _⟩ := h; subst e; rfl) | (obtain ⟨_, h⟩ := h))) (fun cdv A outer s H vs Q E hr h => ⟨_, d_first_unit T hr h_opened, by first | exact p_first_unit T h | exact p_first_unit h⟩)
  have h_behind : Cl P w g.K mg base 2 "behind" (spBehind g) [] := fnf_of F_behind sc_behind (fun vs H Q E h => by unfold spBehind at h; repeat (first | (obtain ⟨e, _⟩ := h; subst e; rfl) | (obtain ⟨_, h⟩ := h))) (fun cdv A outer s H vs Q E hr h => ⟨_, d_behind T hr h_width h_opened, by first | exact p_behind T h | exact p_behind h⟩)
  have h_part_of : Cl P w g.K mg base 4 "part_of" (spPartOf g) [] := fnf_of F_part_of sc_part_of (fun vs H Q E h => by unfold spPartOf at h; repeat (first | (obtain ⟨e, _⟩ := h; subst e; rfl) | (obtain ⟨_, h⟩ := h))) (fun cdv A outer s H vs Q E hr h => ⟨_, d_part_of T hr h_opened h_width h_repeated h_joined h_Part_d, by first | exact p_part_of T h | exact p_part_of h⟩)
  have h_rotated : Cl P w g.K mg base 5 "rotated" (spRotated g) [] := fnf_of F_rotated sc_rotated (fun vs H Q E h => by unfold spRotated at h; repeat (first | (obtain ⟨e, _⟩ := h; subst e; rfl) | (obtain ⟨_, h⟩ := h))) (fun cdv A outer s H vs Q E hr h => ⟨_, d_rotated T hr h_Part h_part_of h_behind h_joined, by first | exact p_rotated T h | exact p_rotated h⟩)
  have h_gone_by : Cl P w g.K mg base 6 "gone_by" (spGoneBy g) [] := fnf_of F_gone_by sc_gone_by (fun vs H Q E h => by unfold spGoneBy at h; repeat (first | (obtain ⟨e, _⟩ := h; subst e; rfl) | (obtain ⟨_, h⟩ := h))) (fun cdv A outer s H vs Q E hr h => ⟨_, d_gone_by T hr h_width h_opened h_rotated h_behind h_part_of, by first | exact p_gone_by T h | exact p_gone_by h⟩)

  have h_run_ahead : Cl P w g.K mg base 3 "run_ahead" (spRunAhead g) [] := fnf_of F_run_ahead sc_run_ahead (fun vs H Q E h => by unfold spRunAhead at h; repeat (first | (obtain ⟨e, _⟩ := h; subst e; rfl) | (obtain ⟨_, h⟩ := h))) (fun cdv A outer s H vs Q E hr h => ⟨_, d_run_ahead T hr h_first_unit, by first | exact p_run_ahead T h | exact p_run_ahead h⟩)
  have h_agr : ∀ n, Cl P w g.K mg base (7 + 2 * (n)) "alike_for" (spAlikeFor g (n)) [] → Cl P w g.K mg base (7 + 2 * (n)) "alike_ahead" (spAlikeAhead g (n)) [] → Cl P w g.K mg base (8 + 2 * (n)) "agreement" (spAgreement g (n)) [] := fun n h_alike_for h_alike_ahead =>
    (fnf_of F_agreement sc_agreement (fun vs H Q E h => by unfold spAgreement at h; repeat (first | (obtain ⟨e, _⟩ := h; subst e; rfl) | (obtain ⟨_, h⟩ := h))) (fun cdv A outer s H vs Q E hr h => ⟨_, d_agreement (n := n) T hr h_gone_by h_alike_ahead h_run_ahead h_width h_alike_for h_first_unit, by first | exact p_agreement T h | exact p_agreement h⟩)).mono (by omega)
  have h_rec : ∀ n, Cl P w g.K mg base (7 + 2 * (n)) "alike_for" (spAlikeFor g (n)) [] ∧ Cl P w g.K mg base (7 + 2 * (n)) "alike_ahead" (spAlikeAhead g (n)) [] ∧ Cl P w g.K mg base (8 + 2 * (n)) "agreement" (spAgreement g (n)) [] := by
    intro n
    induction n with
    | zero =>
      have a : Cl P w g.K mg base (7 + 2 * (0)) "alike_for" (spAlikeFor g (0)) [] := (fnf_of (k := 6) F_alike_for sc_alike_for (fun vs H Q E h => (no_alike_for h).elim) (fun _ _ _ _ _ _ _ _ _ h => (no_alike_for h).elim)).mono (by omega)
      have b : Cl P w g.K mg base (7 + 2 * (0)) "alike_ahead" (spAlikeAhead g (0)) [] := (fnf_of (k := 6) F_alike_ahead sc_alike_ahead (fun vs H Q E h => (no_alike_ahead h).elim) (fun _ _ _ _ _ _ _ _ _ h => (no_alike_ahead h).elim)).mono (by omega)
      exact ⟨a, b, h_agr 0 a b⟩
    | succ n ih =>
      obtain ⟨_, _, h_agreement⟩ := ih
      have a : Cl P w g.K mg base (7 + 2 * (n + 1)) "alike_for" (spAlikeFor g (n + 1)) [] := (fnf_of F_alike_for sc_alike_for (fun vs H Q E h => by unfold spAlikeFor at h; repeat (first | (obtain ⟨e, _⟩ := h; subst e; rfl) | (obtain ⟨_, h⟩ := h))) (fun cdv A outer s H vs Q E hr h => ⟨_, d_alike_for (n := n) T hr h_opened h_agreement, by first | exact p_alike_for T h | exact p_alike_for h⟩)).mono (by omega)
      have b : Cl P w g.K mg base (7 + 2 * (n + 1)) "alike_ahead" (spAlikeAhead g (n + 1)) [] := (fnf_of F_alike_ahead sc_alike_ahead (fun vs H Q E h => by unfold spAlikeAhead at h; repeat (first | (obtain ⟨e, _⟩ := h; subst e; rfl) | (obtain ⟨_, h⟩ := h))) (fun cdv A outer s H vs Q E hr h => ⟨_, d_alike_ahead (n := n) T hr h_opened h_agreement, by first | exact p_alike_ahead T h | exact p_alike_ahead h⟩)).mono (by omega)
      exact ⟨a, b, h_agr (n + 1) a b⟩
  obtain ⟨h_alike_for, h_alike_ahead, h_agreement⟩ := h_rec 20

  have h_check_index : Cl P w g.K mg base 3 "check_index" spCheckIndex [] := fnf_of F_check_index sc_check_index (fun vs H Q E h => by unfold spCheckIndex at h; repeat (first | (obtain ⟨e, _⟩ := h; subst e; rfl) | (obtain ⟨_, h⟩ := h))) (fun cdv A outer s H vs Q E hr h => ⟨_, d_check_index T hr h_is_between, by first | exact p_check_index T h | exact p_check_index h⟩)
  have o_Made_init := mkd_of (P := P) (w := w) (base := base) F_Made_init sc_Made_init (sp := (spMadeInit g)) (fun vs H Q E h => by unfold spMadeInit at h; repeat (first | (obtain ⟨e, _⟩ := h; subst e; rfl) | (obtain ⟨_, h⟩ := h))) (fun cdv A outer s H vs Q E hr h => ⟨_, d_Made_init T hr, by first | exact p_Made_init T h | exact p_Made_init h⟩)
  have h_Made : Mkl P w g.K mg base 1 "Made" g.made (spMadeInit g) [] := o_Made_init.1
  have h_Word : Mkl P w g.K mg base 4 "Word" g.word (spWordInit g) [] := mkf_of F_Word_init sc_Word_init (fun vs H Q E h => by rcases h with ⟨a, dx, b, dy, p, n, q, rfl, _⟩ | ⟨a, dx, l, es, w, rfl, _⟩ <;> rfl) (fun cdv A outer s H vs Q E hr h => ⟨_, d_Word_init T hr h_Part_d h_joined h_is_entry, by first | exact p_Word_init T h | exact p_Word_init h⟩)
  have h_Word_add : Mtl P w g.K mg base 6 g.word (PySem.dunder (Operator.info .Add).2) (spWordAdd g) := mtf_of F_Word_add sc_Word_add (fun vs H Q E h => by unfold spWordAdd at h; repeat (first | (obtain ⟨e, _⟩ := h; subst e; rfl) | (obtain ⟨_, h⟩ := h))) (fun cdv A outer s H vs Q E hr h => ⟨_, d_Word_add T hr h_joined h_Made h_Word, by first | exact p_Word_add T h | exact p_Word_add h⟩)
  have h_Word_mul : Mtl P w g.K mg base 6 g.word (PySem.dunder (Operator.info .Mult).2) (spWordMul g) := mtf_of F_Word_mul sc_Word_mul (fun vs H Q E h => by unfold spWordMul at h; repeat (first | (obtain ⟨e, _⟩ := h; subst e; rfl) | (obtain ⟨_, h⟩ := h))) (fun cdv A outer s H vs Q E hr h => ⟨_, d_Word_mul T hr h_repeated h_Made h_Word h_is_between, by first | exact p_Word_mul T h | exact p_Word_mul h⟩)
  have h_length : Mtl P w g.K mg base 1 g.word "length" (spLength g) := mtf_of F_length sc_length (fun vs H Q E h => by unfold spLength at h; repeat (first | (obtain ⟨e, _⟩ := h; subst e; rfl) | (obtain ⟨_, h⟩ := h))) (fun cdv A outer s H vs Q E hr h => ⟨_, d_length T hr, by first | exact p_length T h | exact p_length h⟩)
  have h_agreeing : Cl P w g.K mg base (9 + 2 * 20) "agreeing" (spAgreeing g 20) [] := fnf_of F_agreeing sc_agreeing (fun vs H Q E h => by unfold spAgreeing at h; repeat (first | (obtain ⟨e, _⟩ := h; subst e; rfl) | (obtain ⟨_, h⟩ := h))) (fun cdv A outer s H vs Q E hr h => ⟨_, d_agreeing (n := 20) T hr h_behind h_agreement h_length h_check_index, by first | exact p_agreeing T h | exact p_agreeing h⟩)
  have h_cell : Cl P w g.K mg base 1 "_law_cell" (spCell g) [] := fnf_of F_cell sc_cell (fun vs H Q E h => by unfold spCell at h; repeat (first | (obtain ⟨e, _⟩ := h; subst e; rfl) | (obtain ⟨_, h⟩ := h))) (fun cdv A outer s H vs Q E hr h => ⟨_, d_cell T hr, by first | exact p_cell T h | exact p_cell h⟩)
  have h_digits : Cl P w g.K mg base 1 "_law_digits" spDigits [] := fnf_of F_digits sc_digits (fun vs H Q E h => by unfold spDigits at h; repeat (first | (obtain ⟨e, _⟩ := h; subst e; rfl) | (obtain ⟨_, h⟩ := h))) (fun cdv A outer s H vs Q E hr h => ⟨_, d_digits T hr, by first | exact p_digits T h | exact p_digits h⟩)
  have h_entry : Cl P w g.K mg base 1 "_law_entry" spEntry [] := fnf_of F_entry sc_entry (fun vs H Q E h => by unfold spEntry at h; repeat (first | (obtain ⟨e, _⟩ := h; subst e; rfl) | (obtain ⟨_, h⟩ := h))) (fun cdv A outer s H vs Q E hr h => ⟨_, d_entry T hr, by first | exact p_entry T h | exact p_entry h⟩)
  have h_row : Cl P w g.K mg base 2 "_law_row" spRow [] := fnf_of F_row sc_row (fun vs H Q E h => by unfold spRow at h; repeat (first | (obtain ⟨e, _⟩ := h; subst e; rfl) | (obtain ⟨_, h⟩ := h))) (fun cdv A outer s H vs Q E hr h => ⟨_, d_row T hr h_entry, by first | exact p_row T h | exact p_row h⟩)
  have h_cut : Mtl P w g.K mg base 6 g.word "cut" (spCut g) := mtf_of F_cut sc_cut (fun vs H Q E h => by unfold spCut at h; repeat (first | (obtain ⟨e, _⟩ := h; subst e; rfl) | (obtain ⟨_, h⟩ := h))) (fun cdv A outer s H vs Q E hr h => ⟨_, d_cut T hr h_behind h_part_of h_Made h_Word h_check_index, by first | exact p_cut T h | exact p_cut h⟩)
  have h_entries : Mtl P w g.K mg base 4 g.word "entries" (spEntries g) := mtf_of F_entries sc_entries (fun vs H Q E h => by unfold spEntries at h; repeat (first | (obtain ⟨e, _⟩ := h; subst e; rfl) | (obtain ⟨_, h⟩ := h))) (fun cdv A outer s H vs Q E hr h => ⟨_, d_entries T hr h_opened h_first_unit h_behind h_check_index, by first | exact p_entries T h | exact p_entries h⟩)
  have h_getitem : Gtl P w g.K mg base 5 g.word (spGetItem g) := gtf_of F_getitem sc_getitem (fun vs H Q E h => by unfold spGetItem at h; repeat (first | (obtain ⟨e, _⟩ := h; subst e; rfl) | (obtain ⟨_, h⟩ := h))) (fun cdv A outer s H vs Q E hr h => ⟨_, d_getitem T hr h_entries h_check_index, by first | exact p_getitem T h | exact p_getitem h⟩)
  have h_Word_eq : Mtl P w g.K mg base (9 + 2 * 20) g.word "__eq__" (spWordEq g 20) := mtf_of F_Word_eq sc_Word_eq (fun vs H Q E h => by unfold spWordEq at h; repeat (first | (obtain ⟨e, _⟩ := h; subst e; rfl) | (obtain ⟨_, h⟩ := h))) (fun cdv A outer s H vs Q E hr h => ⟨_, d_Word_eq (n := 20) T hr h_agreement, by first | exact p_Word_eq T h | exact p_Word_eq h⟩)
  have h_first_difference : Cl P w g.K mg base (10 + 2 * 20) "first_difference" (spFirstDiff g 20) [] := fnf_of F_first_difference sc_first_difference (fun vs H Q E h => by unfold spFirstDiff at h; repeat (first | (obtain ⟨e, _⟩ := h; subst e; rfl) | (obtain ⟨_, h⟩ := h))) (fun cdv A outer s H vs Q E hr h => ⟨_, d_first_difference (n := 20) T hr h_length h_agreeing, by first | exact p_first_difference T h | exact p_first_difference h⟩)
  have h_alike : Cl P w g.K mg base 1 "_law_alike" spAlike [] := fnf_of F_alike sc_alike (fun vs H Q E h => by unfold spAlike at h; repeat (first | (obtain ⟨e, _⟩ := h; subst e; rfl) | (obtain ⟨_, h⟩ := h))) (fun cdv A outer s H vs Q E hr h => ⟨_, d_alike T hr, by first | exact p_alike T h | exact p_alike h⟩)
  have h_far_right : Cl P w g.K mg base (11 + 2 * 20) "_law_far_right" spFarRight [] := fnf_of F_far_right sc_far_right (fun vs H Q E h => by unfold spFarRight at h; repeat (first | (obtain ⟨e, _⟩ := h; subst e; rfl) | (obtain ⟨_, h⟩ := h))) (fun cdv A outer s H vs Q E hr h => ⟨_, d_far_right (n := 20) T hr h_Word_eq h_first_difference h_agreeing h_alike h_Word_add h_Word h_Word_mul h_row, by exact p_far_right T (by decide) h⟩)
  have h_nested_right : Cl P w g.K mg base (11 + 2 * 20) "_law_nested_right" spNestedRight [] := fnf_of F_nested_right sc_nested_right (fun vs H Q E h => by unfold spNestedRight at h; repeat (first | (obtain ⟨e, _⟩ := h; subst e; rfl) | (obtain ⟨_, h⟩ := h))) (fun cdv A outer s H vs Q E hr h => ⟨_, d_nested_right (n := 20) T hr h_Word_eq h_Word_add h_Word_mul h_getitem h_agreeing h_first_difference h_length h_Word h_row, by exact p_nested_right T (by decide) h⟩)
  exact F_law.ok sc_law (fun vs H Q E h => by obtain ⟨a, ns, rfl, _⟩ := h; rfl) (fun cdv A outer s H vs Q E hr h => ⟨_, d_law (n := 20) T hr h_nested_right h_far_right h_cell h_digits, by exact p_law T (by decide) h⟩)
end
theorem all_mk {P : Program} {w : World} {K : PySem.W.Frag} {h : Heap} {mg : Str → Option Value} {fa : Addr}
    {cPart cMade cWord kinds : Addr}
    {u_LETTERS : Value}
    {u_MOST_LETTERS : Value}
    {u_MOST_IN_ROW : Value}
    {u_MOST_DEPTH : Value}
    {u_MOST_PIECES : Value}
    {u_MOST_TOLD : Value}
    {o_kinds : Obj} {it_kinds : Array Value} {n_kinds : Nat}
    {f_is_integer : Addr} {oc_is_integer kV_is_integer dc_is_integer pm_is_integer cd_is_integer ct_is_integer : Value} {od_is_integer an_is_integer : Option Addr} {sl_is_integer : Array (Option Value)}
    {f_is_between : Addr} {oc_is_between kV_is_between dc_is_between pm_is_between cd_is_between ct_is_between : Value} {od_is_between an_is_between : Option Addr} {sl_is_between : Array (Option Value)}
    {f_is_name : Addr} {oc_is_name kV_is_name dc_is_name pm_is_name cd_is_name ct_is_name : Value} {od_is_name an_is_name : Option Addr} {sl_is_name : Array (Option Value)}
    {f_is_entry : Addr} {oc_is_entry kV_is_entry dc_is_entry pm_is_entry cd_is_entry ct_is_entry : Value} {od_is_entry an_is_entry : Option Addr} {sl_is_entry : Array (Option Value)}
    {f_Part_init : Addr} {oc_Part_init kV_Part_init dc_Part_init pm_Part_init cd_Part_init ct_Part_init : Value} {od_Part_init an_Part_init : Option Addr} {sl_Part_init : Array (Option Value)}
    {T_Part_init : Addr} {oT_Part_init : Obj} {iT_Part_init : List Value} {nT_Part_init : Nat}
    {f_joined : Addr} {oc_joined kV_joined dc_joined pm_joined cd_joined ct_joined : Value} {od_joined an_joined : Option Addr} {sl_joined : Array (Option Value)}
    {f_repeated : Addr} {oc_repeated kV_repeated dc_repeated pm_repeated cd_repeated ct_repeated : Value} {od_repeated an_repeated : Option Addr} {sl_repeated : Array (Option Value)}
    {f_width : Addr} {oc_width kV_width dc_width pm_width cd_width ct_width : Value} {od_width an_width : Option Addr} {sl_width : Array (Option Value)}
    {f_opened : Addr} {oc_opened kV_opened dc_opened pm_opened cd_opened ct_opened : Value} {od_opened an_opened : Option Addr} {sl_opened : Array (Option Value)}
    {f_first_unit : Addr} {oc_first_unit kV_first_unit dc_first_unit pm_first_unit cd_first_unit ct_first_unit : Value} {od_first_unit an_first_unit : Option Addr} {sl_first_unit : Array (Option Value)}
    {f_behind : Addr} {oc_behind kV_behind dc_behind pm_behind cd_behind ct_behind : Value} {od_behind an_behind : Option Addr} {sl_behind : Array (Option Value)}
    {f_part_of : Addr} {oc_part_of kV_part_of dc_part_of pm_part_of cd_part_of ct_part_of : Value} {od_part_of an_part_of : Option Addr} {sl_part_of : Array (Option Value)}
    {f_rotated : Addr} {oc_rotated kV_rotated dc_rotated pm_rotated cd_rotated ct_rotated : Value} {od_rotated an_rotated : Option Addr} {sl_rotated : Array (Option Value)}
    {f_gone_by : Addr} {oc_gone_by kV_gone_by dc_gone_by pm_gone_by cd_gone_by ct_gone_by : Value} {od_gone_by an_gone_by : Option Addr} {sl_gone_by : Array (Option Value)}
    {f_alike_ahead : Addr} {oc_alike_ahead kV_alike_ahead dc_alike_ahead pm_alike_ahead cd_alike_ahead ct_alike_ahead : Value} {od_alike_ahead an_alike_ahead : Option Addr} {sl_alike_ahead : Array (Option Value)}
    {f_run_ahead : Addr} {oc_run_ahead kV_run_ahead dc_run_ahead pm_run_ahead cd_run_ahead ct_run_ahead : Value} {od_run_ahead an_run_ahead : Option Addr} {sl_run_ahead : Array (Option Value)}
    {f_agreement : Addr} {oc_agreement kV_agreement dc_agreement pm_agreement cd_agreement ct_agreement : Value} {od_agreement an_agreement : Option Addr} {sl_agreement : Array (Option Value)}
    {f_alike_for : Addr} {oc_alike_for kV_alike_for dc_alike_for pm_alike_for cd_alike_for ct_alike_for : Value} {od_alike_for an_alike_for : Option Addr} {sl_alike_for : Array (Option Value)}
    {f_check_index : Addr} {oc_check_index kV_check_index dc_check_index pm_check_index cd_check_index ct_check_index : Value} {od_check_index an_check_index : Option Addr} {sl_check_index : Array (Option Value)}
    {f_Made_init : Addr} {oc_Made_init kV_Made_init dc_Made_init pm_Made_init cd_Made_init ct_Made_init : Value} {od_Made_init an_Made_init : Option Addr} {sl_Made_init : Array (Option Value)}
    {T_Made_init : Addr} {oT_Made_init : Obj} {iT_Made_init : List Value} {nT_Made_init : Nat}
    {f_Word_init : Addr} {oc_Word_init kV_Word_init dc_Word_init pm_Word_init cd_Word_init ct_Word_init : Value} {od_Word_init an_Word_init : Option Addr} {sl_Word_init : Array (Option Value)}
    {f_Word_add : Addr} {oc_Word_add kV_Word_add dc_Word_add pm_Word_add cd_Word_add ct_Word_add : Value} {od_Word_add an_Word_add : Option Addr} {sl_Word_add : Array (Option Value)}
    {f_Word_mul : Addr} {oc_Word_mul kV_Word_mul dc_Word_mul pm_Word_mul cd_Word_mul ct_Word_mul : Value} {od_Word_mul an_Word_mul : Option Addr} {sl_Word_mul : Array (Option Value)}
    {f_length : Addr} {oc_length kV_length dc_length pm_length cd_length ct_length : Value} {od_length an_length : Option Addr} {sl_length : Array (Option Value)}
    {f_agreeing : Addr} {oc_agreeing kV_agreeing dc_agreeing pm_agreeing cd_agreeing ct_agreeing : Value} {od_agreeing an_agreeing : Option Addr} {sl_agreeing : Array (Option Value)}
    {f_cell : Addr} {oc_cell kV_cell dc_cell pm_cell cd_cell ct_cell : Value} {od_cell an_cell : Option Addr} {sl_cell : Array (Option Value)}
    {f_digits : Addr} {oc_digits kV_digits dc_digits pm_digits cd_digits ct_digits : Value} {od_digits an_digits : Option Addr} {sl_digits : Array (Option Value)}
    {f_entry : Addr} {oc_entry kV_entry dc_entry pm_entry cd_entry ct_entry : Value} {od_entry an_entry : Option Addr} {sl_entry : Array (Option Value)}
    {f_row : Addr} {oc_row kV_row dc_row pm_row cd_row ct_row : Value} {od_row an_row : Option Addr} {sl_row : Array (Option Value)}
    {f_cut : Addr} {oc_cut kV_cut dc_cut pm_cut cd_cut ct_cut : Value} {od_cut an_cut : Option Addr} {sl_cut : Array (Option Value)}
    {f_entries : Addr} {oc_entries kV_entries dc_entries pm_entries cd_entries ct_entries : Value} {od_entries an_entries : Option Addr} {sl_entries : Array (Option Value)}
    {f_getitem : Addr} {oc_getitem kV_getitem dc_getitem pm_getitem cd_getitem ct_getitem : Value} {od_getitem an_getitem : Option Addr} {sl_getitem : Array (Option Value)}
    {f_Word_eq : Addr} {oc_Word_eq kV_Word_eq dc_Word_eq pm_Word_eq cd_Word_eq ct_Word_eq : Value} {od_Word_eq an_Word_eq : Option Addr} {sl_Word_eq : Array (Option Value)}
    {f_first_difference : Addr} {oc_first_difference kV_first_difference dc_first_difference pm_first_difference cd_first_difference ct_first_difference : Value} {od_first_difference an_first_difference : Option Addr} {sl_first_difference : Array (Option Value)}
    {f_alike : Addr} {oc_alike kV_alike dc_alike pm_alike cd_alike ct_alike : Value} {od_alike an_alike : Option Addr} {sl_alike : Array (Option Value)}
    {f_far_right : Addr} {oc_far_right kV_far_right dc_far_right pm_far_right cd_far_right ct_far_right : Value} {od_far_right an_far_right : Option Addr} {sl_far_right : Array (Option Value)}
    {f_nested_right : Addr} {oc_nested_right kV_nested_right dc_nested_right pm_nested_right cd_nested_right ct_nested_right : Value} {od_nested_right an_nested_right : Option Addr} {sl_nested_right : Array (Option Value)}
    {f_law : Addr} {oc_law kV_law dc_law pm_law cd_law ct_law : Value} {od_law an_law : Option Addr} {sl_law : Array (Option Value)}
    {fo_i ro_i : Option Value}
    (X : K.In h) (Gn : h.Ns mainGlobals mg) (hfa : mg "law" = some (.ref fa))
    (c_Part : PySem.W.nsIn K mainGlobals "Part" = some (some (.ref cPart)))
    (pg_Part : PySem.W.plainGet K cPart Str.empty = true)
    (hd_Part : PySem.W.hasDictIn K cPart = true)
    (po_Part : PySem.W.plainOver K cPart = true)
    (sa_Part : PySem.W.findIn K (.ref cPart) "__setattr__" = some (some (.builtin "object.__setattr__")))
    (mk_Part : PySem.W.makesIn K cPart = true)
    (kc_Part : PySem.W.keepIn K (.ref cPart) = true)
    (c_Made : PySem.W.nsIn K mainGlobals "Made" = some (some (.ref cMade)))
    (pg_Made : PySem.W.plainGet K cMade Str.empty = true)
    (hd_Made : PySem.W.hasDictIn K cMade = true)
    (po_Made : PySem.W.plainOver K cMade = true)
    (sa_Made : PySem.W.findIn K (.ref cMade) "__setattr__" = some (some (.builtin "object.__setattr__")))
    (mk_Made : PySem.W.makesIn K cMade = true)
    (kc_Made : PySem.W.keepIn K (.ref cMade) = true)
    (c_Word : PySem.W.nsIn K mainGlobals "Word" = some (some (.ref cWord)))
    (pg_Word : PySem.W.plainGet K cWord Str.empty = true)
    (hd_Word : PySem.W.hasDictIn K cWord = true)
    (po_Word : PySem.W.plainOver K cWord = true)
    (sa_Word : PySem.W.findIn K (.ref cWord) "__setattr__" = some (some (.builtin "object.__setattr__")))
    (mk_Word : PySem.W.makesIn K cWord = true)
    (kc_Word : PySem.W.keepIn K (.ref cWord) = true)
    (sf_Word : PySem.W.selfFirst K cWord = true)
    (k_LETTERS : PySem.W.nsIn K mainGlobals "LETTERS" = some (some u_LETTERS))
    (r_LETTERS : RelV (.str letters26) u_LETTERS)
    (k_MOST_LETTERS : PySem.W.nsIn K mainGlobals "MOST_LETTERS" = some (some u_MOST_LETTERS))
    (r_MOST_LETTERS : RelV (.int 8) u_MOST_LETTERS)
    (k_MOST_IN_ROW : PySem.W.nsIn K mainGlobals "MOST_IN_ROW" = some (some u_MOST_IN_ROW))
    (r_MOST_IN_ROW : RelV (.int 60) u_MOST_IN_ROW)
    (k_MOST_DEPTH : PySem.W.nsIn K mainGlobals "MOST_DEPTH" = some (some u_MOST_DEPTH))
    (r_MOST_DEPTH : RelV (.int 6) u_MOST_DEPTH)
    (k_MOST_PIECES : PySem.W.nsIn K mainGlobals "MOST_PIECES" = some (some u_MOST_PIECES))
    (r_MOST_PIECES : RelV (.int 1000) u_MOST_PIECES)
    (k_MOST_TOLD : PySem.W.nsIn K mainGlobals "MOST_TOLD" = some (some u_MOST_TOLD))
    (r_MOST_TOLD : RelV (.int 1000) u_MOST_TOLD)
    (k_KINDS : PySem.W.nsIn K mainGlobals "KINDS" = some (some (.ref kinds)))
    (l_KINDS : K.lookup kinds = some o_kinds)
    (t_KINDS : o_kinds.cls = .type "tuple")
    (d_KINDS : o_kinds.data = .seq it_kinds n_kinds)
    (z_KINDS : it_kinds.size ≤ sizeLine)
    (v_KINDS : Vals [V.str "emit", V.str "final"] it_kinds.toList)
    (n_int : PySem.W.nsIn K mainGlobals "int" = some none)
    (n_bool : PySem.W.nsIn K mainGlobals "bool" = some none)
    (n_str : PySem.W.nsIn K mainGlobals "str" = some none)
    (n_tuple : PySem.W.nsIn K mainGlobals "tuple" = some none)
    (n_list : PySem.W.nsIn K mainGlobals "list" = some none)
    (n_len : PySem.W.nsIn K mainGlobals "len" = some none)
    (n_min : PySem.W.nsIn K mainGlobals "min" = some none)
    (n_max : PySem.W.nsIn K mainGlobals "max" = some none)
    (n_all : PySem.W.nsIn K mainGlobals "all" = some none)
    (n_isinstance : PySem.W.nsIn K mainGlobals "isinstance" = some none)
    (n_range : PySem.W.nsIn K mainGlobals "range" = some none)
    (a_is_integer : PySem.W.nsIn K mainGlobals "is_integer" = some (some (.ref f_is_integer)))
    (l_is_integer : K.lookup f_is_integer = some ⟨oc_is_integer, od_is_integer, .func (PySem.W.fnOf "is_integer" "is_integer" (defArgs s_is_integer) (defBody s_is_integer) (defScope s_is_integer) .none kV_is_integer dc_is_integer pm_is_integer an_is_integer cd_is_integer ct_is_integer), sl_is_integer⟩)
    (e_is_integer : PySem.W.codeIn K cd_is_integer "is_integer" = true)
    (p_is_integer : PySem.W.keepIn K (.ref f_is_integer) = true)
    (a_is_between : PySem.W.nsIn K mainGlobals "is_between" = some (some (.ref f_is_between)))
    (l_is_between : K.lookup f_is_between = some ⟨oc_is_between, od_is_between, .func (PySem.W.fnOf "is_between" "is_between" (defArgs s_is_between) (defBody s_is_between) (defScope s_is_between) .none kV_is_between dc_is_between pm_is_between an_is_between cd_is_between ct_is_between), sl_is_between⟩)
    (e_is_between : PySem.W.codeIn K cd_is_between "is_between" = true)
    (p_is_between : PySem.W.keepIn K (.ref f_is_between) = true)
    (a_is_name : PySem.W.nsIn K mainGlobals "is_name" = some (some (.ref f_is_name)))
    (l_is_name : K.lookup f_is_name = some ⟨oc_is_name, od_is_name, .func (PySem.W.fnOf "is_name" "is_name" (defArgs s_is_name) (defBody s_is_name) (defScope s_is_name) .none kV_is_name dc_is_name pm_is_name an_is_name cd_is_name ct_is_name), sl_is_name⟩)
    (e_is_name : PySem.W.codeIn K cd_is_name "is_name" = true)
    (p_is_name : PySem.W.keepIn K (.ref f_is_name) = true)
    (a_is_entry : PySem.W.nsIn K mainGlobals "is_entry" = some (some (.ref f_is_entry)))
    (l_is_entry : K.lookup f_is_entry = some ⟨oc_is_entry, od_is_entry, .func (PySem.W.fnOf "is_entry" "is_entry" (defArgs s_is_entry) (defBody s_is_entry) (defScope s_is_entry) .none kV_is_entry dc_is_entry pm_is_entry an_is_entry cd_is_entry ct_is_entry), sl_is_entry⟩)
    (e_is_entry : PySem.W.codeIn K cd_is_entry "is_entry" = true)
    (p_is_entry : PySem.W.keepIn K (.ref f_is_entry) = true)
    (a_Part_init : PySem.W.findIn K (.ref cPart) "__init__" = some (some (.ref f_Part_init)))
    (i_Part_init : PySem.W.isFn K (.ref f_Part_init) = true)
    (l_Part_init : K.lookup f_Part_init = some ⟨oc_Part_init, od_Part_init, .func (PySem.W.fnOf "__init__" "Part.__init__" (defArgs s_Part_init) (defBody s_Part_init) (defScope s_Part_init) (.ref T_Part_init) kV_Part_init dc_Part_init pm_Part_init an_Part_init cd_Part_init ct_Part_init), sl_Part_init⟩)
    (e_Part_init : PySem.W.codeIn K cd_Part_init "Part.__init__" = true)
    (p_Part_init : PySem.W.keepIn K (.ref f_Part_init) = true)
    (lT_Part_init : K.lookup T_Part_init = some oT_Part_init)
    (dT_Part_init : oT_Part_init.data = .seq iT_Part_init.toArray nT_Part_init)
    (vT_Part_init : Vals [.non] iT_Part_init)
    (a_joined : PySem.W.nsIn K mainGlobals "joined" = some (some (.ref f_joined)))
    (l_joined : K.lookup f_joined = some ⟨oc_joined, od_joined, .func (PySem.W.fnOf "joined" "joined" (defArgs s_joined) (defBody s_joined) (defScope s_joined) .none kV_joined dc_joined pm_joined an_joined cd_joined ct_joined), sl_joined⟩)
    (e_joined : PySem.W.codeIn K cd_joined "joined" = true)
    (p_joined : PySem.W.keepIn K (.ref f_joined) = true)
    (a_repeated : PySem.W.nsIn K mainGlobals "repeated" = some (some (.ref f_repeated)))
    (l_repeated : K.lookup f_repeated = some ⟨oc_repeated, od_repeated, .func (PySem.W.fnOf "repeated" "repeated" (defArgs s_repeated) (defBody s_repeated) (defScope s_repeated) .none kV_repeated dc_repeated pm_repeated an_repeated cd_repeated ct_repeated), sl_repeated⟩)
    (e_repeated : PySem.W.codeIn K cd_repeated "repeated" = true)
    (p_repeated : PySem.W.keepIn K (.ref f_repeated) = true)
    (a_width : PySem.W.nsIn K mainGlobals "width" = some (some (.ref f_width)))
    (l_width : K.lookup f_width = some ⟨oc_width, od_width, .func (PySem.W.fnOf "width" "width" (defArgs s_width) (defBody s_width) (defScope s_width) .none kV_width dc_width pm_width an_width cd_width ct_width), sl_width⟩)
    (e_width : PySem.W.codeIn K cd_width "width" = true)
    (p_width : PySem.W.keepIn K (.ref f_width) = true)
    (a_opened : PySem.W.nsIn K mainGlobals "opened" = some (some (.ref f_opened)))
    (l_opened : K.lookup f_opened = some ⟨oc_opened, od_opened, .func (PySem.W.fnOf "opened" "opened" (defArgs s_opened) (defBody s_opened) (defScope s_opened) .none kV_opened dc_opened pm_opened an_opened cd_opened ct_opened), sl_opened⟩)
    (e_opened : PySem.W.codeIn K cd_opened "opened" = true)
    (p_opened : PySem.W.keepIn K (.ref f_opened) = true)
    (a_first_unit : PySem.W.nsIn K mainGlobals "first_unit" = some (some (.ref f_first_unit)))
    (l_first_unit : K.lookup f_first_unit = some ⟨oc_first_unit, od_first_unit, .func (PySem.W.fnOf "first_unit" "first_unit" (defArgs s_first_unit) (defBody s_first_unit) (defScope s_first_unit) .none kV_first_unit dc_first_unit pm_first_unit an_first_unit cd_first_unit ct_first_unit), sl_first_unit⟩)
    (e_first_unit : PySem.W.codeIn K cd_first_unit "first_unit" = true)
    (p_first_unit : PySem.W.keepIn K (.ref f_first_unit) = true)
    (a_behind : PySem.W.nsIn K mainGlobals "behind" = some (some (.ref f_behind)))
    (l_behind : K.lookup f_behind = some ⟨oc_behind, od_behind, .func (PySem.W.fnOf "behind" "behind" (defArgs s_behind) (defBody s_behind) (defScope s_behind) .none kV_behind dc_behind pm_behind an_behind cd_behind ct_behind), sl_behind⟩)
    (e_behind : PySem.W.codeIn K cd_behind "behind" = true)
    (p_behind : PySem.W.keepIn K (.ref f_behind) = true)
    (a_part_of : PySem.W.nsIn K mainGlobals "part_of" = some (some (.ref f_part_of)))
    (l_part_of : K.lookup f_part_of = some ⟨oc_part_of, od_part_of, .func (PySem.W.fnOf "part_of" "part_of" (defArgs s_part_of) (defBody s_part_of) (defScope s_part_of) .none kV_part_of dc_part_of pm_part_of an_part_of cd_part_of ct_part_of), sl_part_of⟩)
    (e_part_of : PySem.W.codeIn K cd_part_of "part_of" = true)
    (p_part_of : PySem.W.keepIn K (.ref f_part_of) = true)
    (a_rotated : PySem.W.nsIn K mainGlobals "rotated" = some (some (.ref f_rotated)))
    (l_rotated : K.lookup f_rotated = some ⟨oc_rotated, od_rotated, .func (PySem.W.fnOf "rotated" "rotated" (defArgs s_rotated) (defBody s_rotated) (defScope s_rotated) .none kV_rotated dc_rotated pm_rotated an_rotated cd_rotated ct_rotated), sl_rotated⟩)
    (e_rotated : PySem.W.codeIn K cd_rotated "rotated" = true)
    (p_rotated : PySem.W.keepIn K (.ref f_rotated) = true)
    (a_gone_by : PySem.W.nsIn K mainGlobals "gone_by" = some (some (.ref f_gone_by)))
    (l_gone_by : K.lookup f_gone_by = some ⟨oc_gone_by, od_gone_by, .func (PySem.W.fnOf "gone_by" "gone_by" (defArgs s_gone_by) (defBody s_gone_by) (defScope s_gone_by) .none kV_gone_by dc_gone_by pm_gone_by an_gone_by cd_gone_by ct_gone_by), sl_gone_by⟩)
    (e_gone_by : PySem.W.codeIn K cd_gone_by "gone_by" = true)
    (p_gone_by : PySem.W.keepIn K (.ref f_gone_by) = true)
    (a_alike_ahead : PySem.W.nsIn K mainGlobals "alike_ahead" = some (some (.ref f_alike_ahead)))
    (l_alike_ahead : K.lookup f_alike_ahead = some ⟨oc_alike_ahead, od_alike_ahead, .func (PySem.W.fnOf "alike_ahead" "alike_ahead" (defArgs s_alike_ahead) (defBody s_alike_ahead) (defScope s_alike_ahead) .none kV_alike_ahead dc_alike_ahead pm_alike_ahead an_alike_ahead cd_alike_ahead ct_alike_ahead), sl_alike_ahead⟩)
    (e_alike_ahead : PySem.W.codeIn K cd_alike_ahead "alike_ahead" = true)
    (p_alike_ahead : PySem.W.keepIn K (.ref f_alike_ahead) = true)
    (a_run_ahead : PySem.W.nsIn K mainGlobals "run_ahead" = some (some (.ref f_run_ahead)))
    (l_run_ahead : K.lookup f_run_ahead = some ⟨oc_run_ahead, od_run_ahead, .func (PySem.W.fnOf "run_ahead" "run_ahead" (defArgs s_run_ahead) (defBody s_run_ahead) (defScope s_run_ahead) .none kV_run_ahead dc_run_ahead pm_run_ahead an_run_ahead cd_run_ahead ct_run_ahead), sl_run_ahead⟩)
    (e_run_ahead : PySem.W.codeIn K cd_run_ahead "run_ahead" = true)
    (p_run_ahead : PySem.W.keepIn K (.ref f_run_ahead) = true)
    (a_agreement : PySem.W.nsIn K mainGlobals "agreement" = some (some (.ref f_agreement)))
    (l_agreement : K.lookup f_agreement = some ⟨oc_agreement, od_agreement, .func (PySem.W.fnOf "agreement" "agreement" (defArgs s_agreement) (defBody s_agreement) (defScope s_agreement) .none kV_agreement dc_agreement pm_agreement an_agreement cd_agreement ct_agreement), sl_agreement⟩)
    (e_agreement : PySem.W.codeIn K cd_agreement "agreement" = true)
    (p_agreement : PySem.W.keepIn K (.ref f_agreement) = true)
    (a_alike_for : PySem.W.nsIn K mainGlobals "alike_for" = some (some (.ref f_alike_for)))
    (l_alike_for : K.lookup f_alike_for = some ⟨oc_alike_for, od_alike_for, .func (PySem.W.fnOf "alike_for" "alike_for" (defArgs s_alike_for) (defBody s_alike_for) (defScope s_alike_for) .none kV_alike_for dc_alike_for pm_alike_for an_alike_for cd_alike_for ct_alike_for), sl_alike_for⟩)
    (e_alike_for : PySem.W.codeIn K cd_alike_for "alike_for" = true)
    (p_alike_for : PySem.W.keepIn K (.ref f_alike_for) = true)
    (a_check_index : PySem.W.nsIn K mainGlobals "check_index" = some (some (.ref f_check_index)))
    (l_check_index : K.lookup f_check_index = some ⟨oc_check_index, od_check_index, .func (PySem.W.fnOf "check_index" "check_index" (defArgs s_check_index) (defBody s_check_index) (defScope s_check_index) .none kV_check_index dc_check_index pm_check_index an_check_index cd_check_index ct_check_index), sl_check_index⟩)
    (e_check_index : PySem.W.codeIn K cd_check_index "check_index" = true)
    (p_check_index : PySem.W.keepIn K (.ref f_check_index) = true)
    (a_Made_init : PySem.W.findIn K (.ref cMade) "__init__" = some (some (.ref f_Made_init)))
    (i_Made_init : PySem.W.isFn K (.ref f_Made_init) = true)
    (l_Made_init : K.lookup f_Made_init = some ⟨oc_Made_init, od_Made_init, .func (PySem.W.fnOf "__init__" "Made.__init__" (defArgs s_Made_init) (defBody s_Made_init) (defScope s_Made_init) (.ref T_Made_init) kV_Made_init dc_Made_init pm_Made_init an_Made_init cd_Made_init ct_Made_init), sl_Made_init⟩)
    (e_Made_init : PySem.W.codeIn K cd_Made_init "Made.__init__" = true)
    (p_Made_init : PySem.W.keepIn K (.ref f_Made_init) = true)
    (lT_Made_init : K.lookup T_Made_init = some oT_Made_init)
    (dT_Made_init : oT_Made_init.data = .seq iT_Made_init.toArray nT_Made_init)
    (vT_Made_init : Vals [.int 1] iT_Made_init)
    (a_Word_init : PySem.W.findIn K (.ref cWord) "__init__" = some (some (.ref f_Word_init)))
    (i_Word_init : PySem.W.isFn K (.ref f_Word_init) = true)
    (l_Word_init : K.lookup f_Word_init = some ⟨oc_Word_init, od_Word_init, .func (PySem.W.fnOf "__init__" "Word.__init__" (defArgs s_Word_init) (defBody s_Word_init) (defScope s_Word_init) .none kV_Word_init dc_Word_init pm_Word_init an_Word_init cd_Word_init ct_Word_init), sl_Word_init⟩)
    (e_Word_init : PySem.W.codeIn K cd_Word_init "Word.__init__" = true)
    (p_Word_init : PySem.W.keepIn K (.ref f_Word_init) = true)
    (a_Word_add : PySem.W.findIn K (.ref cWord) (PySem.dunder (Operator.info .Add).2) = some (some (.ref f_Word_add)))
    (i_Word_add : PySem.W.isFn K (.ref f_Word_add) = true)
    (l_Word_add : K.lookup f_Word_add = some ⟨oc_Word_add, od_Word_add, .func (PySem.W.fnOf "__add__" "Word.__add__" (defArgs s_Word_add) (defBody s_Word_add) (defScope s_Word_add) .none kV_Word_add dc_Word_add pm_Word_add an_Word_add cd_Word_add ct_Word_add), sl_Word_add⟩)
    (e_Word_add : PySem.W.codeIn K cd_Word_add "Word.__add__" = true)
    (p_Word_add : PySem.W.keepIn K (.ref f_Word_add) = true)
    (a_Word_mul : PySem.W.findIn K (.ref cWord) (PySem.dunder (Operator.info .Mult).2) = some (some (.ref f_Word_mul)))
    (i_Word_mul : PySem.W.isFn K (.ref f_Word_mul) = true)
    (l_Word_mul : K.lookup f_Word_mul = some ⟨oc_Word_mul, od_Word_mul, .func (PySem.W.fnOf "__mul__" "Word.__mul__" (defArgs s_Word_mul) (defBody s_Word_mul) (defScope s_Word_mul) .none kV_Word_mul dc_Word_mul pm_Word_mul an_Word_mul cd_Word_mul ct_Word_mul), sl_Word_mul⟩)
    (e_Word_mul : PySem.W.codeIn K cd_Word_mul "Word.__mul__" = true)
    (p_Word_mul : PySem.W.keepIn K (.ref f_Word_mul) = true)
    (a_length : PySem.W.findIn K (.ref cWord) "length" = some (some (.ref f_length)))
    (i_length : PySem.W.isFn K (.ref f_length) = true)
    (l_length : K.lookup f_length = some ⟨oc_length, od_length, .func (PySem.W.fnOf "length" "Word.length" (defArgs s_length) (defBody s_length) (defScope s_length) .none kV_length dc_length pm_length an_length cd_length ct_length), sl_length⟩)
    (e_length : PySem.W.codeIn K cd_length "Word.length" = true)
    (p_length : PySem.W.keepIn K (.ref f_length) = true)
    (a_agreeing : PySem.W.nsIn K mainGlobals "agreeing" = some (some (.ref f_agreeing)))
    (l_agreeing : K.lookup f_agreeing = some ⟨oc_agreeing, od_agreeing, .func (PySem.W.fnOf "agreeing" "agreeing" (defArgs s_agreeing) (defBody s_agreeing) (defScope s_agreeing) .none kV_agreeing dc_agreeing pm_agreeing an_agreeing cd_agreeing ct_agreeing), sl_agreeing⟩)
    (e_agreeing : PySem.W.codeIn K cd_agreeing "agreeing" = true)
    (p_agreeing : PySem.W.keepIn K (.ref f_agreeing) = true)
    (a_cell : PySem.W.nsIn K mainGlobals "_law_cell" = some (some (.ref f_cell)))
    (l_cell : K.lookup f_cell = some ⟨oc_cell, od_cell, .func (PySem.W.fnOf "_law_cell" "_law_cell" (defArgs s_cell) (defBody s_cell) (defScope s_cell) .none kV_cell dc_cell pm_cell an_cell cd_cell ct_cell), sl_cell⟩)
    (e_cell : PySem.W.codeIn K cd_cell "_law_cell" = true)
    (p_cell : PySem.W.keepIn K (.ref f_cell) = true)
    (a_digits : PySem.W.nsIn K mainGlobals "_law_digits" = some (some (.ref f_digits)))
    (l_digits : K.lookup f_digits = some ⟨oc_digits, od_digits, .func (PySem.W.fnOf "_law_digits" "_law_digits" (defArgs s_digits) (defBody s_digits) (defScope s_digits) .none kV_digits dc_digits pm_digits an_digits cd_digits ct_digits), sl_digits⟩)
    (e_digits : PySem.W.codeIn K cd_digits "_law_digits" = true)
    (p_digits : PySem.W.keepIn K (.ref f_digits) = true)
    (a_entry : PySem.W.nsIn K mainGlobals "_law_entry" = some (some (.ref f_entry)))
    (l_entry : K.lookup f_entry = some ⟨oc_entry, od_entry, .func (PySem.W.fnOf "_law_entry" "_law_entry" (defArgs s_entry) (defBody s_entry) (defScope s_entry) .none kV_entry dc_entry pm_entry an_entry cd_entry ct_entry), sl_entry⟩)
    (e_entry : PySem.W.codeIn K cd_entry "_law_entry" = true)
    (p_entry : PySem.W.keepIn K (.ref f_entry) = true)
    (a_row : PySem.W.nsIn K mainGlobals "_law_row" = some (some (.ref f_row)))
    (l_row : K.lookup f_row = some ⟨oc_row, od_row, .func (PySem.W.fnOf "_law_row" "_law_row" (defArgs s_row) (defBody s_row) (defScope s_row) .none kV_row dc_row pm_row an_row cd_row ct_row), sl_row⟩)
    (e_row : PySem.W.codeIn K cd_row "_law_row" = true)
    (p_row : PySem.W.keepIn K (.ref f_row) = true)
    (a_cut : PySem.W.findIn K (.ref cWord) "cut" = some (some (.ref f_cut)))
    (i_cut : PySem.W.isFn K (.ref f_cut) = true)
    (l_cut : K.lookup f_cut = some ⟨oc_cut, od_cut, .func (PySem.W.fnOf "cut" "Word.cut" (defArgs s_cut) (defBody s_cut) (defScope s_cut) .none kV_cut dc_cut pm_cut an_cut cd_cut ct_cut), sl_cut⟩)
    (e_cut : PySem.W.codeIn K cd_cut "Word.cut" = true)
    (p_cut : PySem.W.keepIn K (.ref f_cut) = true)
    (a_entries : PySem.W.findIn K (.ref cWord) "entries" = some (some (.ref f_entries)))
    (i_entries : PySem.W.isFn K (.ref f_entries) = true)
    (l_entries : K.lookup f_entries = some ⟨oc_entries, od_entries, .func (PySem.W.fnOf "entries" "Word.entries" (defArgs s_entries) (defBody s_entries) (defScope s_entries) .none kV_entries dc_entries pm_entries an_entries cd_entries ct_entries), sl_entries⟩)
    (e_entries : PySem.W.codeIn K cd_entries "Word.entries" = true)
    (p_entries : PySem.W.keepIn K (.ref f_entries) = true)
    (a_getitem : PySem.W.findIn K (.ref cWord) "__getitem__" = some (some (.ref f_getitem)))
    (i_getitem : PySem.W.isFn K (.ref f_getitem) = true)
    (l_getitem : K.lookup f_getitem = some ⟨oc_getitem, od_getitem, .func (PySem.W.fnOf "__getitem__" "Word.__getitem__" (defArgs s_getitem) (defBody s_getitem) (defScope s_getitem) .none kV_getitem dc_getitem pm_getitem an_getitem cd_getitem ct_getitem), sl_getitem⟩)
    (e_getitem : PySem.W.codeIn K cd_getitem "Word.__getitem__" = true)
    (p_getitem : PySem.W.keepIn K (.ref f_getitem) = true)
    (a_Word_eq : PySem.W.findIn K (.ref cWord) "__eq__" = some (some (.ref f_Word_eq)))
    (i_Word_eq : PySem.W.isFn K (.ref f_Word_eq) = true)
    (l_Word_eq : K.lookup f_Word_eq = some ⟨oc_Word_eq, od_Word_eq, .func (PySem.W.fnOf "__eq__" "Word.__eq__" (defArgs s_Word_eq) (defBody s_Word_eq) (defScope s_Word_eq) .none kV_Word_eq dc_Word_eq pm_Word_eq an_Word_eq cd_Word_eq ct_Word_eq), sl_Word_eq⟩)
    (e_Word_eq : PySem.W.codeIn K cd_Word_eq "Word.__eq__" = true)
    (p_Word_eq : PySem.W.keepIn K (.ref f_Word_eq) = true)
    (a_first_difference : PySem.W.nsIn K mainGlobals "first_difference" = some (some (.ref f_first_difference)))
    (l_first_difference : K.lookup f_first_difference = some ⟨oc_first_difference, od_first_difference, .func (PySem.W.fnOf "first_difference" "first_difference" (defArgs s_first_difference) (defBody s_first_difference) (defScope s_first_difference) .none kV_first_difference dc_first_difference pm_first_difference an_first_difference cd_first_difference ct_first_difference), sl_first_difference⟩)
    (e_first_difference : PySem.W.codeIn K cd_first_difference "first_difference" = true)
    (p_first_difference : PySem.W.keepIn K (.ref f_first_difference) = true)
    (a_alike : PySem.W.nsIn K mainGlobals "_law_alike" = some (some (.ref f_alike)))
    (l_alike : K.lookup f_alike = some ⟨oc_alike, od_alike, .func (PySem.W.fnOf "_law_alike" "_law_alike" (defArgs s_alike) (defBody s_alike) (defScope s_alike) .none kV_alike dc_alike pm_alike an_alike cd_alike ct_alike), sl_alike⟩)
    (e_alike : PySem.W.codeIn K cd_alike "_law_alike" = true)
    (p_alike : PySem.W.keepIn K (.ref f_alike) = true)
    (a_far_right : PySem.W.nsIn K mainGlobals "_law_far_right" = some (some (.ref f_far_right)))
    (l_far_right : K.lookup f_far_right = some ⟨oc_far_right, od_far_right, .func (PySem.W.fnOf "_law_far_right" "_law_far_right" (defArgs s_far_right) (defBody s_far_right) (defScope s_far_right) .none kV_far_right dc_far_right pm_far_right an_far_right cd_far_right ct_far_right), sl_far_right⟩)
    (e_far_right : PySem.W.codeIn K cd_far_right "_law_far_right" = true)
    (p_far_right : PySem.W.keepIn K (.ref f_far_right) = true)
    (a_nested_right : PySem.W.nsIn K mainGlobals "_law_nested_right" = some (some (.ref f_nested_right)))
    (l_nested_right : K.lookup f_nested_right = some ⟨oc_nested_right, od_nested_right, .func (PySem.W.fnOf "_law_nested_right" "_law_nested_right" (defArgs s_nested_right) (defBody s_nested_right) (defScope s_nested_right) .none kV_nested_right dc_nested_right pm_nested_right an_nested_right cd_nested_right ct_nested_right), sl_nested_right⟩)
    (e_nested_right : PySem.W.codeIn K cd_nested_right "_law_nested_right" = true)
    (p_nested_right : PySem.W.keepIn K (.ref f_nested_right) = true)
    (a_law : PySem.W.nsIn K mainGlobals "law" = some (some (.ref f_law)))
    (l_law : K.lookup f_law = some ⟨oc_law, od_law, .func (PySem.W.fnOf "law" "law" (defArgs s_law) (defBody s_law) (defScope s_law) .none kV_law dc_law pm_law an_law cd_law ct_law), sl_law⟩)
    (e_law : PySem.W.codeIn K cd_law "law" = true)
    (p_law : PySem.W.keepIn K (.ref f_law) = true)
    (x_p_letters : PySem.W.findIn K (.ref cPart) "letters" = some none)
    (x_p_left : PySem.W.findIn K (.ref cPart) "left" = some none)
    (x_p_right : PySem.W.findIn K (.ref cPart) "right" = some none)
    (x_p_times : PySem.W.findIn K (.ref cPart) "times" = some none)
    (x_p_turned : PySem.W.findIn K (.ref cPart) "turned_from" = some none)
    (x_p_wide : PySem.W.findIn K (.ref cPart) "wide" = some none)
    (x_w_part : PySem.W.findIn K (.ref cWord) "part" = some none)
    (x_w_nesting : PySem.W.findIn K (.ref cWord) "nesting" = some none)
    (x_w_pieces : PySem.W.findIn K (.ref cWord) "pieces" = some none)
    (x_m_part : PySem.W.findIn K (.ref cMade) "part" = some none)
    (x_m_nesting : PySem.W.findIn K (.ref cMade) "nesting" = some none)
    (x_m_pieces : PySem.W.findIn K (.ref cMade) "pieces" = some none)
    (x_part_cl : PySem.W.findIn K (.ref cPart) "__class__" = some (some (.builtin "object.__class__")))
    (x_word_cl : PySem.W.findIn K (.ref cWord) "__class__" = some (some (.builtin "object.__class__")))
    (x_word_ob : PySem.W.mroIn K cWord (.type "object") = some true)
    (x_word_word : PySem.W.kitOne K (.ref cWord) (.ref cWord) = some true)
    (x_made_cl : PySem.W.findIn K (.ref cMade) "__class__" = some (some (.builtin "object.__class__")))
    (x_cls_get : PySem.W.specialIn K (.builtin "object.__class__") "__get__" = some (some (.builtin "getset_descriptor.__get__")))
    (x_cls_tk : PySem.W.takesIn K (.builtin "object.__class__") = some true)
    (x_part_ob : PySem.W.mroIn K cPart (.type "object") = some true)
    (x_made_ob : PySem.W.mroIn K cMade (.type "object") = some true)
    (x_part_tup : PySem.W.kitOne K (.ref cPart) (.type "tuple") = some false)
    (x_made_made : PySem.W.kitOne K (.ref cMade) (.ref cMade) = some true)
    (x_list_made : PySem.W.kitOne K (.type "list") (.ref cMade) = some false)
    (x_mul_r : PySem.W.findIn K (.ref cWord) (PySem.dunderR (Operator.info .Mult).2) = some none)
    (x_mul_i : PySem.W.findIn K (.type "int") (PySem.dunder (Operator.info .Mult).2) = some fo_i)
    (x_mul_j : PySem.W.findIn K (.type "int") (PySem.dunderR (Operator.info .Mult).2) = some ro_i)
    (x_mul_s : PySem.W.subIn K (.type "int") (.ref cWord) = some false)
    : ∃ fd : FuncData, (∀ (s : Shared) (v : Value), BindsTo s fd ⟨[v], []⟩ [("_law_script", v)]) ∧ ∀ base : Heap, K.In base → base.Ns mainGlobals mg → FnOk P w K mg base CX0 (12 + 2 * 20) fa fd ["_law_script"] (spLawK K) := by
  have e := hfa.symm.trans (PySem.W.mg_of X Gn a_law)
  cases e
  let g : G := ⟨K, cPart, cMade, cWord, kinds⟩
  have C_Part : Cls K cPart := ⟨pg_Part, hd_Part, po_Part, sa_Part⟩
  have C_Made : Cls K cMade := ⟨pg_Made, hd_Made, po_Made, sa_Made⟩
  have C_Word : Cls K cWord := ⟨pg_Word, hd_Word, po_Word, sa_Word⟩
  have T : Txt g mg := {
    c_LETTERS := ⟨_, PySem.W.mg_of X Gn k_LETTERS, r_LETTERS⟩
    c_MOST_LETTERS := ⟨_, PySem.W.mg_of X Gn k_MOST_LETTERS, r_MOST_LETTERS⟩
    c_MOST_IN_ROW := ⟨_, PySem.W.mg_of X Gn k_MOST_IN_ROW, r_MOST_IN_ROW⟩
    c_MOST_DEPTH := ⟨_, PySem.W.mg_of X Gn k_MOST_DEPTH, r_MOST_DEPTH⟩
    c_MOST_PIECES := ⟨_, PySem.W.mg_of X Gn k_MOST_PIECES, r_MOST_PIECES⟩
    c_MOST_TOLD := ⟨_, PySem.W.mg_of X Gn k_MOST_TOLD, r_MOST_TOLD⟩
    c_KINDS := ⟨_, PySem.W.mg_of X Gn k_KINDS, rfl⟩
    c_Made := ⟨_, PySem.W.mg_of X Gn c_Made, rfl⟩
    c_Word := ⟨_, PySem.W.mg_of X Gn c_Word, rfl⟩
    kinds := fun _ => .inr ⟨_, _, _, l_KINDS, t_KINDS, d_KINDS, z_KINDS, v_KINDS⟩
    n_int := PySem.W.mg_none_of X Gn n_int
    n_bool := PySem.W.mg_none_of X Gn n_bool
    n_str := PySem.W.mg_none_of X Gn n_str
    n_tuple := PySem.W.mg_none_of X Gn n_tuple
    n_list := PySem.W.mg_none_of X Gn n_list
    n_len := PySem.W.mg_none_of X Gn n_len
    n_min := PySem.W.mg_none_of X Gn n_min
    n_max := PySem.W.mg_none_of X Gn n_max
    n_all := PySem.W.mg_none_of X Gn n_all
    n_isinstance := PySem.W.mg_none_of X Gn n_isinstance
    n_range := PySem.W.mg_none_of X Gn n_range
    part := C_Part, made := C_Made, word := C_Word
    p_letters := x_p_letters
    p_left := x_p_left
    p_right := x_p_right
    p_times := x_p_times
    p_turned := x_p_turned
    p_wide := x_p_wide
    w_part := x_w_part
    w_nesting := x_w_nesting
    w_pieces := x_w_pieces
    m_part := x_m_part
    m_nesting := x_m_nesting
    m_pieces := x_m_pieces
    part_cl := x_part_cl
    word_cl := x_word_cl
    word_ob := x_word_ob
    word_word := x_word_word
    made_cl := x_made_cl
    cls_get := x_cls_get
    cls_tk := x_cls_tk
    part_ob := x_part_ob
    made_ob := x_made_ob
    part_tup := x_part_tup
    made_made := x_made_made
    list_made := x_list_made
    mulI := ⟨⟨_, x_mul_r, .inl rfl⟩, ⟨_, x_mul_i⟩, ⟨_, x_mul_j⟩, x_mul_s⟩
  }
  have F_is_integer := fun_mk (st := s_is_integer) l_is_integer e_is_integer p_is_integer
  have b_is_integer := F_is_integer.binds (ps := P_is_integer) fun _ _ _ _ _ _ us hl => match us, hl with | [_], _ => rfl
  have F_is_between := fun_mk (st := s_is_between) l_is_between e_is_between p_is_between
  have b_is_between := F_is_between.binds (ps := P_is_between) fun _ _ _ _ _ _ us hl => match us, hl with | [_, _, _], _ => rfl
  have F_is_name := fun_mk (st := s_is_name) l_is_name e_is_name p_is_name
  have b_is_name := F_is_name.binds (ps := P_is_name) fun _ _ _ _ _ _ us hl => match us, hl with | [_], _ => rfl
  have F_is_entry := fun_mk (st := s_is_entry) l_is_entry e_is_entry p_is_entry
  have b_is_entry := F_is_entry.binds (ps := P_is_entry) fun _ _ _ _ _ _ us hl => match us, hl with | [_], _ => rfl
  have D_Part_init : FunD K "__init__" "Part.__init__" (defArgs s_Part_init) (defBody s_Part_init) (defScope s_Part_init) [.non] [] f_Part_init _ := ⟨⟨oc_Part_init, od_Part_init, _, kV_Part_init, dc_Part_init, pm_Part_init, an_Part_init, cd_Part_init, ct_Part_init, sl_Part_init, rfl, l_Part_init, e_Part_init, .inr ⟨(fun z => nomatch z), _, _, _, _, rfl, lT_Part_init, dT_Part_init, vT_Part_init⟩, .inl rfl⟩, p_Part_init⟩
  have B0_Part_init : ∃ ds, Vals [] ds ∧ Binds K _ P_Part_init ds := D_Part_init.binds1 6 1 (fun z => nomatch z) rfl (fun _ _ _ _ _ _ _ us its hu hi => match us, its, hu, hi with | [_, _, _, _, _, _], [_], _, _ => ⟨_, rfl, rfl⟩)
  have B1_Part_init : ∃ ds, Vals [.non] ds ∧ Binds K _ P_Part_init ds := D_Part_init.binds1 5 0 (fun z => nomatch z) rfl (fun _ _ _ _ _ _ _ us its hu hi => match us, its, hu, hi with | [_, _, _, _, _], [_], _, _ => ⟨_, rfl, rfl⟩)
  have F_joined := fun_mk (st := s_joined) l_joined e_joined p_joined
  have b_joined := F_joined.binds (ps := P_joined) fun _ _ _ _ _ _ us hl => match us, hl with | [_, _], _ => rfl
  have F_repeated := fun_mk (st := s_repeated) l_repeated e_repeated p_repeated
  have b_repeated := F_repeated.binds (ps := P_repeated) fun _ _ _ _ _ _ us hl => match us, hl with | [_, _], _ => rfl
  have F_width := fun_mk (st := s_width) l_width e_width p_width
  have b_width := F_width.binds (ps := P_width) fun _ _ _ _ _ _ us hl => match us, hl with | [_], _ => rfl
  have F_opened := fun_mk (st := s_opened) l_opened e_opened p_opened
  have b_opened := F_opened.binds (ps := P_opened) fun _ _ _ _ _ _ us hl => match us, hl with | [_, _], _ => rfl
  have F_first_unit := fun_mk (st := s_first_unit) l_first_unit e_first_unit p_first_unit
  have b_first_unit := F_first_unit.binds (ps := P_first_unit) fun _ _ _ _ _ _ us hl => match us, hl with | [_], _ => rfl
  have F_behind := fun_mk (st := s_behind) l_behind e_behind p_behind
  have b_behind := F_behind.binds (ps := P_behind) fun _ _ _ _ _ _ us hl => match us, hl with | [_, _], _ => rfl
  have F_part_of := fun_mk (st := s_part_of) l_part_of e_part_of p_part_of
  have b_part_of := F_part_of.binds (ps := P_part_of) fun _ _ _ _ _ _ us hl => match us, hl with | [_, _], _ => rfl
  have F_rotated := fun_mk (st := s_rotated) l_rotated e_rotated p_rotated
  have b_rotated := F_rotated.binds (ps := P_rotated) fun _ _ _ _ _ _ us hl => match us, hl with | [_, _], _ => rfl
  have F_gone_by := fun_mk (st := s_gone_by) l_gone_by e_gone_by p_gone_by
  have b_gone_by := F_gone_by.binds (ps := P_gone_by) fun _ _ _ _ _ _ us hl => match us, hl with | [_, _], _ => rfl
  have F_alike_ahead := fun_mk (st := s_alike_ahead) l_alike_ahead e_alike_ahead p_alike_ahead
  have b_alike_ahead := F_alike_ahead.binds (ps := P_alike_ahead) fun _ _ _ _ _ _ us hl => match us, hl with | [_, _, _], _ => rfl
  have F_run_ahead := fun_mk (st := s_run_ahead) l_run_ahead e_run_ahead p_run_ahead
  have b_run_ahead := F_run_ahead.binds (ps := P_run_ahead) fun _ _ _ _ _ _ us hl => match us, hl with | [_, _], _ => rfl
  have F_agreement := fun_mk (st := s_agreement) l_agreement e_agreement p_agreement
  have b_agreement := F_agreement.binds (ps := P_agreement) fun _ _ _ _ _ _ us hl => match us, hl with | [_, _, _], _ => rfl
  have F_alike_for := fun_mk (st := s_alike_for) l_alike_for e_alike_for p_alike_for
  have b_alike_for := F_alike_for.binds (ps := P_alike_for) fun _ _ _ _ _ _ us hl => match us, hl with | [_, _], _ => rfl
  have F_check_index := fun_mk (st := s_check_index) l_check_index e_check_index p_check_index
  have b_check_index := F_check_index.binds (ps := P_check_index) fun _ _ _ _ _ _ us hl => match us, hl with | [_, _, _], _ => rfl
  have D_Made_init : FunD K "__init__" "Made.__init__" (defArgs s_Made_init) (defBody s_Made_init) (defScope s_Made_init) [.int 1] [] f_Made_init _ := ⟨⟨oc_Made_init, od_Made_init, _, kV_Made_init, dc_Made_init, pm_Made_init, an_Made_init, cd_Made_init, ct_Made_init, sl_Made_init, rfl, l_Made_init, e_Made_init, .inr ⟨(fun z => nomatch z), _, _, _, _, rfl, lT_Made_init, dT_Made_init, vT_Made_init⟩, .inl rfl⟩, p_Made_init⟩
  have B0_Made_init : ∃ ds, Vals [] ds ∧ Binds K _ P_Made_init ds := D_Made_init.binds1 4 1 (fun z => nomatch z) rfl (fun _ _ _ _ _ _ _ us its hu hi => match us, its, hu, hi with | [_, _, _, _], [_], _, _ => ⟨_, rfl, rfl⟩)
  have B1_Made_init : ∃ ds, Vals [.int 1] ds ∧ Binds K _ P_Made_init ds := D_Made_init.binds1 3 0 (fun z => nomatch z) rfl (fun _ _ _ _ _ _ _ us its hu hi => match us, its, hu, hi with | [_, _, _], [_], _, _ => ⟨_, rfl, rfl⟩)
  have F_Word_init := fun_mk (st := s_Word_init) l_Word_init e_Word_init p_Word_init
  have b_Word_init := F_Word_init.binds (ps := P_Word_init) fun _ _ _ _ _ _ us hl => match us, hl with | [_, _], _ => rfl
  have F_Word_add := fun_mk (st := s_Word_add) l_Word_add e_Word_add p_Word_add
  have b_Word_add := F_Word_add.binds (ps := P_Word_add) fun _ _ _ _ _ _ us hl => match us, hl with | [_, _], _ => rfl
  have F_Word_mul := fun_mk (st := s_Word_mul) l_Word_mul e_Word_mul p_Word_mul
  have b_Word_mul := F_Word_mul.binds (ps := P_Word_mul) fun _ _ _ _ _ _ us hl => match us, hl with | [_, _], _ => rfl
  have F_length := fun_mk (st := s_length) l_length e_length p_length
  have b_length := F_length.binds (ps := P_length) fun _ _ _ _ _ _ us hl => match us, hl with | [_], _ => rfl
  have F_agreeing := fun_mk (st := s_agreeing) l_agreeing e_agreeing p_agreeing
  have b_agreeing := F_agreeing.binds (ps := P_agreeing) fun _ _ _ _ _ _ us hl => match us, hl with | [_, _, _, _], _ => rfl
  have F_cell := fun_mk (st := s_cell) l_cell e_cell p_cell
  have b_cell := F_cell.binds (ps := P_cell) fun _ _ _ _ _ _ us hl => match us, hl with | [_, _], _ => rfl
  have F_digits := fun_mk (st := s_digits) l_digits e_digits p_digits
  have b_digits := F_digits.binds (ps := P_digits) fun _ _ _ _ _ _ us hl => match us, hl with | [_, _], _ => rfl
  have F_entry := fun_mk (st := s_entry) l_entry e_entry p_entry
  have b_entry := F_entry.binds (ps := P_entry) fun _ _ _ _ _ _ us hl => match us, hl with | [_], _ => rfl
  have F_row := fun_mk (st := s_row) l_row e_row p_row
  have b_row := F_row.binds (ps := P_row) fun _ _ _ _ _ _ us hl => match us, hl with | [_, _], _ => rfl
  have F_cut := fun_mk (st := s_cut) l_cut e_cut p_cut
  have b_cut := F_cut.binds (ps := P_cut) fun _ _ _ _ _ _ us hl => match us, hl with | [_, _, _], _ => rfl
  have F_entries := fun_mk (st := s_entries) l_entries e_entries p_entries
  have b_entries := F_entries.binds (ps := P_entries) fun _ _ _ _ _ _ us hl => match us, hl with | [_, _, _], _ => rfl
  have F_getitem := fun_mk (st := s_getitem) l_getitem e_getitem p_getitem
  have b_getitem := F_getitem.binds (ps := P_getitem) fun _ _ _ _ _ _ us hl => match us, hl with | [_, _], _ => rfl
  have F_Word_eq := fun_mk (st := s_Word_eq) l_Word_eq e_Word_eq p_Word_eq
  have b_Word_eq := F_Word_eq.binds (ps := P_Word_eq) fun _ _ _ _ _ _ us hl => match us, hl with | [_, _], _ => rfl
  have F_first_difference := fun_mk (st := s_first_difference) l_first_difference e_first_difference p_first_difference
  have b_first_difference := F_first_difference.binds (ps := P_first_difference) fun _ _ _ _ _ _ us hl => match us, hl with | [_, _], _ => rfl
  have F_alike := fun_mk (st := s_alike) l_alike e_alike p_alike
  have b_alike := F_alike.binds (ps := P_alike) fun _ _ _ _ _ _ us hl => match us, hl with | [_, _], _ => rfl
  have F_far_right := fun_mk (st := s_far_right) l_far_right e_far_right p_far_right
  have b_far_right := F_far_right.binds (ps := P_far_right) fun _ _ _ _ _ _ us hl => match us, hl with | [_], _ => rfl
  have F_nested_right := fun_mk (st := s_nested_right) l_nested_right e_nested_right p_nested_right
  have b_nested_right := F_nested_right.binds (ps := P_nested_right) fun _ _ _ _ _ _ us hl => match us, hl with | [_], _ => rfl
  have F_law := fun_mk (st := s_law) l_law e_law p_law
  refine ⟨PySem.W.fnOf "law" "law" (defArgs s_law) (defBody s_law) (defScope s_law) .none kV_law dc_law pm_law an_law cd_law ct_law, fun s v => .of_eq rfl, fun base _ _ => ?_⟩
  exact law_ok (g := g) T
    ⟨f_is_integer, _, F_is_integer, PySem.W.mg_of X Gn a_is_integer, p_is_integer, b_is_integer⟩
    ⟨f_is_between, _, F_is_between, PySem.W.mg_of X Gn a_is_between, p_is_between, b_is_between⟩
    ⟨f_is_name, _, F_is_name, PySem.W.mg_of X Gn a_is_name, p_is_name, b_is_name⟩
    ⟨f_is_entry, _, F_is_entry, PySem.W.mg_of X Gn a_is_entry, p_is_entry, b_is_entry⟩
    ⟨f_Part_init, _, ⟨mk_Part, a_Part_init, i_Part_init, kc_Part⟩, D_Part_init, PySem.W.mg_of X Gn c_Part, B0_Part_init, B1_Part_init⟩
    ⟨f_joined, _, F_joined, PySem.W.mg_of X Gn a_joined, p_joined, b_joined⟩
    ⟨f_repeated, _, F_repeated, PySem.W.mg_of X Gn a_repeated, p_repeated, b_repeated⟩
    ⟨f_width, _, F_width, PySem.W.mg_of X Gn a_width, p_width, b_width⟩
    ⟨f_opened, _, F_opened, PySem.W.mg_of X Gn a_opened, p_opened, b_opened⟩
    ⟨f_first_unit, _, F_first_unit, PySem.W.mg_of X Gn a_first_unit, p_first_unit, b_first_unit⟩
    ⟨f_behind, _, F_behind, PySem.W.mg_of X Gn a_behind, p_behind, b_behind⟩
    ⟨f_part_of, _, F_part_of, PySem.W.mg_of X Gn a_part_of, p_part_of, b_part_of⟩
    ⟨f_rotated, _, F_rotated, PySem.W.mg_of X Gn a_rotated, p_rotated, b_rotated⟩
    ⟨f_gone_by, _, F_gone_by, PySem.W.mg_of X Gn a_gone_by, p_gone_by, b_gone_by⟩
    ⟨f_alike_ahead, _, F_alike_ahead, PySem.W.mg_of X Gn a_alike_ahead, p_alike_ahead, b_alike_ahead⟩
    ⟨f_run_ahead, _, F_run_ahead, PySem.W.mg_of X Gn a_run_ahead, p_run_ahead, b_run_ahead⟩
    ⟨f_agreement, _, F_agreement, PySem.W.mg_of X Gn a_agreement, p_agreement, b_agreement⟩
    ⟨f_alike_for, _, F_alike_for, PySem.W.mg_of X Gn a_alike_for, p_alike_for, b_alike_for⟩
    ⟨f_check_index, _, F_check_index, PySem.W.mg_of X Gn a_check_index, p_check_index, b_check_index⟩
    ⟨f_Made_init, _, ⟨mk_Made, a_Made_init, i_Made_init, kc_Made⟩, D_Made_init, PySem.W.mg_of X Gn c_Made, B0_Made_init, B1_Made_init⟩
    ⟨f_Word_init, _, ⟨mk_Word, a_Word_init, i_Word_init, kc_Word⟩, F_Word_init, PySem.W.mg_of X Gn c_Word, b_Word_init⟩
    ⟨f_Word_add, _, C_Word, ⟨a_Word_add, i_Word_add, p_Word_add⟩, sf_Word, F_Word_add, b_Word_add⟩
    ⟨f_Word_mul, _, C_Word, ⟨a_Word_mul, i_Word_mul, p_Word_mul⟩, sf_Word, F_Word_mul, b_Word_mul⟩
    ⟨f_length, _, C_Word, ⟨a_length, i_length, p_length⟩, sf_Word, F_length, b_length⟩
    ⟨f_agreeing, _, F_agreeing, PySem.W.mg_of X Gn a_agreeing, p_agreeing, b_agreeing⟩
    ⟨f_cell, _, F_cell, PySem.W.mg_of X Gn a_cell, p_cell, b_cell⟩
    ⟨f_digits, _, F_digits, PySem.W.mg_of X Gn a_digits, p_digits, b_digits⟩
    ⟨f_entry, _, F_entry, PySem.W.mg_of X Gn a_entry, p_entry, b_entry⟩
    ⟨f_row, _, F_row, PySem.W.mg_of X Gn a_row, p_row, b_row⟩
    ⟨f_cut, _, C_Word, ⟨a_cut, i_cut, p_cut⟩, sf_Word, F_cut, b_cut⟩
    ⟨f_entries, _, C_Word, ⟨a_entries, i_entries, p_entries⟩, sf_Word, F_entries, b_entries⟩
    ⟨f_getitem, _, C_Word, ⟨a_getitem, i_getitem, p_getitem⟩, sf_Word, F_getitem, b_getitem⟩
    ⟨f_Word_eq, _, C_Word, ⟨a_Word_eq, i_Word_eq, p_Word_eq⟩, sf_Word, F_Word_eq, b_Word_eq⟩
    ⟨f_first_difference, _, F_first_difference, PySem.W.mg_of X Gn a_first_difference, p_first_difference, b_first_difference⟩
    ⟨f_alike, _, F_alike, PySem.W.mg_of X Gn a_alike, p_alike, b_alike⟩
    ⟨f_far_right, _, F_far_right, PySem.W.mg_of X Gn a_far_right, p_far_right, b_far_right⟩
    ⟨f_nested_right, _, F_nested_right, PySem.W.mg_of X Gn a_nested_right, p_nested_right, b_nested_right⟩
    F_law
theorem walk {l : PySem.W.OpenLaw} {q : Program} {loose : List Str} {XP : (Str → Option Value) → Heap → Prop} {YP : World → Heap → Prop} {d : DefRec} {K : Params → PySem.W.Frag} (hn : l.most = some 63) (hdf : d.params.defaults = [])
    (hY : ∀ (w : World) (h : Heap), YP w h → (K w.params).In h)
    (F : ∀ (w : World) (mg : Str → Option Value) (fa : Addr) (h : Heap), (K w.params).In h → h.Ns mainGlobals mg → mg d.name = some (.ref fa) →
      ∃ fd : FuncData, (∀ (s : Shared) (u : Value), BindsTo s fd ⟨[u], []⟩ [("_law_script", u)]) ∧ ∀ base : Heap, (K w.params).In base → base.Ns mainGlobals mg → FnOk l.prog w (K w.params) mg base CX0 (12 + 2 * 20) fa fd ["_law_script"] (spLawK (K w.params))) :
    PySem.W.WalkO q loose XP YP l.row.toRowW d [] (fun f vs => PySem.call f vs) :=
  L2.walk_of (n := 63) (k := (12 + 2 * 20)) (x := "_law_script") (CX := fun _ => CX0) (sp := fun w => spLawK (K w.params)) hn (by decide) hdf ⟨rfl, by decide, by decide⟩ hY F (fun _ _ a ns hl _ hS => ⟨a, ns, rfl, hS, hl, fun _ => rfl⟩) fun _ _ _ _ _ z => z
end RH
set_option exponentiation.threshold 256
open PySem PySem.W PyProof.Rows
set_option Elab.async false
set_option linter.all false
set_option maxRecDepth 100000 in
set_option maxHeartbeats 0 in
theorem PySem.Challenge.cw_roundheap_k35_whole_far_words_compared_holds : PySem.Challenge.rw_roundheap_k35_whole_far_words_compared.Holds := by
  w_on; o_law; k_head; (case hw => w_witness2)
  k_fill
  refine RH.walk (l := PySem.Challenge.rw_roundheap_k35_whole_far_words_compared) rfl rfl (fun w h Y => PySem.W.kIn_of Y) ?F
  case F =>
    intro w mg fa h KX G hmg
    refine' RH.all_mk KX G hmg ?c_Part ?pg_Part ?hd_Part ?po_Part ?sa_Part ?mk_Part ?kc_Part ?c_Made ?pg_Made ?hd_Made ?po_Made ?sa_Made ?mk_Made ?kc_Made ?c_Word ?pg_Word ?hd_Word ?po_Word ?sa_Word ?mk_Word ?kc_Word ?sf_Word ?k_LETTERS ?r_LETTERS ?k_MOST_LETTERS ?r_MOST_LETTERS ?k_MOST_IN_ROW ?r_MOST_IN_ROW ?k_MOST_DEPTH ?r_MOST_DEPTH ?k_MOST_PIECES ?r_MOST_PIECES ?k_MOST_TOLD ?r_MOST_TOLD ?k_KINDS ?l_KINDS ?t_KINDS ?d_KINDS ?z_KINDS ?v_KINDS ?n_int ?n_bool ?n_str ?n_tuple ?n_list ?n_len ?n_min ?n_max ?n_all ?n_isinstance ?n_range ?a_is_integer ?l_is_integer ?e_is_integer ?p_is_integer ?a_is_between ?l_is_between ?e_is_between ?p_is_between ?a_is_name ?l_is_name ?e_is_name ?p_is_name ?a_is_entry ?l_is_entry ?e_is_entry ?p_is_entry ?a_Part_init ?i_Part_init ?l_Part_init ?e_Part_init ?p_Part_init ?lT_Part_init ?dT_Part_init ?vT_Part_init ?a_joined ?l_joined ?e_joined ?p_joined ?a_repeated ?l_repeated ?e_repeated ?p_repeated ?a_width ?l_width ?e_width ?p_width ?a_opened ?l_opened ?e_opened ?p_opened ?a_first_unit ?l_first_unit ?e_first_unit ?p_first_unit ?a_behind ?l_behind ?e_behind ?p_behind ?a_part_of ?l_part_of ?e_part_of ?p_part_of ?a_rotated ?l_rotated ?e_rotated ?p_rotated ?a_gone_by ?l_gone_by ?e_gone_by ?p_gone_by ?a_alike_ahead ?l_alike_ahead ?e_alike_ahead ?p_alike_ahead ?a_run_ahead ?l_run_ahead ?e_run_ahead ?p_run_ahead ?a_agreement ?l_agreement ?e_agreement ?p_agreement ?a_alike_for ?l_alike_for ?e_alike_for ?p_alike_for ?a_check_index ?l_check_index ?e_check_index ?p_check_index ?a_Made_init ?i_Made_init ?l_Made_init ?e_Made_init ?p_Made_init ?lT_Made_init ?dT_Made_init ?vT_Made_init ?a_Word_init ?i_Word_init ?l_Word_init ?e_Word_init ?p_Word_init ?a_Word_add ?i_Word_add ?l_Word_add ?e_Word_add ?p_Word_add ?a_Word_mul ?i_Word_mul ?l_Word_mul ?e_Word_mul ?p_Word_mul ?a_length ?i_length ?l_length ?e_length ?p_length ?a_agreeing ?l_agreeing ?e_agreeing ?p_agreeing ?a_cell ?l_cell ?e_cell ?p_cell ?a_digits ?l_digits ?e_digits ?p_digits ?a_entry ?l_entry ?e_entry ?p_entry ?a_row ?l_row ?e_row ?p_row ?a_cut ?i_cut ?l_cut ?e_cut ?p_cut ?a_entries ?i_entries ?l_entries ?e_entries ?p_entries ?a_getitem ?i_getitem ?l_getitem ?e_getitem ?p_getitem ?a_Word_eq ?i_Word_eq ?l_Word_eq ?e_Word_eq ?p_Word_eq ?a_first_difference ?l_first_difference ?e_first_difference ?p_first_difference ?a_alike ?l_alike ?e_alike ?p_alike ?a_far_right ?l_far_right ?e_far_right ?p_far_right ?a_nested_right ?l_nested_right ?e_nested_right ?p_nested_right ?a_law ?l_law ?e_law ?p_law ?x_p_letters ?x_p_left ?x_p_right ?x_p_times ?x_p_turned ?x_p_wide ?x_w_part ?x_w_nesting ?x_w_pieces ?x_m_part ?x_m_nesting ?x_m_pieces ?x_part_cl ?x_word_cl ?x_word_ob ?x_word_word ?x_made_cl ?x_cls_get ?x_cls_tk ?x_part_ob ?x_made_ob ?x_part_tup ?x_made_made ?x_list_made ?x_mul_r ?x_mul_i ?x_mul_j ?x_mul_s
    (case c_Part => k_is)
    (case pg_Part => k_is)
    (case hd_Part => k_is)
    (case po_Part => k_is)
    (case sa_Part => k_is)
    (case mk_Part => k_is)
    (case kc_Part => k_is)
    (case c_Made => k_is)
    (case pg_Made => k_is)
    (case hd_Made => k_is)
    (case po_Made => k_is)
    (case sa_Made => k_is)
    (case mk_Made => k_is)
    (case kc_Made => k_is)
    (case c_Word => k_is)
    (case pg_Word => k_is)
    (case hd_Word => k_is)
    (case po_Word => k_is)
    (case sa_Word => k_is)
    (case mk_Word => k_is)
    (case kc_Word => k_is)
    (case sf_Word => k_is)
    (case k_LETTERS => k_is)
    (case r_LETTERS => exact ⟨_, rfl⟩)
    (case k_MOST_LETTERS => k_is)
    (case r_MOST_LETTERS => exact ⟨_, rfl⟩)
    (case k_MOST_IN_ROW => k_is)
    (case r_MOST_IN_ROW => exact ⟨_, rfl⟩)
    (case k_MOST_DEPTH => k_is)
    (case r_MOST_DEPTH => exact ⟨_, rfl⟩)
    (case k_MOST_PIECES => k_is)
    (case r_MOST_PIECES => exact ⟨_, rfl⟩)
    (case k_MOST_TOLD => k_is)
    (case r_MOST_TOLD => exact ⟨_, rfl⟩)
    (case k_KINDS => k_is)
    (case l_KINDS => k_is)
    (case t_KINDS => exact rfl)
    (case d_KINDS => exact rfl)
    (case z_KINDS => decide)
    (case v_KINDS => exact .cons ⟨_, rfl⟩ (.cons ⟨_, rfl⟩ .nil))
    (case n_int => k_is)
    (case n_bool => k_is)
    (case n_str => k_is)
    (case n_tuple => k_is)
    (case n_list => k_is)
    (case n_len => k_is)
    (case n_min => k_is)
    (case n_max => k_is)
    (case n_all => k_is)
    (case n_isinstance => k_is)
    (case n_range => k_is)
    (case a_is_integer => k_is)
    (case l_is_integer => k_is)
    (case e_is_integer => k_is)
    (case p_is_integer => k_is)
    (case a_is_between => k_is)
    (case l_is_between => k_is)
    (case e_is_between => k_is)
    (case p_is_between => k_is)
    (case a_is_name => k_is)
    (case l_is_name => k_is)
    (case e_is_name => k_is)
    (case p_is_name => k_is)
    (case a_is_entry => k_is)
    (case l_is_entry => k_is)
    (case e_is_entry => k_is)
    (case p_is_entry => k_is)
    (case a_Part_init => k_is)
    (case i_Part_init => k_is)
    (case l_Part_init => k_is)
    (case e_Part_init => k_is)
    (case p_Part_init => k_is)
    (case lT_Part_init => k_is)
    (case dT_Part_init => exact rfl)
    (case vT_Part_init => exact .cons rfl .nil)
    (case a_joined => k_is)
    (case l_joined => k_is)
    (case e_joined => k_is)
    (case p_joined => k_is)
    (case a_repeated => k_is)
    (case l_repeated => k_is)
    (case e_repeated => k_is)
    (case p_repeated => k_is)
    (case a_width => k_is)
    (case l_width => k_is)
    (case e_width => k_is)
    (case p_width => k_is)
    (case a_opened => k_is)
    (case l_opened => k_is)
    (case e_opened => k_is)
    (case p_opened => k_is)
    (case a_first_unit => k_is)
    (case l_first_unit => k_is)
    (case e_first_unit => k_is)
    (case p_first_unit => k_is)
    (case a_behind => k_is)
    (case l_behind => k_is)
    (case e_behind => k_is)
    (case p_behind => k_is)
    (case a_part_of => k_is)
    (case l_part_of => k_is)
    (case e_part_of => k_is)
    (case p_part_of => k_is)
    (case a_rotated => k_is)
    (case l_rotated => k_is)
    (case e_rotated => k_is)
    (case p_rotated => k_is)
    (case a_gone_by => k_is)
    (case l_gone_by => k_is)
    (case e_gone_by => k_is)
    (case p_gone_by => k_is)
    (case a_alike_ahead => k_is)
    (case l_alike_ahead => k_is)
    (case e_alike_ahead => k_is)
    (case p_alike_ahead => k_is)
    (case a_run_ahead => k_is)
    (case l_run_ahead => k_is)
    (case e_run_ahead => k_is)
    (case p_run_ahead => k_is)
    (case a_agreement => k_is)
    (case l_agreement => k_is)
    (case e_agreement => k_is)
    (case p_agreement => k_is)
    (case a_alike_for => k_is)
    (case l_alike_for => k_is)
    (case e_alike_for => k_is)
    (case p_alike_for => k_is)
    (case a_check_index => k_is)
    (case l_check_index => k_is)
    (case e_check_index => k_is)
    (case p_check_index => k_is)
    (case a_Made_init => k_is)
    (case i_Made_init => k_is)
    (case l_Made_init => k_is)
    (case e_Made_init => k_is)
    (case p_Made_init => k_is)
    (case lT_Made_init => k_is)
    (case dT_Made_init => exact rfl)
    (case vT_Made_init => exact .cons ⟨_, rfl⟩ .nil)
    (case a_Word_init => k_is)
    (case i_Word_init => k_is)
    (case l_Word_init => k_is)
    (case e_Word_init => k_is)
    (case p_Word_init => k_is)
    (case a_Word_add => k_is)
    (case i_Word_add => k_is)
    (case l_Word_add => k_is)
    (case e_Word_add => k_is)
    (case p_Word_add => k_is)
    (case a_Word_mul => k_is)
    (case i_Word_mul => k_is)
    (case l_Word_mul => k_is)
    (case e_Word_mul => k_is)
    (case p_Word_mul => k_is)
    (case a_length => k_is)
    (case i_length => k_is)
    (case l_length => k_is)
    (case e_length => k_is)
    (case p_length => k_is)
    (case a_agreeing => k_is)
    (case l_agreeing => k_is)
    (case e_agreeing => k_is)
    (case p_agreeing => k_is)
    (case a_cell => k_is)
    (case l_cell => k_is)
    (case e_cell => k_is)
    (case p_cell => k_is)
    (case a_digits => k_is)
    (case l_digits => k_is)
    (case e_digits => k_is)
    (case p_digits => k_is)
    (case a_entry => k_is)
    (case l_entry => k_is)
    (case e_entry => k_is)
    (case p_entry => k_is)
    (case a_row => k_is)
    (case l_row => k_is)
    (case e_row => k_is)
    (case p_row => k_is)
    (case a_cut => k_is)
    (case i_cut => k_is)
    (case l_cut => k_is)
    (case e_cut => k_is)
    (case p_cut => k_is)
    (case a_entries => k_is)
    (case i_entries => k_is)
    (case l_entries => k_is)
    (case e_entries => k_is)
    (case p_entries => k_is)
    (case a_getitem => k_is)
    (case i_getitem => k_is)
    (case l_getitem => k_is)
    (case e_getitem => k_is)
    (case p_getitem => k_is)
    (case a_Word_eq => k_is)
    (case i_Word_eq => k_is)
    (case l_Word_eq => k_is)
    (case e_Word_eq => k_is)
    (case p_Word_eq => k_is)
    (case a_first_difference => k_is)
    (case l_first_difference => k_is)
    (case e_first_difference => k_is)
    (case p_first_difference => k_is)
    (case a_alike => k_is)
    (case l_alike => k_is)
    (case e_alike => k_is)
    (case p_alike => k_is)
    (case a_far_right => k_is)
    (case l_far_right => k_is)
    (case e_far_right => k_is)
    (case p_far_right => k_is)
    (case a_nested_right => k_is)
    (case l_nested_right => k_is)
    (case e_nested_right => k_is)
    (case p_nested_right => k_is)
    (case a_law => k_is)
    (case l_law => k_is)
    (case e_law => k_is)
    (case p_law => k_is)
    (case x_p_letters => k_is)
    (case x_p_left => k_is)
    (case x_p_right => k_is)
    (case x_p_times => k_is)
    (case x_p_turned => k_is)
    (case x_p_wide => k_is)
    (case x_w_part => k_is)
    (case x_w_nesting => k_is)
    (case x_w_pieces => k_is)
    (case x_m_part => k_is)
    (case x_m_nesting => k_is)
    (case x_m_pieces => k_is)
    (case x_part_cl => k_is)
    (case x_word_cl => k_is)
    (case x_word_ob => k_is)
    (case x_word_word => kit_is)
    (case x_made_cl => k_is)
    (case x_cls_get => k_is)
    (case x_cls_tk => k_is)
    (case x_part_ob => k_is)
    (case x_made_ob => k_is)
    (case x_part_tup => kit_is)
    (case x_made_made => kit_is)
    (case x_list_made => kit_is)
    (case x_mul_r => k_is)
    (case x_mul_i => k_is)
    (case x_mul_j => k_is)
    (case x_mul_s => k_is)
#print axioms PySem.Challenge.cw_roundheap_k35_whole_far_words_compared_holds
