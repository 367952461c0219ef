import PyProof.Rows.All
import Wide.All
import OpenK.AllK
import Wide.FinOn
import PyProof.EqAt
import PyProof.EqKinds
import PyProof.TupleCall
import PyProof.MaxThree
import KE.KOpsOwn
import KE.KRevSl
import HandS.ForMost
import HandS.IsInst
import HandS.Wide
import HandS.TupAny
import HandS.Codes
import HandS.Defaults
import HandS.SlotsOwn
import HandS.Style
import HandS.Flow
import PyProof.InstNe
import HandS.More
import PyProof.NeKinds
import HandS.Small
import PyProof.Rows.Range3
import HandS.Deep
import KE.KeyNested
import HandS.DictComp
import PySem.Challenge.RW_roundheap_k33_whole_words_made_otherwise
import HandS.TryOnly
import HandS.Evl
import HandS.Walk
import KE.RegKIsAll
set_option exponentiation.threshold 256
set_option Elab.async false
set_option linter.all false
set_option maxRecDepth 100000
set_option maxHeartbeats 4000000
namespace RH
open PySem PySem.Spec PyProof.Rows L2
section
variable {X : Cx}
/-- min(i, j, k) -/
theorem cr_min3 (hc : X.calm = true) : CallR X (.builtin "min") (fun xs H Q => ∃ i j k, xs = [.int i, .int j, .int k] ∧ Q (.int (min i (min j k))) H) := by
  intro pins s σ H xs us Q I r h
  obtain ⟨i, j, k, rfl, q⟩ := h
  cases r with
  | cons r1 r =>
  cases r with
  | cons r2 r =>
  cases r with
  | cons r3 r =>
  cases r
  obtain ⟨t1, rfl⟩ := r1
  obtain ⟨t2, rfl⟩ := r2
  obtain ⟨t3, rfl⟩ := r3
  refine min_three_ints (I.ok.hd hc) fun h' tk kp => ⟨_, H, I.kept kp, ?_, q⟩
  by_cases h1 : j < i
  · by_cases h2 : k < j
    · rw [if_pos h1, if_pos h2, show min i (min j k) = k by omega]
      exact ⟨_, rfl⟩
    · rw [if_pos h1, if_neg h2, show min i (min j k) = j by omega]
      exact ⟨_, rfl⟩
  · by_cases h2 : k < i
    · rw [if_neg h1, if_pos h2, show min i (min j k) = k by omega]
      exact ⟨_, rfl⟩
    · rw [if_neg h1, if_neg h2, show min i (min j k) = i by omega]
      exact ⟨_, rfl⟩
end

section
variable {prog : Program} {w : World} {A : Around} {E : Value → Shared → Prop} {s : Shared}
theorem adj_back (n : Nat) : Builtin.Slice.sliceAdjust none none (-1) (n : Int) = ((n : Int) - 1, -1) := by
  have h1 : (-1 : Int) < 0 := by decide
  unfold Builtin.Slice.sliceAdjust
  simp only [h1, if_true]
theorem plc_back (n : Nat) : Builtin.Slice.slicePlaces ((n : Int) - 1) (-1) (-1) = n := by
  unfold Builtin.Slice.slicePlaces
  have h1 : ¬ ((-1 : Int) > 0) := by decide
  simp only [h1, if_false]
  by_cases h : (-1 : Int) < (n : Int) - 1
  · simp only [h, if_true]
    have e : ((n : Int) - 1 - -1 - 1) / (- -1) + 1 = (n : Int) := by
      rw [show (- -1 : Int) = 1 by decide, Int.ediv_one]
      omega
    first
      | omega
      | (rw [e]; exact Int.toNat_natCast n)
  · have e : n = 0 := by omega
    subst e
    simp
theorem fm_congr {α β : Type} {f g : α → Option β} : ∀ {l : List α}, (∀ a ∈ l, f a = g a) → l.filterMap f = l.filterMap g
  | [], _ => rfl
  | a :: l, h => by
    rw [List.filterMap_cons, List.filterMap_cons, h a (List.mem_cons_self ..), fm_congr fun b hb => h b (List.mem_cons_of_mem _ hb)]
theorem pick_back (xs : Array Value) : ((List.range xs.size).filterMap fun (m : Nat) => xs[((xs.size : Int) - 1 + (m : Int) * -1).toNat]?).toArray = xs.toList.reverse.toArray := by
  have e : ∀ m ∈ List.range xs.size, xs[((xs.size : Int) - 1 + (m : Int) * -1).toNat]? = (fun (m : Nat) => xs[xs.size - 1 - m]?) m := fun m hm => by
    have := List.mem_range.mp hm
    show xs[((xs.size : Int) - 1 + (m : Int) * -1).toNat]? = xs[xs.size - 1 - m]?
    rw [show ((xs.size : Int) - 1 + (m : Int) * -1).toNat = xs.size - 1 - m by omega]
  rw [fm_congr e]
  have e2 : (fun (m : Nat) => xs[xs.size - 1 - m]?) = ((fun x => xs[x]?) ∘ fun m => xs.size - 1 - m) := rfl
  rw [e2, ← List.filterMap_map, PySem.W.krv_range, List.filterMap_reverse, PySem.W.krv_all]
theorem applied_back {sl : Addr} {vs : Value} {n : Nat} {Q : Int × Int × Nat → Shared → Prop} (hs : s.heap.IsSliceOf sl .none .none vs) (ps : IsPart vs (some (-1)))
    (h : Q ((n : Int) - 1, -1, n) s) : wpAny (model prog w) A (Builtin.Slice.sliceApplied (.ref sl) (pure (n : Int))) Q E s := by
  obtain ⟨os, hos, hcs, hds⟩ := id hs
  unfold Builtin.Slice.sliceApplied Builtin.Slice.sliceFields
  refine wpAny_bind (wpAny_bind (wpAny_field hos hds (x := .none) rfl (wpAny_bind (wpAny_field hos hds (x := .none) rfl (wpAny_bind (wpAny_field hos hds (x := vs) rfl (wpAny_pure ?_)))))))
  refine wpAny_bind (HT.slicePart_ ps ?_)
  show wpAny _ _ (if ((-1 : Int) == 0) = true then _ else _) _ _ s
  rw [if_neg (by decide)]
  refine wpAny_bind (HT.slicePart_ .none (wpAny_bind (HT.slicePart_ .none (wpAny_bind (wpAny_pure ?_)))))
  show wpAny _ _ (match Builtin.Slice.sliceAdjust none none (-1) (n : Int) with | (lo, hi) => pure (lo, (-1 : Int), Builtin.Slice.slicePlaces lo hi (-1))) _ _ s
  rw [adj_back n]
  show wpAny _ _ (pure ((n : Int) - 1, (-1 : Int), Builtin.Slice.slicePlaces ((n : Int) - 1) (-1) (-1))) _ _ s
  rw [plc_back]
  exact wpAny_pure h
theorem getItem_tuple_back {t sl : Addr} {items : Array Value} {vs : Value} {Q : Value → Shared → Prop} (ht : IsTup s.heap t items) (hs : s.heap.IsSliceOf sl .none .none vs) (ps : IsPart vs (some (-1)))
    (h : Q (.ref s.heap.objs.size) { s with heap := s.heap.push { cls := .type "tuple", data := .seq items.toList.reverse.toArray } })
    (hsz : items.size ≤ sizeLine) : wpAny (model prog w) A (getItem (.ref t) (.ref sl)) Q E s := by
  have htake : sizeOk (.seq items.toList.reverse.toArray) := by
    show items.toList.reverse.toArray.size ≤ sizeLine
    rw [List.size_toArray, List.length_reverse, Array.length_toList]
    exact hsz
  obtain ⟨os, hos, hcs, hds⟩ := id hs
  have hTs : s.TypeIs (.ref sl) "slice" := ⟨os, hos, hcs⟩
  unfold getItem
  try with_reducible refine wpAny_holding ?_
  first | refine wpAny_bind (wpAny_pure ?_) | skip
  refine wpAny_bind (wpAny_sequenceKey ht.typeIs (by decide) (wpAny_bind (wpAny_callSpecial?_slot (name := Str.ofString "__getitem__") ht.typeIs PyProof.Rows.slot_tuple_getitem (wpAny_call_entry PyProof.Rows.slot_tuple_getitem ht.typeIs entry_tuple_getitem ?_ (args_tuple_getitem _ _)))))
  show wpAny _ _ (Builtin.Tuple.tupleItemsOf (.ref t) >>= _) _ _ s
  refine wpAny_bind (tupleItemsOf_ ht (wpAny_bind (wpAny_typeOf hTs ?_)))
  rw [if_pos (by decide)]
  refine wpAny_bind (applied_back (n := items.size) hs ps ?_)
  have hno : ¬ ((((items.size : Int) - 1) == 0 && (-1 : Int) == 1 && items.size == items.size) = true) := by
    rw [show ((-1 : Int) == 1) = false by decide, Bool.and_false, Bool.false_and]
    exact Bool.false_ne_true
  show wpAny _ _ (if (((items.size : Int) - 1) == 0 && (-1 : Int) == 1 && items.size == items.size) = true then _ else _) _ _ s
  rw [if_neg hno, pick_back]
  first
    | exact wpAny_bind (m := Builtin.Tuple.tupleExact _) (wpAny_newObj_type (wpAny_pure ⟨_, rfl, wpAny_pure h⟩) htake)
    | exact wpAny_bind (m := Builtin.Tuple.tupleExact _) (wpAny_newObj_type (wpAny_bind (wpAny_pure (wpAny_pure ⟨_, rfl, wpAny_pure h⟩))) htake)
    | exact wpAny_bind (wpAny_bind (m := Builtin.Tuple.tupleExact _) (wpAny_newObj_type (wpAny_pure (wpAny_pure ⟨_, rfl, wpAny_pure h⟩)) htake))
    | exact wpAny_bind (wpAny_bind (m := Builtin.Tuple.tupleExact _) (wpAny_newObj_type (wpAny_pure ⟨_, rfl, wpAny_pure h⟩) htake))
end

section
variable {X : Cx}
/-- t[::-1] -/
def tRevT (K : PySem.W.Frag) (te : TE) : TE := fun σ H Q => te σ H fun x H1 => ∃ a xs, x = .ref a ∧ SqT K H1 a xs ∧ ∀ p, H1 p = none → Q (.ref p) (upd H1 p (.tup xs.reverse))
theorem vals_rev : ∀ {xs : List V} {us : List Value}, Vals xs us → Vals xs.reverse us.reverse
  | _, _, .nil => .nil
  | _, _, .cons r t => by
    rw [List.reverse_cons, List.reverse_cons]
    exact (vals_rev t).append (.cons r .nil)
theorem pe_revT {e : Expr} {te : TE} {k : Nat} {p1 p2 p3 pos : Pos} (he : PE X e te) : PE X (.Subscript e (.Slice none none (some (.UnaryOp .USub (.Constant (.int 1) k p1) p2)) p3) pos) (tRevT X.K te) := by
  constructor
  intro pins s σ H Q I h
  refine Subscript_ (thn (he.run pins s σ H _ I h) fun v s1 ⟨x, H1, I1, r1, a, xs, ex, hx, q⟩ => ?_)
  subst ex
  cases r1
  have hst : PO X (some (.UnaryOp .USub (.Constant (.int 1) k p1) p2)) (tPart (tUn (rU fun i => .int (-i)) (tC (.int 1)))) := po_some (pe_un un_neg pe_int)
  refine wpAny_Slice (thn (po_none.run pins s1 σ H1 (fun o H2 => o = none ∧ H2 = H1) I1 ⟨rfl, rfl⟩) fun vl s2 ⟨l, H2, I2, pl, el, e2⟩ => ?_)
  subst el e2
  refine thn (po_none.run pins s2 σ H2 (fun o H3 => o = none ∧ H3 = H2) I2 ⟨rfl, rfl⟩) fun vu s3 ⟨u, H3, I3, pu, eu, e3⟩ => ?_
  subst eu e3
  refine thn (hst.run pins s3 σ H3 (fun o H4 => o = some (-1) ∧ H4 = H3) I3 ⟨1, rfl, -1, rfl, rfl, rfl⟩) fun vs s4 ⟨o, H4, I4, ps, eo, e4⟩ => ?_
  subst eo e4
  cases pl
  cases pu
  have I5 : Inv X pins σ H4 { s4 with heap := s4.heap.push { cls := .type "slice", data := .fields #[.none, .none, vs] } } := I4.kept (t' := s4.toks) fun b ob z => Heap.get?_push_of_some _ z
  obtain ⟨its, r, ht, hz⟩ := I5.tuple hx
  have hlen := r.length
  show wpAny (model X.prog X.w) X.A (subscriptTail e (.Slice none none (some (.UnaryOp .USub (.Constant (.int 1) k p1) p2)) p3) (.ref a) (.ref s4.heap.objs.size)) (EP X pins σ Q) X.xe { s4 with heap := s4.heap.push { cls := .type "slice", data := .fields #[.none, .none, vs] } }
  refine tail_any (ops := [.ref a, .ref s4.heap.objs.size]) ht.typeIs PyProof.Rows.slot_tuple_getitem.lookup (getItem_tuple_back ht (Heap.IsSliceOf.new _ .none .none vs) ps ?_ (by rw [List.size_toArray]; omega)) (by with_unfolding_all rfl)
  refine ⟨.ref _, _, I5.laid (t' := s4.toks) (o := .tup xs.reverse) (fun b ob z => Heap.get?_push_of_some _ z) (Nat.le_refl _) ?_, rfl, q _ (I5.hok.fresh (Nat.le_refl _))⟩
  exact ⟨by rw [List.length_reverse]; exact hz, _, vals_rev r, IsTup.new _ _⟩
end

/-- what an own operator of the class at C leans on: the def at f of the dunder nm -/
structure OpOf (K : PySem.W.Frag) (C f : Addr) (nm : Str) : Prop where
  at_ : PySem.W.findIn K (.ref C) nm = some (some (.ref f))
  fn : PySem.W.isFn K (.ref f) = true
  first : PySem.W.selfFirst K C = true
section
variable {X : Cx} {CX : CXT} {C f : Addr} {fd : FuncData} {ps : List Str} {ds : List Value} {dvs : List V} {k : Nat} {sp : Sp} {E : XK}
theorem ins_at {pins : List (Addr × Obj)} {σ : L2.St} {H : Hp} {s : Shared} {a dx : Addr} {fs : List (Str × V)} (I : Inv X pins σ H s) (e : H a = some (.ins C dx fs)) : ∃ od, PySem.W.InstAt s.heap a (PySem.W.instObj C dx) C (some od) := by
  obtain ⟨mA, O, _⟩ := ins_get I.hok e
  obtain ⟨od, J, _⟩ := O.look
  exact ⟨od, J⟩
/-- x op y, both of the class at C -/
def rOwn2 (C : Addr) (sp : Sp) (E : XK) : R2 := fun x y H Q => ∃ a dx fs b dy gs, x = .ref a ∧ y = .ref b ∧ H a = some (.ins C dx fs) ∧ H b = some (.ins C dy gs) ∧ sp [x, y] H Q E
theorem op_own2 {op : Operator} (O : OpOf X.K C f (PySem.dunder op.info.2)) (F : FnOk X.prog X.w X.K X.mg X.base CX k f fd ps sp) (hr : Room k X.A) (hb : Binds X.K fd ps []) (hx : Passes CX X E) : OpR X (binaryOp op) (rOwn2 C sp E) := by
  intro pins s σ H x y v u Q I rx ry h
  obtain ⟨a, dx, fs, b, dy, gs, rfl, rfl, ha, hb', q⟩ := h
  cases (show v = Value.ref a from rx)
  cases (show u = Value.ref b from ry)
  obtain ⟨od, J⟩ := ins_at I ha
  obtain ⟨od', J'⟩ := ins_at I hb'
  obtain ⟨m, hF⟩ := I.fr
  refine PySem.W.binop_K hF I.ok.mod.kin J J'.type O.first O.at_ O.fn ?_
  refine thn (run_fn (us := [.ref a, .ref b]) (vs := [.ref a, .ref b]) F hr hb .nil hx I (.cons rfl (.cons rfl .nil)) q) fun w s' z => ?_
  obtain ⟨z', H', I', rz, qz⟩ := z
  exact SlX.cmpback rz ⟨z', H', I', rz, qz⟩
/-- x op n, x of the class at C, n an int -/
structure OpInt (K : PySem.W.Frag) (C : Addr) (nm rn : Str) : Prop where
  rc : ∃ rc, PySem.W.findIn K (.ref C) rn = some rc ∧ (rc = none ∨ ∃ g : Addr, rc = some (.ref g))
  i1 : ∃ fo, PySem.W.findIn K (.type "int") nm = some fo
  i2 : ∃ ro, PySem.W.findIn K (.type "int") rn = some ro
  sub : PySem.W.subIn K (.type "int") (.ref C) = some false
def rOwnI (C : Addr) (sp : Sp) (E : XK) : R2 := fun x y H Q => ∃ a dx fs i, x = .ref a ∧ y = .int i ∧ H a = some (.ins C dx fs) ∧ sp [x, y] H Q E
theorem op_ownI {op : Operator} (O : OpOf X.K C f (PySem.dunder op.info.2)) (O2 : OpInt X.K C (PySem.dunder op.info.2) (PySem.dunderR op.info.2)) (F : FnOk X.prog X.w X.K X.mg X.base CX k f fd ps sp) (hr : Room k X.A) (hb : Binds X.K fd ps []) (hx : Passes CX X E) : OpR X (binaryOp op) (rOwnI C sp E) := by
  intro pins s σ H x y v u Q I rx ry h
  obtain ⟨a, dx, fs, i, rfl, rfl, ha, q⟩ := h
  cases (show v = Value.ref a from rx)
  obtain ⟨t, rfl⟩ := (show ∃ t, u = Value.int i t from ry)
  obtain ⟨od, J⟩ := ins_at I ha
  obtain ⟨m, hF⟩ := I.fr
  obtain ⟨rc, hrc, hp⟩ := O2.rc
  obtain ⟨fo, h1⟩ := O2.i1
  obtain ⟨ro, h2⟩ := O2.i2
  refine PySem.W.ksp_binT (T := "int") hF I.ok.mod.kin J rfl O.first O.at_ O.fn hrc hp h1 h2 O2.sub ?_
  refine thn (run_fn (us := [.ref a, .int i t]) (vs := [.ref a, .int i]) F hr hb .nil hx I (.cons rfl (.cons ⟨t, rfl⟩ .nil)) q) fun w s' z => ?_
  obtain ⟨z', H', I', rz, qz⟩ := z
  exact SlX.cmpback rz ⟨z', H', I', rz, qz⟩
end
end RH
set_option exponentiation.threshold 256
set_option Elab.async false
set_option linter.all false
namespace RH
section
variable {α : Type}
/-- w, n times -/
def rp (n : Nat) (w : List α) : List α := (List.replicate n w).flatten
theorem rp_zero (w : List α) : rp 0 w = [] := rfl
theorem rp_succ (n : Nat) (w : List α) : rp (n + 1) w = w ++ rp n w := by
  unfold rp; rw [List.replicate_succ, List.flatten_cons]
theorem rp_one (w : List α) : rp 1 w = w := by rw [rp_succ, rp_zero, List.append_nil]
theorem rp_len (n : Nat) (w : List α) : (rp n w).length = n * w.length := by
  induction n with
  | zero => rw [rp_zero, Nat.zero_mul]; rfl
  | succ n ih => rw [rp_succ, List.length_append, ih, Nat.succ_mul]; omega
theorem rp_add (m n : Nat) (w : List α) : rp (m + n) w = rp m w ++ rp n w := by
  induction m with
  | zero => rw [Nat.zero_add, rp_zero, List.nil_append]
  | succ m ih => rw [Nat.succ_add, rp_succ, rp_succ, ih, List.append_assoc]
theorem rp_mul (m n : Nat) (w : List α) : rp n (rp m w) = rp (m * n) w := by
  induction n with
  | zero => rw [rp_zero, Nat.mul_zero, rp_zero]
  | succ n ih => rw [rp_succ, ih, Nat.mul_succ, Nat.add_comm, rp_add]
theorem rp_nil (n : Nat) : rp n ([] : List α) = [] := by
  have h := rp_len n ([] : List α)
  exact List.eq_nil_of_length_eq_zero (by rw [h]; simp)
theorem rp_ne {n : Nat} {w : List α} (hn : 1 ≤ n) (hw : w ≠ []) : rp n w ≠ [] := by
  obtain ⟨m, rfl⟩ : ∃ m, n = m + 1 := ⟨n - 1, by omega⟩
  rw [rp_succ]
  intro h
  exact hw (List.append_eq_nil_iff.mp h).1
theorem rp_get {w : List α} (hw : w ≠ []) : ∀ (n i : Nat), i < n * w.length → (rp n w)[i]? = w[i % w.length]?
  | 0, i, h => by rw [Nat.zero_mul] at h; omega
  | n + 1, i, h => by
    have hp : 0 < w.length := List.length_pos_iff.mpr hw
    rw [rp_succ]
    by_cases hi : i < w.length
    · rw [List.getElem?_append_left hi, Nat.mod_eq_of_lt hi]
    · rw [List.getElem?_append_right (by omega), rp_get hw n (i - w.length) (by rw [Nat.succ_mul] at h; omega)]
      rw [show i % w.length = (i - w.length) % w.length from Nat.mod_eq_sub_mod (by omega)]
theorem rp_drop {w : List α} {n q : Nat} (h : q ≤ n) : (rp n w).drop (q * w.length) = rp (n - q) w := by
  obtain ⟨k, rfl⟩ : ∃ k, n = q + k := ⟨n - q, by omega⟩
  rw [rp_add, ← rp_len q w, List.drop_left, Nat.add_sub_cancel_left]
/-- turned by k -/
def rot (k : Nat) (w : List α) : List α := w.drop k ++ w.take k
theorem rot_len (k : Nat) (w : List α) : (rot k w).length = w.length := by
  unfold rot; rw [List.length_append, List.length_drop, List.length_take]; omega
theorem rot_zero (w : List α) : rot 0 w = w := by unfold rot; simp
theorem rot_get {w : List α} {k i : Nat} (hk : k ≤ w.length) (hi : i < w.length) : (rot k w)[i]? = w[(i + k) % w.length]? := by
  unfold rot
  by_cases h : i < w.length - k
  · rw [List.getElem?_append_left (by rw [List.length_drop]; exact h), List.getElem?_drop, Nat.mod_eq_of_lt (by omega), Nat.add_comm]
  · rw [List.getElem?_append_right (by rw [List.length_drop]; omega), List.length_drop, List.getElem?_take_of_lt (by omega)]
    rw [show (i + k) % w.length = i - (w.length - k) by
      rw [Nat.mod_eq_sub_mod (by omega), Nat.mod_eq_of_lt (by omega)]; omega]
theorem rot_rot {w : List α} {k m : Nat} (hk : k ≤ w.length) (hm : m ≤ w.length) : rot m (rot k w) = rot ((k + m) % w.length) w := by
  by_cases h0 : w.length = 0
  · have e : w = [] := List.eq_nil_of_length_eq_zero h0
    subst e; simp [rot]
  have hp : 0 < w.length := by omega
  apply List.ext_getElem?
  intro i
  by_cases hi : i < w.length
  · have h1 : ((k + m) % w.length) ≤ w.length := Nat.le_of_lt (Nat.mod_lt _ hp)
    have h2 : (i + m) % w.length < w.length := Nat.mod_lt _ hp
    rw [rot_get (by rw [rot_len]; exact hm) (by rw [rot_len]; exact hi), rot_len, rot_get hk h2, rot_get h1 hi]
    congr 1
    rw [Nat.add_mod ((i + m) % w.length) k, Nat.mod_mod, ← Nat.add_mod, Nat.add_mod i ((k + m) % w.length), Nat.mod_mod, ← Nat.add_mod]
    congr 1
    omega
  · rw [List.getElem?_eq_none (by rw [rot_len, rot_len]; omega), List.getElem?_eq_none (by rw [rot_len]; omega)]
/-- behind many letters of w, n times: the turned word, n - 1 times, and what is left of the last -/
theorem rp_turn {w : List α} {n m : Nat} (hn : 1 ≤ n) (hm : m ≤ w.length) : (rp n w).drop m = rp (n - 1) (rot m w) ++ w.drop m := by
  obtain ⟨k, rfl⟩ : ∃ k, n = k + 1 := ⟨n - 1, by omega⟩
  rw [Nat.add_sub_cancel]
  induction k with
  | zero => rw [rp_one, rp_zero, List.nil_append]
  | succ k ih =>
    rw [rp_succ, List.drop_append_of_le_length hm]
    have e : rp (k + 1) w = w.take m ++ (rp (k + 1) w).drop m := by
      rw [rp_succ, List.drop_append_of_le_length hm, ← List.append_assoc, List.take_append_drop]
    rw [e, ih (by omega), rp_succ]
    unfold rot
    simp only [List.append_assoc]
/-- k is how long x and y agree, up to m -/
structure Agr (x y : List α) (m k : Nat) : Prop where
  le : k ≤ m
  eq : x.take k = y.take k
  ne : k < m → x[k]? ≠ y[k]?
theorem Agr.symm {x y : List α} {m k : Nat} (a : Agr x y m k) : Agr y x m k := ⟨a.le, a.eq.symm, fun h e => a.ne h e.symm⟩
theorem Agr.uniq {x y : List α} {m k l : Nat} (a : Agr x y m k) (b : Agr x y m l) : k = l := by
  rcases Nat.lt_trichotomy k l with h | h | h
  · have e := congrArg (fun z : List α => z[k]?) b.eq
    simp only [List.getElem?_take_of_lt h] at e
    exact absurd e (a.ne (Nat.lt_of_lt_of_le h b.le))
  · exact h
  · have e := congrArg (fun z : List α => z[l]?) a.eq
    simp only [List.getElem?_take_of_lt h] at e
    exact absurd e (b.ne (Nat.lt_of_lt_of_le h a.le))
theorem take_eq_of_get {x y : List α} {k : Nat} (h : ∀ i, i < k → x[i]? = y[i]?) : x.take k = y.take k := by
  apply List.ext_getElem?
  intro i
  by_cases hi : i < k
  · rw [List.getElem?_take_of_lt hi, List.getElem?_take_of_lt hi, h i hi]
  · rw [List.getElem?_take_eq_none (by omega), List.getElem?_take_eq_none (by omega)]
theorem get_of_take_eq {x y : List α} {k i : Nat} (h : x.take k = y.take k) (hi : i < k) : x[i]? = y[i]? := by
  have e := congrArg (fun z : List α => z[i]?) h
  simpa only [List.getElem?_take_of_lt hi] using e
/-- agreement goes on behind f letters that agree -/
theorem Agr.behind {x y : List α} {f m k : Nat} (hf : x.take f = y.take f) (a : Agr (x.drop f) (y.drop f) m k) : Agr x y (f + m) (f + k) := by
  refine ⟨by have := a.le; omega, take_eq_of_get fun i hi => ?_, fun h => ?_⟩
  · by_cases hi2 : i < f
    · exact get_of_take_eq hf hi2
    · have e := get_of_take_eq a.eq (show i - f < k by omega)
      rw [List.getElem?_drop, List.getElem?_drop, show f + (i - f) = i by omega] at e
      exact e
  · have e := a.ne (by omega)
    rw [List.getElem?_drop, List.getElem?_drop] at e
    exact e
theorem Agr.congr {x y x' y' : List α} {m k : Nat} (hx : x.take m = x'.take m) (hy : y.take m = y'.take m) (a : Agr x y m k) : Agr x' y' m k := by
  refine ⟨a.le, take_eq_of_get fun i hi => ?_, fun h => ?_⟩
  · rw [← get_of_take_eq hx (Nat.lt_of_lt_of_le hi a.le), ← get_of_take_eq hy (Nat.lt_of_lt_of_le hi a.le)]
    exact get_of_take_eq a.eq hi
  · rw [← get_of_take_eq hx h, ← get_of_take_eq hy h]
    exact a.ne h
theorem Agr.mono {x y : List α} {m m' k : Nat} (a : Agr x y m k) (h : k < m) (hm : m ≤ m') : Agr x y m' k := ⟨by have := a.le; omega, a.eq, fun _ => a.ne h⟩
/-- two words that are repeated agree for ever if they agree as far as both are long -/
theorem two_periods {u v : List α} (hu : u ≠ []) (hv : v ≠ []) (h : ∀ i, i < u.length + v.length → u[i % u.length]? = v[i % v.length]?) : ∀ i, u[i % u.length]? = v[i % v.length]? := by
  have pu : 0 < u.length := List.length_pos_iff.mpr hu
  have pv : 0 < v.length := List.length_pos_iff.mpr hv
  intro i
  induction i using Nat.strongRecOn with
  | _ i ih =>
    by_cases hi : i < u.length + v.length
    · exact h i hi
    · have a1 := ih (i - u.length) (by omega)
      have a2 := ih (i - u.length - v.length) (by omega)
      have a3 := ih (i - v.length) (by omega)
      have e1 : u[i % u.length]? = u[(i - u.length) % u.length]? := by rw [Nat.mod_eq_sub_mod (a := i) (by omega)]
      have e2 : v[(i - u.length) % v.length]? = v[(i - u.length - v.length) % v.length]? := by rw [Nat.mod_eq_sub_mod (a := i - u.length) (by omega)]
      have e3 : u[(i - v.length) % u.length]? = u[(i - u.length - v.length) % u.length]? := by
        rw [Nat.mod_eq_sub_mod (a := i - v.length) (by omega), show i - v.length - u.length = i - u.length - v.length by omega]
      have e4 : v[i % v.length]? = v[(i - v.length) % v.length]? := by rw [Nat.mod_eq_sub_mod (a := i) (by omega)]
      rw [e1, a1, e2, ← a2, ← e3, a3, ← e4]
theorem rp_agree {u v : List α} (hu : u ≠ []) (hv : v ≠ []) {M s t m : Nat} (hM : u.length + v.length ≤ M) (h : (rp M u).take (u.length + v.length) = (rp M v).take (u.length + v.length)) (hs : m ≤ s * u.length) (ht : m ≤ t * v.length) :
    (rp s u).take m = (rp t v).take m := by
  have pu : 0 < u.length := List.length_pos_iff.mpr hu
  have pv : 0 < v.length := List.length_pos_iff.mpr hv
  have k := two_periods hu hv fun i hi => by
    have e := get_of_take_eq h hi
    have h1 : M * 1 ≤ M * u.length := Nat.mul_le_mul_left M pu
    have h2 : M * 1 ≤ M * v.length := Nat.mul_le_mul_left M pv
    rw [rp_get hu M i (by omega), rp_get hv M i (by omega)] at e
    exact e
  exact take_eq_of_get fun i hi => by rw [rp_get hu s i (by omega), rp_get hv t i (by omega)]; exact k i
end
end RH
set_option exponentiation.threshold 256
set_option Elab.async false
set_option linter.all false
set_option maxRecDepth 100000
set_option maxHeartbeats 4000000
namespace RH
open PySem PySem.Spec PyProof.Rows L2
/-- the written part and the classes of the text -/
structure G where
  K : PySem.W.Frag
  part : Addr
  made : Addr
  word : Addr
  kinds : Addr
  walk : Addr := 0
  pass : Addr := 0
/-- an entry of a log -/
structure Ent where
  k : Str
  t : Option Str
deriving DecidableEq
def tagV : Option Str → V
  | none => .non
  | some x => .str x
theorem tagV_inj {a b : Option Str} (h : tagV a = tagV b) : a = b := by
  cases a <;> cases b <;> first | rfl | (cases h; done) | (injection h with h; rw [h])
/-- its texts are texts -/
structure EntS (e : Ent) : Prop where
  k : PyData.strOk e.k = true
  t : ∀ x, e.t = some x → PyData.strOk x = true
def EntV (H : Hp) (e : Ent) (v : V) : Prop := EntS e ∧ ∃ a, v = .ref a ∧ H a = some (.tup [.str e.k, tagV e.t])
def EntsV (H : Hp) : List Ent → List V → Prop
  | [], [] => True
  | e :: es, v :: vs => EntV H e v ∧ EntsV H es vs
  | _, _ => False
section
variable {H H' : Hp}
theorem EntV.mono {e : Ent} {v : V} (s : Same H H') (h : EntV H e v) : EntV H' e v := by
  obtain ⟨es, a, rfl, h⟩ := h
  exact ⟨es, a, rfl, s _ _ h⟩
theorem EntsV.mono (s : Same H H') : ∀ {es : List Ent} {vs : List V}, EntsV H es vs → EntsV H' es vs
  | [], [], _ => trivial
  | _ :: _, _ :: _, h => ⟨h.1.mono s, EntsV.mono s h.2⟩
  | [], _ :: _, h => h.elim
  | _ :: _, [], h => h.elim
theorem EntsV.len : ∀ {es : List Ent} {vs : List V}, EntsV H es vs → vs.length = es.length
  | [], [], _ => rfl
  | _ :: _, _ :: _, h => by rw [List.length_cons, List.length_cons, EntsV.len h.2]
  | [], _ :: _, h => h.elim
  | _ :: _, [], h => h.elim
theorem EntsV.append : ∀ {es fs : List Ent} {vs ws : List V}, EntsV H es vs → EntsV H fs ws → EntsV H (es ++ fs) (vs ++ ws)
  | [], _, [], _, _, h => h
  | _ :: _, _, _ :: _, _, h, k => ⟨h.1, EntsV.append h.2 k⟩
  | [], _, _ :: _, _, h, _ => h.elim
  | _ :: _, _, [], _, h, _ => h.elim
theorem EntsV.take : ∀ (n : Nat) {es : List Ent} {vs : List V}, EntsV H es vs → EntsV H (es.take n) (vs.take n)
  | 0, _, _, _ => by simp [EntsV]
  | _ + 1, [], [], _ => trivial
  | n + 1, _ :: _, _ :: _, h => ⟨h.1, EntsV.take n h.2⟩
  | _ + 1, [], _ :: _, h => h.elim
  | _ + 1, _ :: _, [], h => h.elim
theorem EntsV.drop : ∀ (n : Nat) {es : List Ent} {vs : List V}, EntsV H es vs → EntsV H (es.drop n) (vs.drop n)
  | 0, _, _, h => h
  | _ + 1, [], [], _ => trivial
  | n + 1, _ :: _, _ :: _, h => EntsV.drop n h.2
  | _ + 1, [], _ :: _, h => h.elim
  | _ + 1, _ :: _, [], h => h.elim
theorem EntsV.get : ∀ {es : List Ent} {vs : List V} {i : Nat} {v : V}, EntsV H es vs → vs[i]? = some v → ∃ e, es[i]? = some e ∧ EntV H e v
  | [], [], _, _, _, h => by simp at h
  | e :: _, _ :: _, 0, v, h, q => by
    simp at q; subst q
    exact ⟨e, rfl, h.1⟩
  | _ :: _, _ :: _, i + 1, v, h, q => by
    simp at q
    obtain ⟨e, h1, h2⟩ := EntsV.get h.2 q
    exact ⟨e, by simpa using h1, h2⟩
  | [], _ :: _, _, _, h, _ => h.elim
  | _ :: _, [], _, _, h, _ => h.elim
theorem EntsV.get' {es : List Ent} {vs : List V} {i : Nat} {e : Ent} (h : EntsV H es vs) (q : es[i]? = some e) : ∃ v, vs[i]? = some v ∧ EntV H e v := by
  obtain ⟨hi, he⟩ := List.getElem?_eq_some_iff.mp q
  have hv : i < vs.length := by rw [h.len]; exact hi
  obtain ⟨e', h1, h2⟩ := h.get (List.getElem?_eq_getElem hv)
  rw [q] at h1
  cases h1
  exact ⟨_, List.getElem?_eq_getElem hv, h2⟩
theorem EntsV.reverse {es : List Ent} : ∀ {vs : List V}, EntsV H es vs → EntsV H es.reverse vs.reverse := by
  induction es with
  | nil => intro vs h; cases vs with
    | nil => exact trivial
    | cons v vs => exact h.elim
  | cons e es ih => intro vs h; cases vs with
    | nil => exact h.elim
    | cons v vs =>
      rw [List.reverse_cons, List.reverse_cons]
      exact (ih h.2).append ⟨h.1, trivial⟩
end
def tagD : Option Str → PyData
  | none => .none
  | some x => .str x
def entD (e : Ent) : PyData := .tuple [.str e.k, tagD e.t]
/-- the fields of a Part -/
def pf (l lv rv t tf w : V) : List (Str × V) := [("letters", l), ("left", lv), ("right", rv), ("times", t), ("turned_from", tf), ("wide", w)]
/-- what turned_from says -/
def TurnOk (H : Hp) (tf bv : V) (k : Nat) (w wb : List Ent) : Prop :=
  tf = .non ∨ ∃ t, tf = .ref t ∧ H t = some (.tup [bv, .int k]) ∧ 0 < k ∧ k < wb.length ∧ w = rot k wb
theorem TurnOk.mono {H H' : Hp} {tf bv : V} {k : Nat} {w wb : List Ent} (s : Same H H') (h : TurnOk H tf bv k w wb) : TurnOk H' tf bv k w wb := by
  rcases h with h | ⟨t, h1, h2, h3⟩
  · exact .inl h
  · exact .inr ⟨t, h1, s _ _ h2, h3⟩
/-- a Part at v: its word, a bound of its products' depth, its size -/
inductive PR (C : Addr) (H : Hp) : V → List Ent → Nat → Nat → Prop where
  | leaf {a dx l : Addr} {es : List V} {row wb : List Ent} {t tf bv : V} {k d zb : Nat} (ha : H a = some (.ins C dx (pf (.ref l) .non .non t tf (.int (row.length : Nat))))) (hl : H l = some (.tup es)) (he : EntsV H row es)
      (ht : TurnOk H tf bv k row wb) (hb : tf ≠ .non → PR C H bv wb d zb) : PR C H (.ref a) row d (2 * row.length + 1)
  | rep {a dx l : Addr} {lv tf bv : V} {w wb : List Ent} {n k d z zb : Nat} (ha : H a = some (.ins C dx (pf (.ref l) lv .non (.int (n : Nat)) tf (.int ((n * w.length : Nat) : Int))))) (hl : H l = some (.tup []))
      (hn : 1 ≤ n) (hw : w ≠ []) (hp : PR C H lv w d z) (ht : TurnOk H tf bv k (rp n w) wb) (hb : tf ≠ .non → PR C H bv wb (d + 1) zb) : PR C H (.ref a) (rp n w) (d + 1) (z + 3)
  | cat {a dx l : Addr} {lv rv t tf bv : V} {w1 w2 wb : List Ent} {k d z1 z2 zb : Nat} (ha : H a = some (.ins C dx (pf (.ref l) lv rv t tf (.int ((w1.length + w2.length : Nat) : Int))))) (hl : H l = some (.tup []))
      (h1 : w1 ≠ []) (h2 : w2 ≠ []) (hp : PR C H lv w1 d z1) (hq : PR C H rv w2 d z2) (ht : TurnOk H tf bv k (w1 ++ w2) wb) (hb : tf ≠ .non → PR C H bv wb d zb) : PR C H (.ref a) (w1 ++ w2) d (z1 + z2 + 5)
section
variable {C : Addr} {H H' : Hp}
theorem PR.mono (s : Same H H') {v : V} {w : List Ent} {d z : Nat} (h : PR C H v w d z) : PR C H' v w d z := by
  induction h with
  | leaf ha hl he ht hb ih => exact .leaf (s _ _ ha) (s _ _ hl) (he.mono s) (ht.mono s) ih
  | rep ha hl hn hw hp ht hb ih1 ih2 => exact .rep (s _ _ ha) (s _ _ hl) hn hw ih1 (ht.mono s) ih2
  | cat ha hl h1 h2 hp hq ht hb ih1 ih2 ih3 => exact .cat (s _ _ ha) (s _ _ hl) h1 h2 ih1 ih2 (ht.mono s) ih3
theorem PR.up {v : V} {w : List Ent} {d z : Nat} (h : PR C H v w d z) : ∀ {d' : Nat}, d ≤ d' → PR C H v w d' z := by
  induction h with
  | leaf ha hl he ht hb ih => intro d' hd; exact .leaf ha hl he ht fun q => ih q hd
  | rep ha hl hn hw hp ht hb ih1 ih2 =>
    intro d' hd
    obtain ⟨e, rfl⟩ : ∃ e, d' = e + 1 := ⟨d' - 1, by omega⟩
    exact .rep ha hl hn hw (ih1 (by omega)) ht fun q => ih2 q hd
  | cat ha hl h1 h2 hp hq ht hb ih1 ih2 ih3 => intro d' hd; exact .cat ha hl h1 h2 (ih1 hd) (ih2 hd) ht fun q => ih3 q hd
theorem PR.ref {v : V} {w : List Ent} {d z : Nat} (h : PR C H v w d z) : ∃ a, v = .ref a := by
  cases h <;> exact ⟨_, rfl⟩
theorem PR.ins {v : V} {w : List Ent} {d z : Nat} (h : PR C H v w d z) : ∃ a dx l lv rv t tf, v = .ref a ∧ H a = some (.ins C dx (pf l lv rv t tf (.int (w.length : Nat)))) := by
  cases h with
  | leaf ha => exact ⟨_, _, _, _, _, _, _, rfl, ha⟩
  | rep ha => exact ⟨_, _, _, _, _, _, _, rfl, by rw [rp_len]; exact ha⟩
  | cat ha => exact ⟨_, _, _, _, _, _, _, rfl, by rw [List.length_append]; exact ha⟩
end
/-- a unit: its word, how often it stands, none for an entry or the depth and size of a part -/
structure UD where
  w : List Ent
  t : Nat
  s : Option (Nat × Nat)
def UnV (C : Addr) (H : Hp) (u : UD) (v : V) : Prop := match u.s with
  | none => u.t ≤ 1 ∧ ∃ e, u.w = [e] ∧ EntV H e v
  | some (d, z) => u.w ≠ [] ∧ PR C H v u.w d z
def UR (C : Addr) (H : Hp) : List UD → V → Prop
  | [], v => v = .non
  | u :: us, v => ∃ a uv r, v = .ref a ∧ H a = some (.tup [uv, .int (u.t : Nat), r]) ∧ UnV C H u uv ∧ UR C H us r
def den : List UD → List Ent
  | [] => []
  | u :: us => rp u.t u.w ++ den us
theorem den_append : ∀ a b : List UD, den (a ++ b) = den a ++ den b
  | [], b => rfl
  | u :: a, b => by
    show rp u.t u.w ++ den (a ++ b) = (rp u.t u.w ++ den a) ++ den b
    rw [den_append a b, List.append_assoc]
section
variable {C : Addr} {H H' : Hp}
theorem UnV.mono (s : Same H H') {u : UD} {v : V} (h : UnV C H u v) : UnV C H' u v := by
  unfold UnV at h ⊢
  split at h
  · obtain ⟨h0, e, h1, h2⟩ := h
    exact ⟨h0, e, h1, h2.mono s⟩
  · exact ⟨h.1, h.2.mono s⟩
theorem UnV.ne {u : UD} {v : V} (h : UnV C H u v) : u.w ≠ [] := by
  unfold UnV at h
  split at h
  · obtain ⟨_, e, h1, _⟩ := h
    rw [h1]
    exact List.cons_ne_nil _ _
  · exact h.1
theorem UnV.pos {u : UD} {v : V} (h : UnV C H u v) : 0 < u.w.length := List.length_pos_iff.mpr h.ne
theorem UR.mono (s : Same H H') : ∀ {us : List UD} {v : V}, UR C H us v → UR C H' us v
  | [], _, h => h
  | _ :: _, _, ⟨a, uv, r, h1, h2, h3, h4⟩ => ⟨a, uv, r, h1, s _ _ h2, h3.mono s, UR.mono s h4⟩
end
def uz (u : UD) : Nat := match u.s with
  | none => 0
  | some (_, z) => z
def usz : List UD → Nat
  | [] => 0
  | u :: us => 2 + uz u + usz us
theorem usz_append : ∀ a b : List UD, usz (a ++ b) = usz a + usz b
  | [], b => (Nat.zero_add _).symm
  | u :: a, b => by
    show 2 + uz u + usz (a ++ b) = 2 + uz u + usz a + usz b
    rw [usz_append a b]
    omega
/-- steps of going along m letters -/
def stp : List UD → Nat → Nat
  | [], _ => 0
  | u :: us, m => 1 + (if u.t * u.w.length ≤ m then stp us (m - u.t * u.w.length) else if m % u.w.length = 0 then 0 else uz u + 1)
theorem stp_in : ∀ (cs us : List UD) (m : Nat), m < (den cs).length → stp (cs ++ us) m ≤ usz cs
  | [], us, m, h => by cases h
  | c :: cs, us, m, h => by
    have e : (den (c :: cs)).length = c.t * c.w.length + (den cs).length := by
      show (rp c.t c.w ++ den cs).length = _
      rw [List.length_append, rp_len]
    rw [e] at h
    show 1 + (if c.t * c.w.length ≤ m then stp (cs ++ us) (m - c.t * c.w.length) else if m % c.w.length = 0 then 0 else uz c + 1) ≤ 2 + uz c + usz cs
    by_cases h1 : c.t * c.w.length ≤ m
    · rw [if_pos h1]
      have := stp_in cs us (m - c.t * c.w.length) (by omega)
      omega
    · rw [if_neg h1]
      split <;> omega
def rkm (u : UD) (m : Nat) : Nat := match u.s with
  | none => 0
  | some (d, _) => if u.t = 0 then 0 else if u.t = 1 then 2 * d else if m ≤ u.w.length then 2 * d + 1 else 2 * d + 2
def rkx (u : UD) : Nat := match u.s with
  | none => 0
  | some (d, _) => if u.t ≤ 1 then 2 * d else 2 * d + 2
theorem rkm_le (u : UD) (m : Nat) : rkm u m ≤ rkx u := by
  unfold rkm rkx
  split <;> (try split) <;> (try split) <;> (try split) <;> (try split) <;> omega
def Rk (R : Nat) : List UD → Nat → Prop
  | [], _ => True
  | u :: us, m => m = 0 ∨ (rkm u m ≤ R ∧ Rk R us (m - u.t * u.w.length))
theorem Rk.zero {R : Nat} : ∀ {us : List UD}, Rk R us 0
  | [] => trivial
  | _ :: _ => .inl rfl
theorem rkm_down (u : UD) {m m' : Nat} (h : m' ≤ m) : rkm u m' ≤ rkm u m := by
  unfold rkm
  split
  · exact Nat.le_refl _
  · split
    · exact Nat.le_refl _
    · split
      · exact Nat.le_refl _
      · split <;> split <;> omega
theorem Rk.down {R : Nat} : ∀ {us : List UD} {m m' : Nat}, m' ≤ m → Rk R us m → Rk R us m'
  | [], _, _, _, _ => trivial
  | u :: us, m, m', h, q => by
    rcases q with q | ⟨q1, q2⟩
    · exact .inl (by omega)
    · exact .inr ⟨Nat.le_trans (rkm_down u h) q1, Rk.down (Nat.sub_le_sub_right h _) q2⟩
theorem Rk.up {R R' : Nat} (hR : R ≤ R') : ∀ {us : List UD} {m : Nat}, Rk R us m → Rk R' us m
  | [], _, _ => trivial
  | u :: us, m, q => q.elim .inl fun q => .inr ⟨Nat.le_trans q.1 hR, Rk.up hR q.2⟩
theorem Rk.cons {R : Nat} {u : UD} {us : List UD} {m : Nat} (h1 : rkm u m ≤ R) (h2 : Rk R us (m - u.t * u.w.length)) : Rk R (u :: us) m := .inr ⟨h1, h2⟩
theorem Rk.head {R : Nat} {u : UD} {us : List UD} {m : Nat} (h : Rk R (u :: us) m) (hm : 0 < m) : rkm u m ≤ R := h.elim (fun z => by omega) fun z => z.1
theorem Rk.tail {R : Nat} {u : UD} {us : List UD} {m : Nat} (h : Rk R (u :: us) m) : Rk R us (m - u.t * u.w.length) := h.elim (fun z => by subst z; rw [Nat.zero_sub]; exact Rk.zero) fun z => z.2
/-- units of small ranks ahead -/
theorem Rk.front {R : Nat} : ∀ {cs us : List UD} {m : Nat}, (∀ c ∈ cs, rkx c ≤ R) → Rk R us (m - (den cs).length) → Rk R (cs ++ us) m
  | [], us, m, _, h => by
    have e : (den []).length = 0 := rfl
    rw [e, Nat.sub_zero] at h
    exact h
  | c :: cs, us, m, hc, h => by
    have e : (den (c :: cs)).length = c.t * c.w.length + (den cs).length := by
      show (rp c.t c.w ++ den cs).length = _
      rw [List.length_append, rp_len]
    refine .inr ⟨Nat.le_trans (rkm_le c m) (hc c (List.mem_cons_self ..)), Rk.front (fun x hx => hc x (List.mem_cons_of_mem _ hx)) ?_⟩
    rw [Nat.sub_sub, ← e]
    exact h
/-- the depth of a unit -/
def udp (u : UD) : Nat := match u.s with
  | none => 0
  | some (d, _) => if u.t ≤ 1 then d else d + 1
theorem rkx_udp (u : UD) : rkx u = 2 * udp u := by
  unfold rkx udp
  split
  · rfl
  · split <;> omega
end RH
set_option exponentiation.threshold 256
set_option Elab.async false
set_option linter.all false
set_option maxRecDepth 100000
set_option maxHeartbeats 4000000
namespace RH
open PySem PySem.Spec PyProof.Rows L2
@[irreducible] def rAddI : R2 := rI0 fun i j => .int (i + j)
@[irreducible] def rSubI : R2 := rI0 fun i j => .int (i - j)
@[irreducible] def rMulI : R2 := rI CMulW fun i j => .int (i * j)
@[irreducible] def rDivI : R2 := rI CDivW fun i j => .int (i / j)
@[irreducible] def rModI : R2 := rI (fun _ j => 0 < j) fun i j => .int (i % j)
@[irreducible] def rPowI : R2 := rI CPow fun i j => .int (i ^ j.toNat)
@[irreducible] def rLtI : R2 := rI0 fun i j => .bl (decide (i < j))
@[irreducible] def rLeI : R2 := rI0 fun i j => .bl (decide (i ≤ j))
@[irreducible] def rGtI : R2 := rI0 fun i j => .bl (decide (j < i))
@[irreducible] def rGeI : R2 := rI0 fun i j => .bl (decide (j ≤ i))
@[irreducible] def rEqS : R2 := rEq
@[irreducible] def rNeS : R2 := rNe
section
variable {X : Cx}
theorem op_addI : OpR X (binaryOp .Add) rAddI := by unfold rAddI; exact op_add
theorem op_subI : OpR X (binaryOp .Sub) rSubI := by unfold rSubI; exact op_sub
theorem op_mulI : OpR X (binaryOp .Mult) rMulI := by unfold rMulI; exact op_mulW
theorem op_divI : OpR X (binaryOp .FloorDiv) rDivI := by unfold rDivI; exact op_fdivW
theorem op_modI : OpR X (binaryOp .Mod) rModI := by unfold rModI; exact op_mod
theorem op_powI : OpR X (binaryOp .Pow) rPowI := by unfold rPowI; exact op_pow
theorem op_ltI : OpR X (compareOp .Lt) rLtI := by unfold rLtI; exact op_lt
theorem op_leI : OpR X (compareOp .LtE) rLeI := by unfold rLeI; exact op_le
theorem op_gtI : OpR X (compareOp .Gt) rGtI := by unfold rGtI; exact op_gt
theorem op_geI : OpR X (compareOp .GtE) rGeI := by unfold rGeI; exact op_ge
theorem op_eqS : OpR X (compareOp .Eq) rEqS := by unfold rEqS; exact op_eq
theorem op_neS : OpR X (compareOp .NotEq) rNeS := by unfold rNeS; exact op_ne
end
section
variable {i j : Int} {H : Hp} {R : VK}
theorem iAdd (q : R (.int (i + j)) H) : rAddI (.int i) (.int j) H R := by unfold rAddI; exact ⟨i, j, rfl, rfl, q⟩
theorem iSub (q : R (.int (i - j)) H) : rSubI (.int i) (.int j) H R := by unfold rSubI; exact ⟨i, j, rfl, rfl, q⟩
theorem iMul (c : CMulW i j) (q : R (.int (i * j)) H) : rMulI (.int i) (.int j) H R := by unfold rMulI; exact ⟨i, j, rfl, rfl, c, q⟩
theorem iDiv (c : CDivW i j) (q : R (.int (i / j)) H) : rDivI (.int i) (.int j) H R := by unfold rDivI; exact ⟨i, j, rfl, rfl, c, q⟩
theorem iMod (c : 0 < j) (q : R (.int (i % j)) H) : rModI (.int i) (.int j) H R := by unfold rModI; exact ⟨i, j, rfl, rfl, c, q⟩
theorem iPow (c : CPow i j) (q : R (.int (i ^ j.toNat)) H) : rPowI (.int i) (.int j) H R := by unfold rPowI; exact ⟨i, j, rfl, rfl, c, q⟩
theorem iLt (q : R (.bl (decide (i < j))) H) : rLtI (.int i) (.int j) H R := by unfold rLtI; exact ⟨i, j, rfl, rfl, q⟩
theorem iLe (q : R (.bl (decide (i ≤ j))) H) : rLeI (.int i) (.int j) H R := by unfold rLeI; exact ⟨i, j, rfl, rfl, q⟩
theorem iGt (q : R (.bl (decide (j < i))) H) : rGtI (.int i) (.int j) H R := by unfold rGtI; exact ⟨i, j, rfl, rfl, q⟩
theorem iGe (q : R (.bl (decide (j ≤ i))) H) : rGeI (.int i) (.int j) H R := by unfold rGeI; exact ⟨i, j, rfl, rfl, q⟩
theorem sEq {x y : V} (h : scal x y = true) (q : R (.bl (decide (x = y))) H) : rEqS x y H R := by unfold rEqS; exact ⟨h, q⟩
theorem sNe {x y : V} (h : scal x y = true) (q : R (.bl (!decide (x = y))) H) : rNeS x y H R := by unfold rNeS; exact ⟨h, q⟩
end
abbrev rIsN0 : R2 := fun x y H Q => y = .non ∧ Q (.bl (decide (x = .non))) H
abbrev rNotN0 : R2 := fun x y H Q => y = .non ∧ Q (.bl (!decide (x = .non))) H
abbrev rInSg : R2 := fun x y H Q => ∃ (c : Nat) (z : Str), x = .str ⟨#[c]⟩ ∧ y = .str z ∧ Q (.bl (decide (c ∈ z.cps.toList))) H
abbrev rLenA (K : PySem.W.Frag) : List V → Hp → VK → Prop := fun xs H Q => ∃ x n, xs = [x] ∧ LenV K x H n ∧ Q (.int n) H
abbrev rLenS (K : PySem.W.Frag) : List V → Hp → VK → Prop := fun xs H Q => ∃ p ys, xs = [.ref p] ∧ (SqL K H p ys ∨ SqT K H p ys) ∧ Q (.int ys.length) H
@[irreducible] def rMin2 : List V → Hp → VK → Prop := fun xs H Q => ∃ i j, xs = [.int i, .int j] ∧ Q (.int (if j < i then j else i)) H
@[irreducible] def rMax2 : List V → Hp → VK → Prop := fun xs H Q => ∃ i j, xs = [.int i, .int j] ∧ Q (.int (if j > i then j else i)) H
@[irreducible] def rMin3 : List V → Hp → VK → Prop := fun xs H Q => ∃ i j k, xs = [.int i, .int j, .int k] ∧ Q (.int (min i (min j k))) H
abbrev rInt1 : List V → Hp → VK → Prop := fun xs H Q => (∃ i, xs = [.int i] ∧ Q (.int i) H) ∨ ∃ k, xs = [.bl k] ∧ Q (.int (if k then 1 else 0)) H
abbrev rBool1 : List V → Hp → VK → Prop := fun xs H Q => (∃ i, xs = [.int i] ∧ Q (.bl (i != 0)) H) ∨ ∃ k, xs = [.bl k] ∧ Q (.bl k) H
abbrev rTupOf (K : PySem.W.Frag) : List V → Hp → VK → Prop := fun xs H Q => ∃ p ys, xs = [.ref p] ∧ ((SqL K H p ys ∧ ∀ l, H l = none → Q (.ref l) (upd H l (.tup ys))) ∨ (SqT K H p ys ∧ Q (.ref p) H))
abbrev rListOf (K : PySem.W.Frag) : List V → Hp → VK → Prop := fun xs H Q => ∃ p ys, xs = [.ref p] ∧ (SqL K H p ys ∨ SqT K H p ys) ∧ ∀ l, H l = none → Q (.ref l) (upd H l (.lst ys))
section
variable {X : Cx}
theorem cr_min2 (hc : X.calm = true) : CallR X (.builtin "min") rMin2 := by unfold rMin2; exact call_min2 hc
theorem cr_max2 (hc : X.calm = true) : CallR X (.builtin "max") rMax2 := by unfold rMax2; exact call_max2 hc
theorem cr_min3I (hc : X.calm = true) : CallR X (.builtin "min") rMin3 := by unfold rMin3; exact cr_min3 hc
end
section
variable {a b c : Nat} {H : Hp} {R : VK}
theorem nMin2 (q : R (.int ((min a b : Nat) : Int)) H) : rMin2 [.int (a : Nat), .int (b : Nat)] H R := by
  unfold rMin2
  refine ⟨_, _, rfl, ?_⟩
  have e : (if ((b : Nat) : Int) < ((a : Nat) : Int) then ((b : Nat) : Int) else ((a : Nat) : Int)) = ((min a b : Nat) : Int) := by split <;> omega
  rw [e]; exact q
theorem nMax2 (q : R (.int ((max a b : Nat) : Int)) H) : rMax2 [.int (a : Nat), .int (b : Nat)] H R := by
  unfold rMax2
  refine ⟨_, _, rfl, ?_⟩
  have e : (if ((b : Nat) : Int) > ((a : Nat) : Int) then ((b : Nat) : Int) else ((a : Nat) : Int)) = ((max a b : Nat) : Int) := by split <;> omega
  rw [e]; exact q
theorem nMin3 (q : R (.int ((min a (min b c) : Nat) : Int)) H) : rMin3 [.int (a : Nat), .int (b : Nat), .int (c : Nat)] H R := by
  unfold rMin3
  refine ⟨_, _, _, rfl, ?_⟩
  have e : min ((a : Nat) : Int) (min ((b : Nat) : Int) ((c : Nat) : Int)) = ((min a (min b c) : Nat) : Int) := by omega
  rw [e]; exact q
end
structure Cl (P : Program) (w : World) (K : PySem.W.Frag) (mg : Str → Option Value) (base : Heap) (k : Nat) (x : Str) (sp : Sp) (dvs : List V) : Prop where
  of : ∃ (f : Addr) (fd : FuncData) (ps : List Str) (ds : List Value), FnOk P w K mg base CX0 k f fd ps sp ∧ mg x = some (.ref f) ∧ PySem.W.keepIn K (.ref f) = true ∧ Binds K fd ps ds ∧ Vals dvs ds
structure Mkl (P : Program) (w : World) (K : PySem.W.Frag) (mg : Str → Option Value) (base : Heap) (k : Nat) (x : Str) (C : Addr) (sp : Sp) (dvs : List V) : Prop where
  of : ∃ (f : Addr) (fd : FuncData) (ps : List Str) (ds : List Value), Mk K C f ∧ FnOk P w K mg base CX0 k f fd ps sp ∧ mg x = some (.ref C) ∧ Binds K fd ps ds ∧ Vals dvs ds
structure Mtl (P : Program) (w : World) (K : PySem.W.Frag) (mg : Str → Option Value) (base : Heap) (k : Nat) (C : Addr) (m : Str) (sp : Sp) : Prop where
  of : ∃ (f : Addr) (fd : FuncData) (ps : List Str), Cls K C ∧ Meth K C m f ∧ PySem.W.selfFirst K C = true ∧ FnOk P w K mg base CX0 k f fd ps sp ∧ Binds K fd ps []
theorem Cl.mono {P : Program} {w : World} {K : PySem.W.Frag} {mg : Str → Option Value} {base : Heap} {k k' : Nat} {x : Str} {sp : Sp} {dvs : List V} (c : Cl P w K mg base k x sp dvs) (h : k ≤ k') : Cl P w K mg base k' x sp dvs := by
  obtain ⟨f, fd, ps, ds, F, r⟩ := c.of
  exact ⟨f, fd, ps, ds, F.mono h, r⟩
section
variable {X : Cx} {k j : Nat} {C : Addr} {x m : Str} {sp : Sp} {dvs : List V} {p pos apos : Pos} {e o : Expr} {es : List Expr} {ta : TE} {t : TA}
theorem pe_cl (c : Cl X.prog X.w X.K X.mg X.base k x sp dvs) (hr : Room j X.A) (hk : k ≤ j) (hg : Gl X x) (ha : PA X (e :: es) t)
    (hdb : (x == ("__debug__" : Str)) = false := by decide) (he : starEach (e :: es) X.env = (false, eval e X.env) :: starEach es X.env := by rfl) (hpl : (backTo pos (starEach es X.env)).any (·.1) = false := by rfl) :
    PE X (.Call (.Name x p) (e :: es) [] pos) (tCall sp dvs E0 t) := by
  have ⟨f, fd, ps, ds, F, hm, kp, b, d⟩ := c.of
  exact pe_call F (hr.mono hk) hg hm kp b d pass0 ha hdb he hpl
theorem pe_mkl (c : Mkl X.prog X.w X.K X.mg X.base k x C sp dvs) (hr : Room j X.A) (hk : k + 1 ≤ j) (hg : Gl X x) (ha : PA X (e :: es) t)
    (hdb : (x == ("__debug__" : Str)) = false := by decide) (he : starEach (e :: es) X.env = (false, eval e X.env) :: starEach es X.env := by rfl) (hpl : (backTo pos (starEach es X.env)).any (·.1) = false := by rfl) :
    PE X (.Call (.Name x p) (e :: es) [] pos) (tMake C sp dvs E0 t) := by
  have ⟨f, fd, ps, ds, M, F, hm, b, d⟩ := c.of
  exact pe_make M F (hr.mono hk) hg hm b d pass0 ha hdb he hpl
theorem pe_mtl {pl : Sem Bool} (c : Mtl X.prog X.w X.K X.mg X.base k C m sp) (hr : Room j X.A) (hk : k ≤ j) (he : PE X o ta) (ha : PA X (e :: es) t)
    (hst : starEach (e :: es) X.env = (false, eval e X.env) :: starEach es X.env := by rfl) (hpl : (backTo pos (starEach es X.env)).any (·.1) = false := by rfl)
    (ht : eval (.Call (.Attribute o m apos) (e :: es) [] pos) X.env = (do
      let ov ← eval o X.env
      standAt apos.atName
      let (f, first) ← holding [ov] (getMethod ov m pl)
      callWith pos f first (backTo pos (starEach (e :: es) X.env)) (backToKw pos (keywordEach [] X.env))) := by rfl) :
    PE X (.Call (.Attribute o m apos) (e :: es) [] pos) (tMeth C m sp [] E0 ta t) := by
  have ⟨f, fd, ps, hc, hm, _, F, b⟩ := c.of
  exact pe_meth (pl := pl) he hc hm F (hr.mono hk) b .nil pass0 ha hst hpl ht
theorem pe_mtl0 {pl : Sem Bool} (c : Mtl X.prog X.w X.K X.mg X.base k C m sp) (hr : Room j X.A) (hk : k ≤ j) (he : PE X o ta)
    (ht : eval (.Call (.Attribute o m apos) [] [] pos) X.env = (do
      let ov ← eval o X.env
      standAt apos.atName
      let (f, first) ← holding [ov] (getMethod ov m pl)
      callWith pos f first (backTo pos (starEach [] X.env)) (backToKw pos (keywordEach [] X.env))) := by rfl) :
    PE X (.Call (.Attribute o m apos) [] [] pos) (tMeth C m sp [] E0 ta tNil) := by
  have ⟨f, fd, ps, hc, hm, _, F, b⟩ := c.of
  exact pe_meth0 (pl := pl) he hc hm F (hr.mono hk) b .nil pass0 ht
theorem pe_gc {v : V} (hg : Gl X x) (h : ∃ u, X.mg x = some u ∧ RelV v u) (hd : (x == ("__debug__" : Str)) = false := by decide) : PE X (.Name x pos) (tC v) := by
  have ⟨u, hm, r⟩ := h
  exact pe_glob hg hm r hd
theorem op_word2 {op : Operator} (c : Mtl X.prog X.w X.K X.mg X.base k C (PySem.dunder op.info.2) sp) (hr : Room j X.A) (hk : k ≤ j) : OpR X (binaryOp op) (rOwn2 C sp E0) := by
  have ⟨f, fd, ps, hc, hm, hf, F, b⟩ := c.of
  exact op_own2 ⟨hm.at_, hm.fn, hf⟩ F (hr.mono hk) b pass0
theorem op_wordI {op : Operator} (c : Mtl X.prog X.w X.K X.mg X.base k C (PySem.dunder op.info.2) sp) (c2 : OpInt X.K C (PySem.dunder op.info.2) (PySem.dunderR op.info.2)) (hr : Room j X.A) (hk : k ≤ j) : OpR X (binaryOp op) (rOwnI C sp E0) := by
  have ⟨f, fd, ps, hc, hm, hf, F, b⟩ := c.of
  exact op_ownI ⟨hm.at_, hm.fn, hf⟩ c2 F (hr.mono hk) b pass0
end
def letters26 : Str := "abcdefghijklmnopqrstuvwxyz"
structure NameOk (x : Str) : Prop where
  lo : 1 ≤ x.length
  hi : x.length ≤ 8
  all : ∀ c ∈ x.cps.toList, c ∈ letters26.cps.toList
structure EntOk (e : Ent) : Prop where
  kind : e.k = "emit" ∨ e.k = "final"
  tag : match e.t with
    | none => e.k = "emit"
    | some x => NameOk x
def spIsInteger : Sp := fun vs H Q _ => ∃ i, vs = [.int i] ∧ Q (.bl true) H
def spIsBetween : Sp := fun vs H Q _ => ∃ i lo hi : Int, vs = [.int i, .int lo, .int hi] ∧ Q (.bl (decide (lo ≤ i) && decide (i ≤ hi))) H
def spIsName : Sp := fun vs H Q _ => (∃ x, vs = [.str x] ∧ NameOk x ∧ ∀ H', Same H H' → Q (.bl true) H') ∨ (vs = [.non] ∧ ∀ H', Same H H' → Q (.bl false) H')
def spIsEntry : Sp := fun vs H Q _ => ∃ v e, vs = [v] ∧ EntV H e v ∧ EntOk e ∧ ∀ H', Same H H' → Q (.bl true) H'
def spCheckIndex : Sp := fun vs H Q _ => ∃ i lo hi : Int, vs = [.int i, .int lo, .int hi] ∧ lo ≤ i ∧ i ≤ hi ∧ Q .non H
/-- what wide is, by left, right, times -/
def WideOk (g : G) (H : Hp) (row lv rv t : V) (n : Int) : Prop :=
  (lv = .non ∧ ∃ p ys, row = .ref p ∧ H p = some (.tup ys) ∧ n = ys.length) ∨
  (∃ a dx fs m k, lv = .ref a ∧ rv = .non ∧ t = .int k ∧ H a = some (.ins g.part dx fs) ∧ fs.lookup ("wide" : Str) = some (.int m) ∧ CMulW m k ∧ n = m * k) ∨
  (∃ a dx fs m b dy gs k, lv = .ref a ∧ rv = .ref b ∧ H a = some (.ins g.part dx fs) ∧ fs.lookup ("wide" : Str) = some (.int m) ∧ H b = some (.ins g.part dy gs) ∧ gs.lookup ("wide" : Str) = some (.int k) ∧ n = m + k)
def spPartInit (g : G) : Sp := fun vs H Q _ => ∃ a dx row lv rv t tf n, vs = [.ref a, row, lv, rv, t, tf] ∧ H a = some (.ins g.part dx []) ∧ WideOk g H row lv rv t n ∧
  Q .non (upd H a (.ins g.part dx (pf row lv rv t tf (.int n))))
def spJoined (g : G) : Sp := fun vs H Q _ => ∃ v1 v2 w1 w2 d z1 z2, vs = [v1, v2] ∧ PR g.part H v1 w1 d z1 ∧ PR g.part H v2 w2 d z2 ∧ ∀ H' v z, Same H H' → PR g.part H' v (w1 ++ w2) d z → Q v H'
/-- words stay shorter than this; a unit stands at most four times as often -/
def LIM : Nat := 2 ^ 8000
structure Sm1 (u : UD) : Prop where
  w : u.w.length < LIM
  t : u.t < 4 * LIM
def Sm (us : List UD) : Prop := ∀ u ∈ us, Sm1 u
def spRepeated (g : G) : Sp := fun vs H Q _ => ∃ v w d z n D, vs = [v, .int (n : Nat)] ∧ PR g.part H v w d z ∧ n * w.length < 8 * LIM * LIM ∧ d ≤ D ∧ (2 ≤ n → d + 1 ≤ D) ∧ ∀ H' v z, Same H H' → PR g.part H' v (rp n w) D z → Q v H'
def spWidth (g : G) : Sp := fun vs H Q _ => ∃ v u, vs = [v] ∧ UnV g.part H u v ∧ Q (.int (u.w.length : Nat)) H
structure Opn (cs : List UD) (w : List Ent) (d z : Nat) : Prop where
  den : den cs = w
  usz : usz cs ≤ z
  udp : ∀ c ∈ cs, udp c ≤ d
  sm : ∀ c ∈ cs, c.w.length ≤ w.length ∧ c.t ≤ w.length
def spOpened (g : G) : Sp := fun vs H Q _ => ∃ v r w d z us, vs = [v, r] ∧ PR g.part H v w d z ∧ UR g.part H us r ∧ ∀ H' v' cs, Same H H' → UR g.part H' (cs ++ us) v' → Opn cs w d z → Q v' H'
def spFirstUnit (g : G) : Sp := fun vs H Q _ => ∃ v us, vs = [v] ∧ UR g.part H us v ∧ (den us = [] → ∀ H', Same H H' → Q .non H') ∧
  ∀ H' v' u us', Same H H' → UR g.part H' (u :: us') v' → den (u :: us') = den us → 1 ≤ u.t → (u.s ≠ none → 2 ≤ u.t) → (∀ R m, Rk R us m → Rk R (u :: us') m) → (Sm us → Sm (u :: us')) → (∀ w ws, us = w :: ws → 1 ≤ w.t → (w.s = none ∨ 2 ≤ w.t) → u :: us' = us) → Q v' H'
def spBehind (g : G) : Sp := fun vs H Q _ => ∃ v us m, vs = [v, .int (m : Nat)] ∧ (0 < m → UR g.part H us v ∧ m ≤ (den us).length ∧ Sm us) ∧
  ∀ H' v' us', Same H H' → (m = 0 → v' = v ∧ us' = us) → (0 < m → UR g.part H' us' v' ∧ den us' = (den us).drop m ∧ (∀ D, (∀ u ∈ us, udp u ≤ D) → ∀ u ∈ us', udp u ≤ D) ∧ Sm us') → Q v' H'
def spPartOf (g : G) : Sp := fun vs H Q _ => ∃ v us m D, vs = [v, .int (m : Nat)] ∧ (0 < m → UR g.part H us v ∧ m ≤ (den us).length ∧ Sm us ∧ ∀ u ∈ us, udp u ≤ D) ∧
  ∀ H' v' z, Same H H' → PR g.part H' v' ((den us).take m) D z → Q v' H'
def spRotated (g : G) : Sp := fun vs H Q _ => ∃ v w d z m, vs = [v, .int (m : Nat)] ∧ PR g.part H v w d z ∧ 0 < m ∧ m < w.length ∧ w.length < LIM ∧ ∀ H' v' z', Same H H' → PR g.part H' v' (rot m w) d z' → Q v' H'
def spGoneBy (g : G) : Sp := fun vs H Q _ => ∃ v us m, vs = [v, .int (m : Nat)] ∧ UR g.part H us v ∧ m ≤ (den us).length ∧ Sm us ∧
  ∀ H' v' us', Same H H' → UR g.part H' us' v' → den us' = (den us).drop m → (∀ R r, Rk R us r → Rk R us' (r - m)) → Sm us' → Q v' H'
def spRunAhead (g : G) : Sp := fun vs H Q _ => ∃ v u us m, vs = [v, .int (m : Nat)] ∧ UR g.part H (u :: us) v ∧ u.s = none ∧ u.t = 1 ∧ 1 ≤ m ∧ ∀ H' k, Same H H' → 1 ≤ k → k ≤ m → k ≤ (den (u :: us)).length → Q (.int (k : Nat)) H'
def spAgreement (g : G) (n : Nat) : Sp := fun vs H Q _ => ∃ v1 v2 us1 us2 m a b, vs = [v1, v2, .int (m : Nat)] ∧
  (0 < m → UR g.part H us1 v1 ∧ UR g.part H us2 v2 ∧ m ≤ (den us1).length ∧ m ≤ (den us2).length ∧ Sm us1 ∧ Sm us2 ∧ Rk a us1 m ∧ Rk b us2 m ∧ a + b ≤ n) ∧
  ∀ H' k, Same H H' → Agr (den us1) (den us2) m k → Q (.int (k : Nat)) H'
/-- what alike_ahead opens: a part that stands at least twice, wide enough -/
structure Wd (u : UD) (us : List UD) (m : Nat) : Prop where
  part : u.s ≠ none
  t : 2 ≤ u.t
  all : m ≤ u.t * u.w.length
  two : m ≤ 2 * u.w.length
def spAlikeAhead (g : G) (n : Nat) : Sp := fun vs H Q _ => ∃ v1 v2 u1 us1 u2 us2 m m0 a b, vs = [v1, v2, .int (m : Nat)] ∧ UR g.part H (u1 :: us1) v1 ∧ UR g.part H (u2 :: us2) v2 ∧ 0 < m ∧ m ≤ m0 ∧
  m ≤ (den (u1 :: us1)).length ∧ m ≤ (den (u2 :: us2)).length ∧ Sm (u1 :: us1) ∧ Sm (u2 :: us2) ∧ Rk a (u1 :: us1) m0 ∧ Rk b (u2 :: us2) m0 ∧ a + b ≤ n ∧
  (u1.s ≠ none → u2.s ≠ none → u2.w.length ≤ u1.w.length → Wd u1 us1 m) ∧ (u1.s ≠ none → u2.s ≠ none → u1.w.length < u2.w.length → Wd u2 us2 m) ∧
  (u1.s = none → Wd u2 us2 m) ∧ (u2.s = none → Wd u1 us1 m) ∧
  ∀ H' k, Same H H' → Agr (den (u1 :: us1)) (den (u2 :: us2)) m k → Q (.int (k : Nat)) H'
def spAlikeFor (g : G) (n : Nat) : Sp := fun vs H Q _ => ∃ v1 v2 w1 w2 d1 d2 z1 z2, vs = [v1, v2] ∧ PR g.part H v1 w1 d1 z1 ∧ PR g.part H v2 w2 d2 z2 ∧ w1 ≠ [] ∧ w2 ≠ [] ∧ w1.length < LIM ∧ w2.length < LIM ∧ 2 * d1 + 2 + (2 * d2 + 2) ≤ n ∧
  ∀ H' k, Same H H' → Agr (rp (w1.length + w2.length) w1) (rp (w1.length + w2.length) w2) (w1.length + w2.length) k → Q (.int (k : Nat)) H'
end RH
set_option exponentiation.threshold 256
set_option Elab.async false
set_option linter.all false
set_option maxRecDepth 100000
set_option maxHeartbeats 4000000
namespace RH
open PySem PySem.Spec PyProof.Rows L2
def wf1 (p n q : V) : List (Str × V) := [("part", p), ("nesting", n), ("pieces", q)]
def wf2 (p n q : V) : List (Str × V) := [("nesting", n), ("pieces", q), ("part", p)]
/-- a word: its entries, a bound of its products' depth, its nesting, its pieces -/
def WR (g : G) (H : Hp) (v : V) (w : List Ent) (d n q : Nat) : Prop := ∃ a dx fs pv z, v = .ref a ∧ H a = some (.ins g.word dx fs) ∧ (fs = wf1 pv (.int (n : Nat)) (.int (q : Nat)) ∨ fs = wf2 pv (.int (n : Nat)) (.int (q : Nat))) ∧ PR g.part H pv w d z
theorem WR.mono {g : G} {H H' : Hp} {v : V} {w : List Ent} {d n q : Nat} (s : Same H H') (h : WR g H v w d n q) : WR g H' v w d n q := by
  obtain ⟨a, dx, fs, pv, z, h1, h2, h3, h4⟩ := h
  exact ⟨a, dx, fs, pv, z, h1, s _ _ h2, h3, h4.mono s⟩
theorem WR.up {g : G} {H : Hp} {v : V} {w : List Ent} {d d' n q : Nat} (h : WR g H v w d n q) (hd : d ≤ d') : WR g H v w d' n q := by
  obtain ⟨a, dx, fs, pv, z, h1, h2, h3, h4⟩ := h
  exact ⟨a, dx, fs, pv, z, h1, h2, h3, h4.up hd⟩
/-- a list of entries -/
def LR (H : Hp) (v : V) (w : List Ent) : Prop := ∃ a es, v = .ref a ∧ H a = some (.lst es) ∧ EntsV H w es
theorem LR.mono {H H' : Hp} {v : V} {w : List Ent} (s : Same H H') (h : LR H v w) : LR H' v w := by
  obtain ⟨a, es, h1, h2, h3⟩ := h
  exact ⟨a, es, h1, s _ _ h2, h3.mono s⟩
def spMadeInit (g : G) : Sp := fun vs H Q _ => ∃ a dx p n q, vs = [.ref a, p, n, q] ∧ H a = some (.ins g.made dx []) ∧ Q .non (upd H a (.ins g.made dx (wf1 p n q)))
def spWordInit (g : G) : Sp := fun vs H Q _ =>
  (∃ a dx b dy p n q, vs = [.ref a, .ref b] ∧ H a = some (.ins g.word dx []) ∧ H b = some (.ins g.made dy (wf1 p n q)) ∧ Q .non (upd H a (.ins g.word dx (wf1 p n q)))) ∨
  (∃ a dx l es w, vs = [.ref a, .ref l] ∧ H a = some (.ins g.word dx []) ∧ H l = some (.lst es) ∧ EntsV H w es ∧ (∀ e ∈ w, EntOk e) ∧ w.length ≤ 1000000 ∧
    ∀ H' p z, (∀ b o, b ≠ a → H b = some o → H' b = some o) → H' a = some (.ins g.word dx (wf2 p (.int ((0 : Nat) : Int)) (.int ((1 : Nat) : Int)))) → PR g.part H' p w 0 z → Q .non H')
def spLength (g : G) : Sp := fun vs H Q _ => ∃ v w d n q, vs = [v] ∧ WR g H v w d n q ∧ Q (.int (w.length : Nat)) H
def spWordAdd (g : G) : Sp := fun vs H Q _ => ∃ v1 v2 w1 w2 d n1 q1 n2 q2, vs = [v1, v2] ∧ WR g H v1 w1 d n1 q1 ∧ WR g H v2 w2 d n2 q2 ∧ q1 + q2 ≤ 1000 ∧ ∀ H' v, Same H H' → WR g H' v (w1 ++ w2) d (max n1 n2) (q1 + q2) → Q v H'
def spWordMul (g : G) : Sp := fun vs H Q _ => ∃ v w d n q t, vs = [v, .int (t : Nat)] ∧ WR g H v w d n q ∧ n < 6 ∧ t * w.length < 8 * LIM * LIM ∧ ∀ H' v, Same H H' → WR g H' v (rp t w) (d + 1) (n + 1) q → Q v H'
def spAgreeing (g : G) (n : Nat) : Sp := fun vs H Q _ => ∃ v1 v2 w1 w2 d1 n1 q1 d2 n2 q2 f s, vs = [v1, .int (f : Nat), v2, .int (s : Nat)] ∧ WR g H v1 w1 d1 n1 q1 ∧ WR g H v2 w2 d2 n2 q2 ∧ f ≤ w1.length ∧ s ≤ w2.length ∧ w1.length < LIM ∧ w2.length < LIM ∧ 2 * d1 + 2 * d2 ≤ n ∧
  ∀ H' k, Same H H' → Agr (w1.drop f) (w2.drop s) (min (w1.length - f) (w2.length - s)) k → Q (.int (k : Nat)) H'
def spFirstDiff (g : G) (n : Nat) : Sp := fun vs H Q _ => ∃ v1 v2 w1 w2 d1 n1 q1 d2 n2 q2, vs = [v1, v2] ∧ WR g H v1 w1 d1 n1 q1 ∧ WR g H v2 w2 d2 n2 q2 ∧ w1.length < LIM ∧ w2.length < LIM ∧ 2 * d1 + 2 * d2 ≤ n ∧
  ∀ H' k, Same H H' → Agr w1 w2 (min w1.length w2.length) k → Q (if k = w1.length ∧ w1.length = w2.length then .non else .int (k : Nat)) H'
def spHasPeriod (g : G) (n : Nat) : Sp := fun vs H Q _ => ∃ v w d n1 q1 p, vs = [v, .int (p : Nat)] ∧ WR g H v w d n1 q1 ∧ 1 ≤ p ∧ w.length < LIM ∧ 2 * d + 2 * d ≤ n ∧
  ∀ H' b, Same H H' → (b = true ↔ w.drop p = w.take (w.length - p)) → Q (.bl b) H'
def spCut (g : G) : Sp := fun vs H Q _ => ∃ v w d n q f l, vs = [v, .int (f : Nat), .int (l : Nat)] ∧ WR g H v w d n q ∧ f ≤ l ∧ l ≤ w.length ∧ w.length < LIM ∧ ∀ H' v', Same H H' → WR g H' v' ((w.drop f).take (l - f)) d n q → Q v' H'
def spEntries (g : G) : Sp := fun vs H Q _ => ∃ v w d n q f l, vs = [v, .int (f : Nat), .int (l : Nat)] ∧ WR g H v w d n q ∧ f ≤ l ∧ l ≤ w.length ∧ l ≤ f + 1000 ∧ w.length < LIM ∧ ∀ H' v', Same H H' → LR H' v' ((w.drop f).take (l - f)) → (∀ a, v' = .ref a → H a = none) → Q v' H'
def spGetItem (g : G) : Sp := fun vs H Q _ => ∃ v w d n q i e, vs = [v, .int (i : Nat)] ∧ WR g H v w d n q ∧ w[i]? = some e ∧ w.length < LIM ∧ ∀ H' v', Same H H' → EntV H' e v' → Q v' H'
def spWordEq (g : G) (n : Nat) : Sp := fun vs H Q _ => ∃ v1 v2 w1 w2 d1 n1 q1 d2 n2 q2, vs = [v1, v2] ∧ WR g H v1 w1 d1 n1 q1 ∧ WR g H v2 w2 d2 n2 q2 ∧ w1.length < LIM ∧ w2.length < LIM ∧ 2 * d1 + 2 * d2 ≤ n ∧
  ∀ H', Same H H' → Q (.bl (decide (w1 = w2))) H'
def spBool (g : G) : Sp := fun vs H Q _ => ∃ v w d n q, vs = [v] ∧ WR g H v w d n q ∧ Q (.bl (!w.isEmpty)) H
def spContains (g : G) : Sp := fun vs H Q _ => ∃ v x w d n q e, vs = [v, x] ∧ WR g H v w d n q ∧ EntV H e x ∧ w.length ≤ 1000 ∧ d ≤ 5 ∧ ∀ H', Same H H' → Q (.bl (decide (e ∈ w))) H'
def spWordEqL (g : G) : Sp := fun vs H Q _ => ∃ v w d n q l es, vs = [v, .ref l] ∧ WR g H v w d n q ∧ H l = some (.lst es) ∧ Q (.bl false) H
def natsV (ns : List Nat) : List V := ns.map fun n => .int (n : Nat)
/-- a list of digits -/
def DR (H : Hp) (v : V) (ds : List Nat) : Prop := ∃ a, v = .ref a ∧ H a = some (.lst (natsV ds))
theorem DR.mono {H H' : Hp} {v : V} {ds : List Nat} (s : Same H H') (h : DR H v ds) : DR H' v ds := by
  obtain ⟨a, h1, h2⟩ := h
  exact ⟨a, h1, s _ _ h2⟩
def spCell (g : G) : Sp := fun vs H Q _ => ∃ (a : Addr) (ns : List Int) (k : Nat), vs = [.ref a, .int (k : Nat)] ∧ SqL g.K H a (ns.map V.int) ∧ ∀ c : Int, Q (.int c) H
def spDigits : Sp := fun vs H Q _ => ∃ c m, vs = [.int c, .int (m : Nat)] ∧ m ≤ 1000 ∧ ∀ H' v ds, Same H H' → DR H' v ds → ds.length = m → (∀ x ∈ ds, x < 1009) → Q v H'
/-- the four entries -/
def ent4 (i : Nat) : Ent := if i % 4 = 0 then ⟨"emit", some "a"⟩ else if i % 4 = 1 then ⟨"emit", some "b"⟩ else if i % 4 = 2 then ⟨"final", some "a"⟩ else ⟨"emit", none⟩
def spEntry : Sp := fun vs H Q _ => ∃ n, vs = [.int (n : Nat)] ∧ ∀ H' v, Same H H' → EntV H' (ent4 n) v → Q v H'
def isRow (w : List Ent) : Prop := ∀ e ∈ w, ∃ i, e = ent4 i
def spRow : Sp := fun vs H Q _ => ∃ v ds m, vs = [v, .int (m : Nat)] ∧ m ≤ 1000 ∧ DR H v ds ∧ ∀ H' r w, Same H H' → LR H' r w → isRow w → w.length ≤ m → (m ≤ ds.length → w.length = m) → Q r H'
/-- how long the built words are, at most -/
def maxLen : Nat → Nat
  | 0 => 4
  | k + 1 => 3 * maxLen k
def maxPc : Nat → Nat
  | 0 => 1
  | k + 1 => 3 * maxPc k
def spBuilt (g : G) (k : Nat) : Sp := fun vs H Q _ => ∃ v ds, vs = [v, .int (k : Nat)] ∧ DR H v ds ∧ 5 + 7 * k ≤ ds.length ∧
  ∀ H' p wv lv w n q, Same H H' → H' p = some (.tup [wv, lv]) → WR g H' wv w k n q → LR H' lv w → isRow w → w.length ≤ maxLen k → n ≤ k → q ≤ maxPc k → Q (.ref p) H'
/-- how long two lists agree -/
def spAlike : Sp := fun vs H Q _ => ∃ v1 v2 w1 w2, vs = [v1, v2] ∧ LR H v1 w1 ∧ LR H v2 w2 ∧ ∀ k, Agr w1 w2 (min w1.length w2.length) k → Q (.int (k : Nat)) H
def spPeriodRight (g : G) : Sp := fun vs H Q _ => ∃ v1 v2 w d n q, vs = [v1, v2] ∧ WR g H v1 w d n q ∧ LR H v2 w ∧ d ≤ 5 ∧ w.length ≤ 100000 ∧ ∀ H', Same H H' → Q (.bl true) H'
/-- k36: the periods up to a row's length, of the row many times -/
def spSmallRight (g : G) : Sp := fun vs H Q _ => ∃ v1 v2 w t c d n q, vs = [v1, v2] ∧ WR g H v1 (rp t w ++ w.take c) d n q ∧ LR H v2 w ∧ w ≠ [] ∧ w.length ≤ 1000 ∧ 4 ≤ t ∧ (rp t w ++ w.take c).length < LIM ∧ d ≤ 5 ∧ ∀ H', Same H H' → Q (.bl true) H'
/-- k35 -/
def spFarRight : Sp := fun vs H Q _ => ∃ v ds, vs = [v] ∧ DR H v ds ∧ 28 ≤ ds.length ∧ (∀ x ∈ ds, x < 1009) ∧ ∀ H', Same H H' → Q (.bl true) H'
def spNestedRight : Sp := fun vs H Q _ => ∃ v ds, vs = [v] ∧ DR H v ds ∧ 18 ≤ ds.length ∧ (∀ x ∈ ds, x < 1009) ∧ ∀ H', Same H H' → Q (.bl true) H'
/-- k32 -/
def spPartsRight (g : G) : Sp := fun vs H Q _ => ∃ v1 v2 v3 w d n q ds, vs = [v1, v2, v3] ∧ WR g H v1 w d n q ∧ LR H v2 w ∧ DR H v3 ds ∧ 8 ≤ ds.length ∧ isRow w ∧ w.length ≤ 1000 ∧ d ≤ 5 ∧ ∀ H', Same H H' → Q (.bl true) H'
def spLaw (g : G) : Sp := fun vs H Q _ => ∃ (a : Addr) (ns : List Int), vs = [.ref a] ∧ SqL g.K H a (ns.map V.int) ∧ ns.length ≤ 63 ∧ ∀ H', Q (.bl true) H'
end RH
set_option exponentiation.threshold 256
set_option Elab.async false
set_option linter.all false
set_option maxRecDepth 100000
set_option maxHeartbeats 4000000
namespace RH
open PySem PySem.Spec PyProof.Rows L2
/-- an own item: the def at f -/
structure Gtl (P : Program) (w : World) (K : PySem.W.Frag) (mg : Str → Option Value) (base : Heap) (k : Nat) (C : Addr) (sp : Sp) : Prop where
  of : ∃ (f : Addr) (fd : FuncData) (ps : List Str), Meth K C "__getitem__" f ∧ PySem.W.fnIn K f = true ∧ FnOk P w K mg base CX0 k f fd ps sp ∧ Binds K fd ps []
section
variable {X : Cx} {CX : CXT} {C f : Addr} {fd : FuncData} {ps : List Str} {ds : List Value} {dvs : List V} {k j : Nat} {sp : Sp} {E : XK}
/-- a def called somewhere below -/
theorem run_fnA {A : Around} {pins : List (Addr × Obj)} {σ : L2.St} {H : Hp} {s : Shared} {Q : VK} {us : List Value} {vs : List V} (F : FnOk X.prog X.w X.K X.mg X.base CX k f fd ps sp) (hr : Room k A) (fr : A.frames = X.A.frames) (hb : Binds X.K fd ps []) (hx : Passes CX X E)
    (I : Inv X pins σ H s) (r : Vals vs us) (h : sp vs H Q E) : wpAny (model X.prog X.w) A (call (.ref f) us) (EP X pins σ Q) X.xe s := by
  have e0 : Env0 X.prog X.w X.K X.mg X.base A X.stack s H := by
    have e := I.env0
    exact ⟨by rw [fr]; exact e.frames, e.mod, e.bs, e.bsz, e.funs, e.frf, e.hok, e.bare⟩
  have hl : us.length = ps.length := by rw [← r.length]; exact F.len _ _ _ _ h
  refine wpAny_call (codeAny_mono (F.run A X.stack s H ⟨us, []⟩ us vs Q E hr e0 (by
    have := hb s us I.kIn (by simpa using hl)
    simpa using this) r h) fun r s' hq => ?_)
  cases r with
  | error e => exact hx pins σ H s e s' I hq
  | ok fl =>
    cases fl with
    | ret w => exact I.after hq
    | next => exact False.elim hq
    | brk => exact False.elim hq
    | cont => exact False.elim hq
theorem pe_ixO {a b : Expr} {ta tb : TE} {pos : Pos} (c : Gtl X.prog X.w X.K X.mg X.base k C sp) (hr : Room j X.A) (hk : k + 1 ≤ j) (ha : PE X a ta) (hb : PE X b tb)
    (hsl : ∀ o i, subscripted b true o i = runValue (.builtin "lifetime.subscript" ⟨[o, i], []⟩)) : PE X (.Subscript a b pos) (tOp (rOwnI C sp E0) ta tb) := by
  have ⟨f, fd, ps, M, hfn, F, bd⟩ := c.of
  refine ⟨fun pins s σ H Q I h => ?_⟩
  refine Subscript_ (binT ha hb I h fun v u s2 x y H2 I2 rx ry q => ?_)
  obtain ⟨a', dx, fs, i, rfl, rfl, hA, q⟩ := q
  cases (show v = Value.ref a' from rx)
  obtain ⟨t, rfl⟩ := (show ∃ t, u = Value.int i t from ry)
  obtain ⟨od, J⟩ := ins_at I2 hA
  obtain ⟨m, hF⟩ := I2.fr
  refine PySem.W.sub_K hF I2.ok.mod.kin J M.at_ hfn M.fn ?_ (hsl _ _)
  exact run_fnA (us := [.ref a', .int i t]) (vs := [.ref a', .int i]) F (hr.mono hk).in1 rfl bd pass0 I2 (.cons rfl (.cons ⟨t, rfl⟩ .nil)) q
theorem op_eqO (c : Mtl X.prog X.w X.K X.mg X.base k C "__eq__" sp) (hr : Room j X.A) (hk : k ≤ j) : OpR X (compareOp .Eq) (rOwn2 C sp E0) := by
  have ⟨f, fd, ps, hc, hm, hf, F, b⟩ := c.of
  intro pins s σ H x y v u Q I rx ry h
  obtain ⟨a, dx, fs, b', dy, gs, rfl, rfl, ha, hb', q⟩ := h
  cases (show v = Value.ref a from rx)
  cases (show u = Value.ref b' from ry)
  obtain ⟨od, J⟩ := ins_at I ha
  obtain ⟨od', J'⟩ := ins_at I hb'
  obtain ⟨m, hF⟩ := I.fr
  show wpAny (model X.prog X.w) X.A (richCompare .Eq (.ref a) (.ref b')) (EP X pins σ Q) X.xe s
  refine PySem.W.cmp_K (op := .Eq) (tb := .ref C) hr.units0 hF I.ok.mod.kin J J'.type (by simp [PySem.W.notFirst]) hm.at_ hm.fn ?_
  refine thn (run_fn (us := [.ref a, .ref b']) (vs := [.ref a, .ref b']) F (hr.mono hk) b .nil pass0 I (.cons rfl (.cons rfl .nil)) q) fun w s' z => ?_
  obtain ⟨z', H', I', rz, qz⟩ := z
  exact SlX.cmpback rz ⟨z', H', I', rz, qz⟩
end
end RH
set_option exponentiation.threshold 256
set_option Elab.async false
set_option linter.all false
set_option maxRecDepth 100000
set_option maxHeartbeats 4000000
namespace RH
open PySem PySem.Spec PyProof.Rows L2
section
variable {M : Model} {prog : Program} {w : World} {A : Around} {E : Value → Shared → Prop} {s : Shared} {K : PySem.W.Frag} {x C f : Addr} {ox : Obj} {od : Option Obj} {b : Value}
theorem ifBound_objNe {args : List Value} {Q : Option Value → Shared → Prop} (X : K.In s.heap) (I : PySem.W.InstAt s.heap x ox C od) (hs : PySem.W.findIn K (.ref C) "__ne__" = some (some (.builtin "object.__ne__")))
    (h : wpAny M A (call (.builtin "object.__ne__") (.ref x :: args)) (fun v => Q (some v)) E s) : wpAny M A (callSpecialIfBound? (.ref x) "__ne__" args) Q E s := by
  simp only [callSpecialIfBound?, bindSpecialIfBound?]
  refine wpAny_holding (wpAny_bind (wpAny_bind (wpAny_bind (I.type.here ((PySem.W.looks_findIn X hs).here ?_)))))
  refine wpAny_bind (wpAny_askSetting (wpAny_ite ?_))
  have fin : wpAny M A (call (.builtin "object.__ne__") ([.ref x] ++ args) >>= fun v => pure (some v)) Q E s := wpAny_bind (wpAny_mono h (fun v s' h' => wpAny_pure h') fun _ _ h' => h')
  split
  · exact wpAny_bind (wpAny_of_eq (F.cmp_object.ne.bind _) (wpAny_pure (by exact fin)))
  · exact wpAny_tryCatch (wpAny_bind (wpAny_of_eq (F.cmp_object.ne.bind _) (wpAny_pure (by exact fin))))
theorem objNe_entry {y : Addr} {Q : Fin → Shared → Prop} (hu : A.units < cLine) (X : K.In s.heap) (I : PySem.W.InstAt s.heap x ox C od) (hs : PySem.W.findIn K (.ref C) "__eq__" = some (some (.ref f))) (hf : PySem.W.isFn K (.ref f) = true)
    (hcall : wpAny (model prog w) A (call (.ref f) [.ref x, .ref y]) (fun v s' => ∃ b, v = .bool b ∧ Q (.done (.ret (.bool (!b)))) s') E s) :
    wpAny (model prog w) A (Builtin.«object.__ne__» ⟨[.ref x, .ref y], []⟩) Q E s := by
  unfold Builtin.«object.__ne__»
  repeat (first
    | with_reducible refine wpAny_cRoomFor hu ?_
    | (refine wpAny_bind (m := callSpecialIfBound? (.ref x) (Str.ofString "__eq__") [.ref y])
        (PySem.W.ifBound_K X I hs hf (wpAny_mono hcall (fun r s' hr => by
          obtain ⟨b, rfl, hq⟩ := hr
          repeat (first | exact hq | exact wpAny_pure hq | exact wpAny_truthy_bool hq | (refine wpAny_bind (m := truthy (.bool _)) (wpAny_truthy_bool ?_)) | wp_step)) fun _ _ e => e)))
    | wp_step)
theorem ne_K {y : Addr} {Q : Value → Shared → Prop} (hu : A.units + 1 < cLine) (X : K.In s.heap) (I : PySem.W.InstAt s.heap x ox C od) (hb : PySem.W.Looks (model prog w) s.heap (typeOf (.ref y)) (.ref C))
    (hn : PySem.W.findIn K (.ref C) "__ne__" = some (some (.builtin "object.__ne__"))) (hm : PySem.W.mroIn K C (.type "object") = some true)
    (hs : PySem.W.findIn K (.ref C) "__eq__" = some (some (.ref f))) (hf : PySem.W.isFn K (.ref f) = true)
    (hcall : wpAny (model prog w) A.in1 (call (.ref f) [.ref x, .ref y]) (fun v s' => ∃ b, v = .bool b ∧ Q (.bool (!b)) s') E s) : wpAny (model prog w) A (richCompare .NotEq (.ref x) (.ref y)) Q E s := by
  have one : wpAny (model prog w) A (tryCompare (.ref x) "__ne__" (.ref y)) (fun r s' => ∃ v, r = some v ∧ Q v s') E s := by
    unfold tryCompare
    refine wpAny_bind (ifBound_objNe X I hn (wpAny_call (codeAny_call_builtin F.cmp_object.ne.plain F.cmpEntry_ne (PySem.W.check_slot F.cmpKind_ne F.cmpSplit_ne (I.type.andThen (PySem.W.looks_mroIn X hm)) (F.cmpArgs_ne _ _)
      (objNe_entry (A := A.in1) hu X I hs hf (wpAny_mono hcall (fun v s' hv => ?_) fun _ _ e => e))))))
    obtain ⟨b, rfl, hq⟩ := hv
    exact ⟨b, rfl, wpAny_pure ⟨_, rfl, hq⟩⟩
  unfold richCompare
  simp only [oneThing_ref]
  refine wpAny_holding (wpAny_bind (wpAny_cRoomFor (Nat.lt_of_succ_lt hu) ?_))
  refine wpAny_bind (I.type.here (wpAny_bind (hb.here ?_)))
  split
  · rename_i q
    simp at q
  · refine wpAny_bind (wpAny_pure ?_)
    simp only [Bool.false_eq_true, if_false]
    refine wpAny_bind (wpAny_mono one (fun r s' z => ?_) fun _ _ e => e)
    obtain ⟨v, rfl, hq⟩ := z
    exact wpAny_pure hq
end
/-- x != y, both of the class at C, by its own == -/
def rNeO (C : Addr) (sp : Sp) (E : XK) : R2 := fun x y H Q => ∃ a dx fs b dy gs, x = .ref a ∧ y = .ref b ∧ H a = some (.ins C dx fs) ∧ H b = some (.ins C dy gs) ∧ sp [x, y] H (fun v H' => ∃ t, v = .bl t ∧ Q (.bl (!t)) H') E
section
variable {X : Cx} {C : Addr} {k j : Nat} {sp : Sp}
theorem op_neO (c : Mtl X.prog X.w X.K X.mg X.base k C "__eq__" sp) (hn : PySem.W.findIn X.K (.ref C) "__ne__" = some (some (.builtin "object.__ne__"))) (hm : PySem.W.mroIn X.K C (.type "object") = some true) (hr : Room j X.A) (hk : k + 1 ≤ j) : OpR X (compareOp .NotEq) (rNeO C sp E0) := by
  have ⟨f, fd, ps, hc, hme, hf, F, b⟩ := c.of
  intro pins s σ H x y v u Q I rx ry h
  obtain ⟨a, dx, fs, b', dy, gs, rfl, rfl, ha, hb', q⟩ := h
  cases (show v = Value.ref a from rx)
  cases (show u = Value.ref b' from ry)
  obtain ⟨od, J⟩ := ins_at I ha
  obtain ⟨od', J'⟩ := ins_at I hb'
  show wpAny (model X.prog X.w) X.A (richCompare .NotEq (.ref a) (.ref b')) (EP X pins σ Q) X.xe s
  refine ne_K (by have := hr.units; omega) I.kIn J J'.type hn hm hme.at_ hme.fn ?_
  refine wpAny_mono (run_fnA (us := [.ref a, .ref b']) (vs := [.ref a, .ref b']) F (hr.mono hk).in1 rfl b pass0 I (.cons rfl (.cons rfl .nil)) q) (fun w s' z => ?_) fun _ _ e => e
  obtain ⟨z', H', I', rz, t, rfl, qz⟩ := z
  cases (show w = Value.bool t from rz)
  exact ⟨t, rfl, .bl (!t), H', I', rfl, qz⟩
end
end RH
set_option exponentiation.threshold 256
set_option Elab.async false
set_option linter.all false
set_option maxRecDepth 100000
set_option maxHeartbeats 4000000
namespace RH
open PySem PySem.Spec PyProof.Rows L2
/-- xs != [], xs a list of anything -/
def rNeE (K : PySem.W.Frag) : R2 := fun x y H Q => ∃ a b xs, x = .ref a ∧ y = .ref b ∧ SqL K H a xs ∧ SqL K H b [] ∧ Q (.bl (!xs.isEmpty)) H
/-- x in y, y an own object -/
def rInO (C : Addr) (sp : Sp) (E : XK) : R2 := fun x y H Q => ∃ a dx fs, y = .ref a ∧ H a = some (.ins C dx fs) ∧ sp [.ref a, x] H (fun v H' => ∃ t, v = .bl t ∧ Q (.bl t) H') E
section
variable {X : Cx} {C : Addr} {k j : Nat} {sp : Sp}
theorem op_neE (hr : Room j X.A) : OpR X (compareOp .NotEq) (rNeE X.K) := by
  intro pins s σ H x y v u Q I rx ry h
  obtain ⟨a, b, xs, rfl, rfl, ha, hb, q⟩ := h
  cases (show v = Value.ref a from rx)
  cases (show u = Value.ref b from ry)
  obtain ⟨its, r, pl, hz⟩ := I.list ha
  obtain ⟨its2, r2, pl2, hz2⟩ := I.list hb
  cases r2
  have hl := r.length
  show wpAny (model X.prog X.w) X.A (richCompare .NotEq (.ref a) (.ref b)) (EP X pins σ Q) X.xe s
  cases xs with
  | nil =>
    cases r
    refine SeqAt.RcNeAt.lists (e := fun _ => true) pl.isList pl2.isList rfl hr.units0 (fun j h1 => absurd h1 (Nat.not_lt_zero _)) X.prog X.w X.xe _ ?_
    exact ⟨.bl false, H, I, rfl, q⟩
  | cons z zs =>
    refine SeqAt.RcNeAt.lists_lengths pl.isList pl2.isList ?_ hr.units0 X.prog X.w X.xe _ ?_
    · rw [List.size_toArray, ← hl]; rfl
    · exact ⟨.bl true, H, I, rfl, q⟩
theorem op_inO (c : Mtl X.prog X.w X.K X.mg X.base k C "__contains__" sp) (hr : Room j X.A) (hk : k ≤ j) : OpR X (compareOp .In) (rInO C sp E0) := by
  have ⟨f, fd, ps, hc, hm, hf, F, b⟩ := c.of
  intro pins s σ H x y v u Q I rx ry h
  obtain ⟨a, dx, fs, rfl, ha, q⟩ := h
  cases (show u = Value.ref a from ry)
  obtain ⟨od, J⟩ := ins_at I ha
  obtain ⟨m, hF⟩ := I.fr
  refine PySem.W.in_K hF I.ok.mod.kin J hm.at_ hm.fn ?_
  refine thn (run_fn (us := [.ref a, v]) (vs := [.ref a, x]) F (hr.mono hk) b .nil pass0 I (.cons rfl (.cons rx .nil)) q) fun w s' z => ?_
  obtain ⟨z', H', I', rz, t, rfl, qz⟩ := z
  cases (show w = Value.bool t from rz)
  exact wpAny_truthy_bool ⟨.bl t, H', I', rfl, qz⟩
end
end RH
set_option exponentiation.threshold 256
set_option Elab.async false
set_option linter.all false
set_option maxRecDepth 100000
set_option maxHeartbeats 4000000
namespace RH
open PySem PySem.Spec PyProof.Rows L2
theorem meets_bool_any {prog : Program} {w : World} (x : Value) : MeetsIn prog w (Builtin.«bool.__new__» ⟨[.type "bool", x], []⟩)
    (fun A R s => wpAny (model prog w) A.in1 (truthy x) (fun b s' => R (.ok (.ret (.bool b))) s') (fun e s' => R (.error e) s') s) :=
  .of_wp fun A R s h => by
    have f1 := PySem.F.conv_sub_bool
    unfold Builtin.«bool.__new__»
    repeat (any_goals (first | assumption | (refine wpAny_mono h (fun b s' hb => ?_) fun _ _ e => e) | (refine wpAny_bind (m := truthy x) (wpAny_mono h (fun b s' hb => ?_) fun _ _ e => e)) | wp_step))
    all_goals first | exact ⟨_, rfl, hb⟩ | skip
/-- bool(x), x an own object -/
def rBoolO (C : Addr) (sp : Sp) (E : XK) : List V → Hp → VK → Prop := fun xs H Q => ∃ a dx fs, xs = [.ref a] ∧ H a = some (.ins C dx fs) ∧ sp [.ref a] H (fun v H' => ∃ t, v = .bl t ∧ Q (.bl t) H') E
section
variable {X : Cx} {C : Addr} {k j : Nat} {sp : Sp}
theorem call_boolO (c : Mtl X.prog X.w X.K X.mg X.base k C "__bool__" sp) (hr : Room j X.A) (hk : k + 2 ≤ j) : CallR X (.type "bool") (rBoolO C sp E0) := by
  have ⟨f, fd, ps, hc, hm, hf, F, b⟩ := c.of
  intro pins s σ H xs us Q I r h
  obtain ⟨a, dx, fs, rfl, ha, q⟩ := h
  obtain rfl := Vals.ref1 r
  obtain ⟨od, J⟩ := ins_at I ha
  obtain ⟨m, hF⟩ := I.fr
  refine callType_newIn PySem.F.called_bool PySem.F.newNe_bool (PySem.F.typeCall_bool_1 _) (PySem.F.newCall_bool_1 _) (fun obj => PySem.F.args_object_init_2 obj _) PySem.F.entry_bool_new (meets_bool_any _) ?_
  refine PySem.W.truthy_K hF I.ok.mod.kin J hm.at_ hm.fn ?_
  refine wpAny_mono (run_fnA (us := [.ref a]) (vs := [.ref a]) F (hr.mono hk).in1.in1 rfl b pass0 I (.cons rfl .nil) q) (fun w s' z => ?_) fun _ _ e => e
  obtain ⟨z', H', I', rz, t, rfl, qz⟩ := z
  cases (show w = Value.bool t from rz)
  exact ⟨rfl, .bl t, H', I', rfl, qz⟩
end
end RH
set_option exponentiation.threshold 256
set_option Elab.async false
set_option linter.all false
set_option maxRecDepth 100000
set_option maxHeartbeats 4000000
namespace RH
open PySem PySem.Spec PyProof.Rows L2
theorem units65 {k : Nat} {A : Around} (r : Room k A) : A.units + 65 < cLine := by have := r.un; omega
def rInDT (K : PySem.W.Frag) : R2 := fun x y H Q => ∃ d ds, Dp K H x d ∧ Dp K H y (.tuple ds) ∧ SeqAt.shaped d = true ∧ SeqAt.shaped (.tuple ds) = true ∧ Q (.bl (ds.any fun z => PyData.eqv z d)) H
/-- x == l, x an own object, l a list: its own def answers -/
def rEqOL (K : PySem.W.Frag) (C : Addr) (sp : Sp) (E : XK) : R2 := fun x y H Q => ∃ a dx fs b es, x = .ref a ∧ y = .ref b ∧ H a = some (.ins C dx fs) ∧ H b = some (.lst es) ∧ sp [x, y] H Q E
section
variable {X : Cx} {C : Addr} {k j : Nat} {sp : Sp}
theorem op_inDT (hu : X.A.units + 65 < cLine) : OpR X (compareOp .In) (rInDT X.K) := by
  intro pins s σ H x y v u Q I rx ry h
  obtain ⟨d, ds, hd, he, sd, se, q⟩ := h
  obtain ⟨as, r1⟩ := Dp.reads I d x v hd rx
  obtain ⟨bs, r2⟩ := Dp.reads I (.tuple ds) y u he ry
  exact SeqAt.in_tuple_reads r2 r1 (SeqAt.canLay_of_shaped se) (SeqAt.canLay_of_shaped sd) (room_in_shaped sd hu) ⟨.bl _, H, I, rfl, q⟩
theorem op_eqOL (c : Mtl X.prog X.w X.K X.mg X.base k C "__eq__" sp) (hn : PySem.W.notFirst X.K C (.type "list") = true) (hr : Room j X.A) (hk : k ≤ j) : OpR X (compareOp .Eq) (rEqOL X.K C sp E0) := by
  have ⟨f, fd, ps, hc, hm, hf, F, b⟩ := c.of
  intro pins s σ H x y v u Q I rx ry h
  obtain ⟨a, dx, fs, b', es, rfl, rfl, ha, hb', q⟩ := h
  cases (show v = Value.ref a from rx)
  cases (show u = Value.ref b' from ry)
  obtain ⟨od, J⟩ := ins_at I ha
  have hq : SqL X.K H b' es := .inl (.inl hb')
  obtain ⟨its, r, pl, hz⟩ := I.list hq
  obtain ⟨o, ho, hco, _⟩ := pl.isList
  have hty : PySem.W.Looks (model X.prog X.w) s.heap (typeOf (.ref b')) (.type "list") := hco ▸ (PySem.W.Looks.ld ho).andThen .now
  obtain ⟨m, hF⟩ := I.fr
  show wpAny (model X.prog X.w) X.A (richCompare .Eq (.ref a) (.ref b')) (EP X pins σ Q) X.xe s
  refine PySem.W.cmp_K (op := .Eq) (tb := .type "list") hr.units0 hF I.ok.mod.kin J hty hn hm.at_ hm.fn ?_
  refine thn (run_fn (us := [.ref a, .ref b']) (vs := [.ref a, .ref b']) F (hr.mono hk) b .nil pass0 I (.cons rfl (.cons rfl .nil)) q) fun w s' z => ?_
  obtain ⟨z', H', I', rz, qz⟩ := z
  exact SlX.cmpback rz ⟨z', H', I', rz, qz⟩
end
end RH
set_option exponentiation.threshold 256
set_option Elab.async false
set_option linter.all false
set_option maxRecDepth 100000
set_option maxHeartbeats 4000000
namespace RH
open PySem PySem.Spec PyProof.Rows L2
/-- an entry: its key, where the key stands, its value -/
abbrev NX := NestedKey × Value × Value
def entN (w : World) (x : NX) : DictEntry := ⟨x.1.hash w, x.2.1, x.2.2⟩
section
variable {prog : Program} {w : World} {A : Around} {E : Value → Shared → Prop} {s : Shared}
theorem wp_cases {α : Type} {M : Model} {c : Prop} [Decidable c] {x y : Sem α} {Q : α → Shared → Prop} (h1 : c → wpAny M A x Q E s) (h2 : ¬ c → wpAny M A y Q E s) : wpAny M A (if c then x else y) Q E s := by
  by_cases hc : c
  · rw [if_pos hc]; exact h1 hc
  · rw [if_neg hc]; exact h2 hc
theorem eq_n {x y : NestedKey} {a b : Value} {Q : Bool → Shared → Prop} (hx : NestedIs s.heap x a) (hy : NestedIs s.heap y b) (hd : x.depth ≤ 8) (hu : A.units + 8 < cLine) (q : Q (decide (x = y)) s) : wpAny (model prog w) A (eqBool a b) Q E s :=
  eqAt_key x y A s a b hx hy (by omega) _ _ _ _ (by rw [← NestedKey.decide_eq]; exact q)
/-- the places whose hash is the key's -/
abbrev plc (w : World) (es : Array DictEntry) (k : NestedKey) : List Nat := placesWithHash es.size (fun i => es[i]?.map (·.hash)) (k.hash w)
theorem plc_mem {es : Array DictEntry} {xs : List NX} {k : NestedKey} (he : es.toList = xs.map (entN w)) {i : Nat} (hi : i ∈ plc w es k) : ∃ x, xs[i]? = some x ∧ es[i]? = some (entN w x) ∧ x.1.hash w = k.hash w := by
  obtain ⟨h1, h2⟩ := List.mem_filter.mp hi
  have e : es[i]? = (xs[i]?).map (entN w) := by rw [← Array.getElem?_toList, he, List.getElem?_map]
  have hl : i < xs.length := by
    have := congrArg List.length he
    rw [List.length_map, Array.length_toList] at this
    have := List.mem_range.mp h1
    omega
  rw [List.getElem?_eq_getElem hl] at e
  refine ⟨_, List.getElem?_eq_getElem hl, e, ?_⟩
  have h3 : (es[i]?.map (·.hash) == some (k.hash w)) = true := h2
  rw [e] at h3
  exact Option.some.inj (beq_iff_eq.mp h3)
theorem plc_all {es : Array DictEntry} {xs : List NX} {k : NestedKey} (he : es.toList = xs.map (entN w)) {j : Nat} {p : Value × Value} (hj : xs[j]? = some (k, p)) : j ∈ plc w es k := by
  have e : es[j]? = (xs[j]?).map (entN w) := by rw [← Array.getElem?_toList, he, List.getElem?_map]
  have hl : j < es.size := by
    have := congrArg List.length he
    rw [List.length_map, Array.length_toList] at this
    have := (List.getElem?_eq_some_iff.mp hj).1
    omega
  refine List.mem_filter.mpr ⟨List.mem_range.mpr hl, ?_⟩
  show (es[j]?.map (·.hash) == some (k.hash w)) = true
  rw [e, hj]
  exact beq_iff_eq.mpr rfl
/-- where a key stands -/
def At (xs : List NX) (k : NestedKey) (r : Option Nat) : Prop := ∀ j, r = some j ↔ ∃ p : Value × Value, xs[j]? = some (k, p)
theorem at_none {xs : List NX} {k : NestedKey} (h : ∀ (j : Nat) (p : Value × Value), xs[j]? ≠ some (k, p)) : At xs k none := fun j => ⟨(fun z => by cases z), fun ⟨p, z⟩ => absurd z (h j p)⟩
theorem at_some {xs : List NX} {k : NestedKey} (hn : (xs.map (·.1)).Nodup) {i : Nat} {p : Value × Value} (h : xs[i]? = some (k, p)) : At xs k (some i) := fun j => by
  constructor
  · intro z; cases z; exact ⟨p, h⟩
  · rintro ⟨q, z⟩
    have a1 : (xs.map (·.1))[i]? = some k := by rw [List.getElem?_map, h]; rfl
    have a2 : (xs.map (·.1))[j]? = some k := by rw [List.getElem?_map, z]; rfl
    rw [(List.getElem?_inj (List.getElem?_eq_some_iff.mp a1).1 hn).mp (a1.trans a2.symm)]
variable {d : Addr} {o : Obj} {es : Array DictEntry} {ep : Nat} {xs : List NX} {k : NestedKey} {kv : Value}
theorem walk_n {Q : Option Nat → Shared → Prop} (hu : A.units + 8 < cLine) (hk : NestedIs s.heap k kv)
    (ho : s.heap.get? d = some o) (hd : o.data = .dict es ep) (he : es.toList = xs.map (entN w)) (his : ∀ x ∈ xs, NestedIs s.heap x.1 x.2.1 ∧ x.1.depth ≤ 8) (hn : (xs.map (·.1)).Nodup)
    (h : ∀ r, At xs k r → Q r s) : wpAny (model prog w) A (dictWalkPlain d kv (k.hash w) es (plc w es k)) Q E s := by
  unfold dictWalkPlain
  refine wpAny_bind ?_
  refine wpAny_forIn_list _ (fun rest r s' => s' = s ∧ r.1 = none ∧ ∃ pre, plc w es k = pre ++ rest ∧ ∀ j ∈ pre, ∀ p, xs[j]? ≠ some (k, p)) _ ?_ ?_ _ _ ⟨rfl, rfl, [], rfl, fun _ z => absurd z List.not_mem_nil⟩
  · rintro i rest r s' ⟨rfl, hr, pre, hpre, hno⟩
    obtain ⟨x, hx, hex, hh⟩ := plc_mem (w := w) (k := k) he (i := i) (by rw [hpre]; exact List.mem_append_right _ (List.mem_cons_self ..))
    obtain ⟨hxi, hxd⟩ := his x (List.mem_of_getElem? hx)
    rw [hex]
    dsimp only [entN]
    rw [if_pos (by rw [hh]; exact beq_iff_eq.mpr rfl)]
    refine wpAny_bind (wpAny_dictEpoch ho hd (wpAny_bind (eq_n hxi hk hxd hu (wpAny_bind (wpAny_dictEpoch ho hd ?_)))))
    rw [if_neg (by simp)]
    by_cases e : x.1 = k
    · rw [if_pos (decide_eq_true e)]
      refine wpAny_bind (wpAny_rule (wpAny_pure (wpAny_pure (h (some i) (at_some hn (p := x.2) ?_)))))
      rw [hx, ← e]
    · rw [if_neg (by rw [decide_eq_false e]; exact Bool.false_ne_true)]
      refine wpAny_bind (wpAny_rule (wpAny_pure ⟨rfl, rfl, pre ++ [i], by rw [hpre, List.append_assoc]; rfl, fun j hj p hp => ?_⟩))
      rcases List.mem_append.mp hj with hj | hj
      · exact hno j hj p hp
      · rw [List.mem_singleton.mp hj, hx] at hp
        cases hp
        exact e rfl
  · rintro ⟨r1, r2⟩ s' ⟨rfl, hr, pre, hpre, hno⟩
    simp only at hr
    subst hr
    refine wpAny_pure (h none (at_none fun j p hj => hno j ?_ p hj))
    have := plc_all (w := w) (k := k) he hj
    rw [hpre, List.append_nil] at this
    exact this
theorem tell_n {stored : List Value} {Q : Bool → Shared → Prop} (hk : NestedIs s.heap k kv) (hkd : k.depth ≤ 8) (hst : ∀ v ∈ stored, ∃ k', NestedIs s.heap k' v ∧ k'.depth ≤ 8) (q : Q false s) : wpAny (model prog w) A (tableMayTell kv stored) Q E s := by
  unfold tableMayTell
  split
  · exact wpAny_pure q
  · refine wpAny_bind (quiet_key k kv 8 s hk hkd A E _ ?_)
    simp only [Bool.not_true, Bool.false_eq_true, if_false]
    refine wpAny_bind ?_
    refine wpAny_forIn_list _ (fun rest r s' => s' = s ∧ r.1 = none ∧ ∀ v ∈ rest, ∃ k', NestedIs s.heap k' v ∧ k'.depth ≤ 8) _ ?_ ?_ _ _ ⟨rfl, rfl, hst⟩
    · rintro v rest r s' ⟨rfl, hr, hall⟩
      obtain ⟨k', h1, h2⟩ := hall v (List.mem_cons_self ..)
      refine wpAny_bind (quiet_key k' v 8 s' h1 h2 A E _ ?_)
      simp only [Bool.not_true, Bool.false_eq_true, if_false]
      exact wpAny_pure ⟨rfl, rfl, fun u hu => hall u (List.mem_cons_of_mem _ hu)⟩
    · rintro ⟨r1, r2⟩ s' ⟨rfl, hr, _⟩
      simp only at hr
      subst hr
      exact wpAny_pure q
/-- a loop over the places that ends with the place of the key -/
theorem loop_n {f : Nat → Option (Option Nat) × Option Nat → Sem (ForInStep (Option (Option Nat) × Option Nat))} (he : es.toList = xs.map (entN w)) (hn : (xs.map (·.1)).Nodup)
    (hf : ∀ (i : Nat) (x : NX) (r2 : Option Nat) (R : ForInStep (Option (Option Nat) × Option Nat) → Shared → Prop), xs[i]? = some x → es[i]? = some (entN w x) → x.1.hash w = k.hash w → (x.1 ≠ k → R (.yield (none, r2)) s) →
      (x.1 = k → r2 = none ∧ R (.done (some (some i), none)) s ∧ R (.yield (none, some i)) s) → wpAny (model prog w) A (f i (none, r2)) R E s)
    : wpAny (model prog w) A (forIn (plc w es k) (none, none) f) (fun r s' => s' = s ∧ ((∃ x, r = (some x, none) ∧ At xs k x) ∨ ∃ x, r = (none, x) ∧ At xs k x)) E s := by
  refine wpAny_forIn_list _ (fun rest r s' => s' = s ∧ r.1 = none ∧ ∃ pre, plc w es k = pre ++ rest ∧ ((r.2 = none ∧ ∀ j ∈ pre, ∀ p, xs[j]? ≠ some (k, p)) ∨ ∃ j p, r.2 = some j ∧ j ∈ pre ∧ xs[j]? = some (k, p))) _ ?_ ?_ _ _ ⟨rfl, rfl, [], rfl, .inl ⟨rfl, fun _ z => absurd z List.not_mem_nil⟩⟩
  · rintro i rest ⟨r1, r2⟩ s' ⟨rfl, hr, pre, hpre, hit⟩
    simp only at hr hit
    subst hr
    obtain ⟨x, hx, hex, hh⟩ := plc_mem (w := w) (k := k) he (i := i) (by rw [hpre]; exact List.mem_append_right _ (List.mem_cons_self ..))
    have hnd : (plc w es k).Nodup := List.Nodup.sublist List.filter_sublist List.nodup_range
    have eq2 : plc w es k = (pre ++ [i]) ++ rest := by rw [hpre, List.append_assoc]; rfl
    refine hf i x r2 _ hx hex hh (fun e => ⟨rfl, rfl, pre ++ [i], eq2, ?_⟩) fun e => ?_
    · rcases hit with ⟨e0, hno⟩ | ⟨j, p, e0, hj, hjp⟩
      · refine .inl ⟨e0, fun j hj p hp => ?_⟩
        rcases List.mem_append.mp hj with hj | hj
        · exact hno j hj p hp
        · rw [List.mem_singleton.mp hj, hx] at hp
          cases hp
          exact e rfl
      · exact .inr ⟨j, p, e0, List.mem_append_left _ hj, hjp⟩
    · have hxk : xs[i]? = some (k, x.2) := by rw [hx, ← e]
      rcases hit with ⟨e0, hno⟩ | ⟨j, p, e0, hj, hjp⟩
      · exact ⟨e0, ⟨rfl, .inl ⟨_, rfl, at_some hn hxk⟩⟩, rfl, rfl, pre ++ [i], eq2, .inr ⟨i, _, rfl, List.mem_append_right _ (List.mem_singleton.mpr rfl), hxk⟩⟩
      · exfalso
        have hij : i = j := Option.some.inj (((at_some hn hjp) i).mpr ⟨_, hxk⟩).symm
        rw [hpre, List.nodup_append] at hnd
        exact hnd.2.2 j hj i (List.mem_cons_self ..) hij.symm
  · rintro ⟨r1, r2⟩ s' ⟨rfl, hr, pre, hpre, hit⟩
    simp only at hr hit
    subst hr
    rw [List.append_nil] at hpre
    rcases hit with ⟨rfl, hno⟩ | ⟨j, p, rfl, hj, hjp⟩
    · exact ⟨rfl, .inr ⟨_, rfl, at_none fun j p hj => hno j (by rw [← hpre]; exact plc_all he hj) p hj⟩⟩
    · exact ⟨rfl, .inr ⟨_, rfl, at_some hn hjp⟩⟩
theorem find_n {Q : Option Nat → Shared → Prop} (hu : A.units + 8 < cLine) (hkv : kv = .none ∨ ∃ a, kv = .ref a) (hk : NestedIs s.heap k kv) (hkd : k.depth ≤ 8)
    (ho : s.heap.get? d = some o) (hd : o.data = .dict es ep) (he : es.toList = xs.map (entN w)) (his : ∀ x ∈ xs, NestedIs s.heap x.1 x.2.1 ∧ x.1.depth ≤ 8) (hn : (xs.map (·.1)).Nodup)
    (h : ∀ r, At xs k r → Q r s) : wpAny (model prog w) A (dictFind d kv (k.hash w)) Q E s := by
  have hst : ∀ v ∈ (plc w es k).filterMap (fun i => es[i]?.map (·.key)), ∃ k', NestedIs s.heap k' v ∧ k'.depth ≤ 8 := fun v hv => by
    obtain ⟨i, hi, e⟩ := List.mem_filterMap.mp hv
    obtain ⟨x, hx, hex, _⟩ := plc_mem he hi
    rw [hex] at e
    cases e
    exact ⟨x.1, his x (List.mem_of_getElem? hx)⟩
  have hmem : ∀ e ∈ es, ∃ x ∈ xs, e = entN w x := fun e hin => by
    have : e ∈ xs.map (entN w) := he ▸ Array.mem_toList_iff.mpr hin
    obtain ⟨x, hx, rfl⟩ := List.mem_map.mp this
    exact ⟨x, hx, rfl⟩
  have hany : ¬ (es.any fun e => e.key == kv && e.hash != k.hash w) = true := by
    rw [← Array.any_toList, List.any_eq_true]
    rintro ⟨e, hin, hc⟩
    obtain ⟨x, hx, rfl⟩ := hmem e (Array.mem_toList_iff.mp hin)
    rw [Bool.and_eq_true, beq_iff_eq, bne_iff_ne] at hc
    have h1 := (his x hx).1
    rw [show x.2.1 = kv from hc.1] at h1
    exact hc.2 (by show x.1.hash w = k.hash w; rw [NestedIs.inj _ _ _ h1 hk])
  unfold dictFind
  try with_reducible refine wpAny_holding ?_
  refine wpAny_bind (wpAny_dictEntries ho hd ?_)
  by_cases hall : ((kv :: (plc w es k).filterMap (fun i => es[i]?.map (·.key))).all carriedByValue) = true
  · rcases hkv with rfl | ⟨a, rfl⟩
    · dsimp only
      rw [if_pos hall]
      exact walk_n hu hk ho hd he his hn h
    · simp [carriedByValue] at hall
  rcases hkv with rfl | ⟨a, rfl⟩ <;> dsimp only <;> rw [if_neg hall] <;> (try rw [if_neg hany]) <;> refine wp_cases (fun _ => ?_) (fun _ => ?_) <;>
    (first | refine wpAny_bind (wpAny_pure ?_) | refine wpAny_bind (tell_n hk hkd hst ?_)) <;> rw [if_neg (by rw [Bool.false_and]; exact Bool.false_ne_true)] <;>
    refine wpAny_bind (wpAny_mono (loop_n he hn (fun i x r2 R hx hex hh q1 q2 => ?_)) (fun r s' hr => by
      obtain ⟨rfl, ⟨x, rfl, hx⟩ | ⟨x, rfl, hx⟩⟩ := hr
      · exact wpAny_pure (h x hx)
      · exact wpAny_pure (h x hx)) fun _ _ z => z)
  all_goals
    obtain ⟨hxi, hxd⟩ := his x (List.mem_of_getElem? hx)
    rw [hex]
    dsimp only [entN]
    rw [if_pos (by rw [hh]; exact beq_iff_eq.mpr rfl)]
    refine wpAny_bind (wpAny_dictEpoch ho hd (wpAny_bind (eq_n hxi hk hxd hu (wpAny_bind (wpAny_dictEpoch ho hd ?_)))))
    rw [if_neg (by simp)]
    by_cases e : x.1 = k
    · obtain ⟨rfl, a1, a2⟩ := q2 e
      rw [if_pos (decide_eq_true e)]
      simp only [Option.isSome_none, Bool.false_eq_true, if_false]
      refine wpAny_bind (wpAny_rule ?_)
      split
      · exact wpAny_pure a1
      · exact wpAny_pure a2
    · rw [if_neg (by rw [decide_eq_false e]; exact Bool.false_ne_true)]
      refine wpAny_bind (wpAny_rule ?_)
      rw [if_neg (by rw [Bool.false_and]; exact Bool.false_ne_true)]
      exact wpAny_pure (q1 e)
end
end RH
set_option exponentiation.threshold 256
set_option Elab.async false
set_option linter.all false
set_option maxRecDepth 100000
set_option maxHeartbeats 4000000
namespace RH
open PySem PySem.Spec PyProof.Rows L2
/-- the dict at a holds these entries -/
structure DN (w : World) (h : Heap) (a : Addr) (xs : List NX) : Prop where
  sys : (a == sysModules) = false
  len : xs.length ≤ 1000
  nd : (xs.map (·.1)).Nodup
  ob : ∃ o es ep, h.get? a = some o ∧ o.ExactDict ∧ o.data = .dict es ep ∧ es.toList = xs.map (entN w)
def lkN (xs : List NX) (k : NestedKey) : Option Value := (xs.find? fun x => decide (x.1 = k)).map (·.2.2)
def chN (k : NestedKey) (v : Value) (x : NX) : NX := if x.1 = k then (x.1, x.2.1, v) else x
def ptN (xs : List NX) (k : NestedKey) (kv v : Value) : List NX := if (lkN xs k).isSome = true then xs.map (chN k v) else xs ++ [(k, kv, v)]
theorem lkN_none {xs : List NX} {k : NestedKey} (h : At xs k none) : lkN xs k = none := by
  unfold lkN
  rw [List.find?_eq_none.mpr fun x hx hk => ?_]
  · rfl
  · obtain ⟨j, hj⟩ := List.mem_iff_getElem?.mp hx
    have e : x.1 = k := of_decide_eq_true hk
    have := (h j).mpr ⟨x.2, by rw [hj, ← e]⟩
    cases this
theorem lkN_some {xs : List NX} {k : NestedKey} {j : Nat} (h : At xs k (some j)) : ∃ p : Value × Value, xs[j]? = some (k, p) ∧ lkN xs k = some p.2 := by
  obtain ⟨p, hp⟩ := (h j).mp rfl
  refine ⟨p, hp, ?_⟩
  unfold lkN
  cases e : xs.find? (fun x => decide (x.1 = k)) with
  | none => exact absurd (decide_eq_true rfl) (List.find?_eq_none.mp e _ (List.mem_of_getElem? hp))
  | some x =>
    have hk : x.1 = k := of_decide_eq_true (List.find?_some (p := fun x : NX => decide (x.1 = k)) e)
    obtain ⟨i, hi⟩ := List.mem_iff_getElem?.mp (List.mem_of_find?_eq_some e)
    have : some j = some i := (h i).mpr ⟨x.2, by rw [hi, ← hk]⟩
    cases this
    rw [hp] at hi
    cases hi
    rfl
theorem chN_key (k : NestedKey) (v : Value) (x : NX) : (chN k v x).1 = x.1 := by unfold chN; split <;> rfl
theorem chN_keys (xs : List NX) (k : NestedKey) (v : Value) : (xs.map (chN k v)).map (·.1) = xs.map (·.1) := by
  rw [List.map_map]
  exact List.map_congr_left fun x _ => chN_key k v x
theorem chN_mod {w : World} {xs : List NX} {k : NestedKey} {v : Value} {j : Nat} (h : At xs k (some j)) : (xs.map (entN w)).modify j (fun e => { e with val := v }) = (xs.map (chN k v)).map (entN w) := by
  refine List.ext_getElem? fun i => ?_
  rw [List.getElem?_modify, List.getElem?_map, List.getElem?_map, List.getElem?_map]
  cases hx : xs[i]? with
  | none => rfl
  | some x =>
    by_cases e : x.1 = k
    · have : some j = some i := (h i).mpr ⟨x.2, by rw [hx, ← e]⟩
      cases this
      show (some (entN w x)).map _ = some (entN w (chN k v x))
      unfold chN
      rw [if_pos e]
      simp [entN]
    · have : ¬ j = i := fun z => by
        subst z
        obtain ⟨p, hp⟩ := (h j).mp rfl
        rw [hx] at hp
        cases hp
        exact e rfl
      show (some (entN w x)).map _ = some (entN w (chN k v x))
      unfold chN
      rw [if_neg e]
      simp [this]
section
variable {prog : Program} {w : World} {A : Around} {E : Value → Shared → Prop} {s : Shared} {d : Addr} {xs : List NX} {k : NestedKey} {kv : Value}
/-- keys that stand in the heap -/
def KsAt (h : Heap) (xs : List NX) : Prop := ∀ x ∈ xs, NestedIs h x.1 x.2.1 ∧ x.1.depth ≤ 8
structure KAt (h : Heap) (k : NestedKey) (kv : Value) : Prop where
  is : NestedIs h k kv
  dp : k.depth ≤ 8
  fm : kv = .none ∨ ∃ a, kv = .ref a
theorem get_n {Q : Option Value → Shared → Prop} (hu : A.units + 8 < cLine) (hk : KAt s.heap k kv) (D : DN w s.heap d xs) (ks : KsAt s.heap xs) (h : Q (lkN xs k) { s with toks := s.toks + k.draws }) : wpAny (model prog w) A (dictGet d kv) Q E s := by
  obtain ⟨o, es, ep, ho, hc, hd, he⟩ := D.ob
  unfold dictGet
  try with_reducible refine wpAny_holding ?_
  refine wpAny_bind (pyHash_key k kv A s _ hk.is (by have := hk.dp; omega) ?_)
  refine wpAny_bind (find_n (s := { s with toks := s.toks + k.draws }) hu hk.fm hk.is hk.dp ho hd he ks D.nd fun r hr => ?_)
  cases r with
  | none => rw [lkN_none hr] at h; exact wpAny_pure h
  | some j =>
    obtain ⟨p, hp, e⟩ := lkN_some hr
    rw [e] at h
    refine wpAny_bind (wpAny_dictEntries (s := { s with toks := s.toks + k.draws }) ho hd ?_)
    have : es[j]? = some (entN w (k, p)) := by rw [← Array.getElem?_toList, he, List.getElem?_map, hp]; rfl
    rw [this]
    exact wpAny_pure h
theorem set_n {v : Value} {Q : Unit → Shared → Prop} (hu : A.units + 8 < cLine) (hk : KAt s.heap k kv) (D : DN w s.heap d xs) (ks : KsAt s.heap xs) (hl : xs.length < 1000)
    (h : ∀ h', DN w h' d (ptN xs k kv v) → Heap.SameBut d s.heap h' → Q () { s with heap := h', toks := s.toks + k.draws }) : wpAny (model prog w) A (dictSet d kv v) Q E s := by
  obtain ⟨o, es, ep, ho, hc, hd, he⟩ := D.ob
  have hsz : es.size = xs.length := by
    have := congrArg List.length he
    rwa [List.length_map, Array.length_toList] at this
  have h1000 : 1000 ≤ sizeLine := by decide
  unfold dictSet
  try with_reducible refine wpAny_holding ?_
  refine wpAny_bind (pyHash_key k kv A s _ hk.is (by have := hk.dp; omega) ?_)
  unfold dictSetHashed
  try with_reducible refine wpAny_holding ?_
  refine wpAny_bind (find_n (s := { s with toks := s.toks + k.draws }) hu hk.fm hk.is hk.dp ho hd he ks D.nd fun r hr => ?_)
  cases r with
  | none =>
    have hno : k ∉ xs.map (·.1) := fun hm => by
      obtain ⟨x, hx, e⟩ := List.mem_map.mp hm
      obtain ⟨j, hj⟩ := List.mem_iff_getElem?.mp hx
      have := (hr j).mpr ⟨x.2, by rw [hj, ← e]⟩
      cases this
    refine wpAny_bind (wpAny_rule (wpAny_updateDictKeys (hz := by omega) (s := { s with toks := s.toks + k.draws }) ho hd (h _ ⟨D.sys, ?_, ?_, _, _, ep + 1, Heap.get?_update_self _ ho (Obj.isFreed_of_dict (Obj.data_mapDictKeys hd _)), hc.mapDictKeys _, Obj.data_mapDictKeys hd _, ?_⟩ (Heap.SameBut.update ..))))
    · unfold ptN; rw [lkN_none hr]; show (xs ++ [(k, kv, v)]).length ≤ 1000; rw [List.length_append]; show xs.length + 1 ≤ 1000; omega
    · unfold ptN
      rw [lkN_none hr]
      show ((xs ++ [(k, kv, v)]).map (·.1)).Nodup
      rw [List.map_append, List.nodup_append]
      exact ⟨D.nd, by simp, fun a ha b hb e => hno (by rw [show b = k from List.mem_singleton.mp hb] at e; rw [← e]; exact ha)⟩
    · unfold ptN
      rw [lkN_none hr]
      show (es.push _).toList = (xs ++ [(k, kv, v)]).map (entN w)
      rw [Array.toList_push, he, List.map_append]
      rfl
  | some j =>
    obtain ⟨p, hp, e⟩ := lkN_some hr
    refine wpAny_bind (wpAny_rule (wpAny_bind (wpAny_updateDict (s := { s with toks := s.toks + k.draws }) ho hd (wpAny_point (h _ ⟨D.sys, ?_, ?_, _, _, ep, Heap.get?_update_self _ ho (Obj.isFreed_of_dict (Obj.data_mapDict hd _)), hc.mapDict _, Obj.data_mapDict hd _, ?_⟩ (Heap.SameBut.update ..))))))
    · unfold ptN; rw [e]; show (xs.map (chN k v)).length ≤ 1000; rw [List.length_map]; omega
    · unfold ptN; rw [e]; show ((xs.map (chN k v)).map (·.1)).Nodup; rw [chN_keys]; exact D.nd
    · unfold ptN
      rw [e]
      show (es.modify j _).toList = (xs.map (chN k v)).map (entN w)
      rw [Array.toList_modify, he, chN_mod hr]
theorem DN.typ (D : DN w s.heap d xs) : s.TypeIs (.ref d) "dict" := by
  obtain ⟨o, es, ep, ho, hc, _⟩ := D.ob
  exact ⟨o, ho, hc.1⟩
theorem setItem_n {v : Value} {Q : Unit → Shared → Prop} (hu : A.units + 9 < cLine) (hk : KAt s.heap k kv) (D : DN w s.heap d xs) (ks : KsAt s.heap xs) (hl : xs.length < 1000)
    (h : ∀ h', DN w h' d (ptN xs k kv v) → Heap.SameBut d s.heap h' → Q () { s with heap := h', toks := s.toks + k.draws }) : wpAny (model prog w) A (setItem (.ref d) kv v) Q E s := by
  unfold setItem
  try with_reducible refine wpAny_holding ?_
  refine wpAny_bind (wpAny_sequenceKey D.typ (by decide) ?_)
  refine wpAny_bind (wpAny_callSpecial?_slot (name := Str.ofString "__setitem__") D.typ slot_dict_setitem (wpAny_call_entry slot_dict_setitem D.typ entry_dict_setitem ?_ (args_dict_setitem _ _ _)))
  show wpAny _ _ (Builtin.Dict.notOrdered "__setitem__" ⟨[.ref d, kv, v], []⟩ >>= _) _ _ s
  refine wpAny_bind (wpAny_notOrdered_dict D.typ ?_)
  show wpAny _ _ (dictSet d kv v >>= _) _ _ s
  exact wpAny_bind (set_n (by simp only [Around.in1_units]; omega) hk D ks hl fun h' D' sb => wpAny_pure ⟨.none, rfl, wpAny_pure (h h' D' sb)⟩)
theorem meets_n (d : Addr) (kv dflt : Value) : MeetsIn prog w (Builtin.«dict.get» ⟨[.ref d, kv, dflt], []⟩) (fun A R s => A.in1.units + 8 < cLine ∧ ∃ k xs, KAt s.heap k kv ∧ DN w s.heap d xs ∧ KsAt s.heap xs ∧ R (.ok (.ret ((lkN xs k).getD dflt))) { s with toks := s.toks + k.draws }) :=
  .of_wp fun A R s ⟨hu, k, xs, hk, D, ks, h⟩ => by
    show wpAny _ _ (dictGet d kv >>= _) _ _ s
    refine wpAny_bind (get_n hu hk D ks ?_)
    cases hf : lkN xs k with
    | some v => rw [hf] at h; exact wpAny_pure ⟨v, rfl, h⟩
    | none =>
      rw [hf] at h
      show wpAny _ _ (Builtin.Dict.missed d kv >>= _) _ _ _
      exact wpAny_bind (wpAny_missed_other D.sys (wpAny_pure ⟨dflt, rfl, h⟩))
end
end RH
set_option exponentiation.threshold 256
set_option Elab.async false
set_option linter.all false
set_option maxRecDepth 100000
set_option maxHeartbeats 4000000
namespace RH
open PySem PySem.Spec PyProof.Rows L2
def DNO (w : World) (a : Addr) (xs : List NX) : HO := .ext fun h => DN w h a xs
theorem DN.at' {w : World} {h h' : Heap} {a : Addr} {xs : List NX} (D : DN w h a xs) (k : ∀ o, h.get? a = some o → h'.get? a = some o) : DN w h' a xs := by
  obtain ⟨o, es, ep, ho, r⟩ := D.ob
  exact ⟨D.sys, D.len, D.nd, o, es, ep, k o ho, r⟩
theorem dno_new {P : Program} {w : World} {H : Hp} {h : Heap} {a : Addr} {xs : List NX} (D : DN w h a xs) : ObjOk P w H h a (DNO w a xs) := by
  obtain ⟨o, es, ep, ho, _⟩ := D.ob
  exact ⟨D, ⟨o, ho⟩, fun h1 h2 p k => p.at' k⟩
def tagK : Option Str → NestedKey
  | none => .none
  | some x => .text x
def nk : Option Ent → NestedKey
  | none => .none
  | some e => .tup [.text e.k, tagK e.t]
theorem nk_inj {a b : Option Ent} (h : nk a = nk b) : a = b := by
  cases a with
  | none => cases b with
    | none => rfl
    | some e => cases h
  | some e => cases b with
    | none => cases h
    | some f =>
      obtain ⟨k1, t1⟩ := e
      obtain ⟨k2, t2⟩ := f
      injection h with h
      injection h with h1 h2
      injection h1 with h1
      injection h2 with h2 _
      have : t1 = t2 := by
        cases t1 <;> cases t2 <;> first | rfl | (cases h2; done) | (injection h2 with h2; rw [h2])
      rw [show k1 = k2 from h1, this]
theorem nk_depth (a : Option Ent) : (nk a).depth ≤ 8 := by
  cases a with
  | none => exact Nat.zero_le _
  | some e =>
    obtain ⟨k, t⟩ := e
    cases t <;> (show NestedKey.depth (.tup _) ≤ 8; simp [NestedKey.depth, NestedKey.depthAll, tagK])
def KeyV (H : Hp) : Option Ent → V → Prop
  | none, v => v = .non
  | some e, v => EntV H e v
theorem KeyV.mono {H H' : Hp} (s : Same H H') : ∀ {k : Option Ent} {v : V}, KeyV H k v → KeyV H' k v
  | none, _, h => h
  | some _, _, h => EntV.mono s h
section
variable {X : Cx} {pins : List (Addr × Obj)} {σ : L2.St} {H : Hp} {s : Shared}
theorem key_at (I : Inv X pins σ H s) {k : Option Ent} {y : V} {u : Value} (hk : KeyV H k y) (r : RelV y u) : KAt s.heap (nk k) u := by
  cases k with
  | none =>
    cases (show y = .non from hk)
    cases (show u = Value.none from r)
    exact ⟨.none, nk_depth _, .inl rfl⟩
  | some e =>
    obtain ⟨_, b, rfl, hb⟩ := hk
    cases (show u = Value.ref b from r)
    obtain ⟨_, its, rs, o, h1, h2, n, h3⟩ := (show ObjOk X.prog X.w H s.heap b (.tup [.str e.k, tagV e.t]) from I.hok b _ hb)
    refine ⟨.tup h1 h2 h3 ?_, nk_depth _, .inr ⟨b, rfl⟩⟩
    obtain ⟨k, t⟩ := e
    cases rs with
    | cons r1 rs =>
      cases rs with
      | cons r2 rs =>
        cases rs
        obtain ⟨t1, rfl⟩ := r1
        refine .cons (.text _ _) (.cons ?_ .nil)
        cases t with
        | none => cases (show _ = Value.none from r2); exact .none
        | some x =>
          obtain ⟨t2, rfl⟩ := r2
          exact .text _ _
end
abbrev MX := Option Ent × Int
def RowsN (H : Hp) : List MX → List NX → Prop
  | [], [] => True
  | m :: ms, x :: xs => (x.1 = nk m.1 ∧ (∃ y, KeyV H m.1 y ∧ RelV y x.2.1) ∧ RelV (.int m.2) x.2.2) ∧ RowsN H ms xs
  | _, _ => False
theorem RowsN.mono {H H' : Hp} (s : Same H H') : ∀ {ms : List MX} {xs : List NX}, RowsN H ms xs → RowsN H' ms xs
  | [], [], _ => trivial
  | _ :: _, _ :: _, ⟨⟨a, ⟨y, b, c⟩, d⟩, h⟩ => ⟨⟨a, ⟨y, b.mono s, c⟩, d⟩, RowsN.mono s h⟩
  | [], _ :: _, h => h.elim
  | _ :: _, [], h => h.elim
def NDict (w : World) (H : Hp) (a : Addr) (ms : List MX) : Prop := ∃ xs, H a = some (DNO w a xs) ∧ RowsN H ms xs
theorem NDict.mono {w : World} {H H' : Hp} {a : Addr} {ms : List MX} (s : Same H H') (h : NDict w H a ms) : NDict w H' a ms := by
  obtain ⟨xs, h1, h2⟩ := h
  exact ⟨xs, s _ _ h1, h2.mono s⟩
def mget (ms : List MX) (k : Option Ent) : Option Int := (ms.find? fun m => decide (m.1 = k)).map (·.2)
def mch (k : Option Ent) (i : Int) (m : MX) : MX := if m.1 = k then (m.1, i) else m
def mput (ms : List MX) (k : Option Ent) (i : Int) : List MX := if (mget ms k).isSome = true then ms.map (mch k i) else ms ++ [(k, i)]
theorem RowsN.len {H : Hp} : ∀ {ms : List MX} {xs : List NX}, RowsN H ms xs → xs.length = ms.length
  | [], [], _ => rfl
  | _ :: _, _ :: _, h => by rw [List.length_cons, List.length_cons, RowsN.len h.2]
  | [], _ :: _, h => h.elim
  | _ :: _, [], h => h.elim
theorem RowsN.get {H : Hp} (k : Option Ent) : ∀ {ms : List MX} {xs : List NX}, RowsN H ms xs → RelO ((mget ms k).map V.int) (lkN xs (nk k))
  | [], [], _ => trivial
  | m :: ms, x :: xs, ⟨⟨a, _, d⟩, h⟩ => by
    have ih := RowsN.get k h
    unfold mget lkN at ih ⊢
    rw [List.find?_cons, List.find?_cons]
    by_cases e : m.1 = k
    · rw [decide_eq_true e, decide_eq_true (show x.1 = nk k by rw [a, e])]
      exact d
    · rw [decide_eq_false e, decide_eq_false (show ¬ x.1 = nk k by rw [a]; exact fun z => e (nk_inj z))]
      exact ih
  | [], _ :: _, h => h.elim
  | _ :: _, [], h => h.elim
theorem RowsN.app {H : Hp} {k : Option Ent} {y : V} {kv v : Value} {i : Int} (hk : KeyV H k y) (ry : RelV y kv) (rv : RelV (.int i) v) : ∀ {ms : List MX} {xs : List NX}, RowsN H ms xs → RowsN H (ms ++ [(k, i)]) (xs ++ [(nk k, kv, v)])
  | [], [], _ => ⟨⟨rfl, ⟨y, hk, ry⟩, rv⟩, trivial⟩
  | _ :: _, _ :: _, h => ⟨h.1, RowsN.app hk ry rv h.2⟩
  | [], _ :: _, h => h.elim
  | _ :: _, [], h => h.elim
theorem RowsN.ch {H : Hp} {k : Option Ent} {v : Value} {i : Int} (rv : RelV (.int i) v) : ∀ {ms : List MX} {xs : List NX}, RowsN H ms xs → RowsN H (ms.map (mch k i)) (xs.map (chN (nk k) v))
  | [], [], _ => trivial
  | m :: ms, x :: xs, ⟨⟨a, b, d⟩, h⟩ => by
    rw [List.map_cons, List.map_cons]
    refine ⟨?_, RowsN.ch rv h⟩
    unfold mch chN
    by_cases e : m.1 = k
    · rw [if_pos e, if_pos (show x.1 = nk k by rw [a, e])]
      exact ⟨a, b, rv⟩
    · rw [if_neg e, if_neg (show ¬ x.1 = nk k by rw [a]; exact fun z => e (nk_inj z))]
      exact ⟨a, b, d⟩
  | [], _ :: _, h => h.elim
  | _ :: _, [], h => h.elim
theorem RowsN.put {H : Hp} {k : Option Ent} {y : V} {kv v : Value} {i : Int} {ms : List MX} {xs : List NX} (h : RowsN H ms xs) (hk : KeyV H k y) (ry : RelV y kv) (rv : RelV (.int i) v) : RowsN H (mput ms k i) (ptN xs (nk k) kv v) := by
  have g := h.get k
  unfold mput ptN
  cases e : mget ms k with
  | none =>
    cases e2 : lkN xs (nk k) with
    | none => exact h.app hk ry rv
    | some u => rw [e, e2] at g; exact g.elim
  | some j =>
    cases e2 : lkN xs (nk k) with
    | none => rw [e, e2] at g; exact g.elim
    | some u => exact h.ch rv
section
variable {X : Cx} {pins : List (Addr × Obj)} {σ : L2.St} {H : Hp} {s : Shared}
theorem rows_at (I : Inv X pins σ H s) : ∀ {ms : List MX} {xs : List NX}, RowsN H ms xs → KsAt s.heap xs
  | [], [], _ => fun _ z => absurd z List.not_mem_nil
  | m :: ms, x :: xs, ⟨⟨a, ⟨y, b, c⟩, d⟩, h⟩ => fun z hz => by
    rcases List.mem_cons.mp hz with rfl | hz
    · have := key_at I b c
      rw [a]
      exact ⟨this.is, this.dp⟩
    · exact rows_at I h z hz
  | [], _ :: _, h => h.elim
  | _ :: _, [], h => h.elim
theorem dn_at (I : Inv X pins σ H s) {a : Addr} {xs : List NX} (h : H a = some (DNO X.w a xs)) : DN X.w s.heap a xs := (I.hok a _ h).1
/-- a store: what it leaves -/
theorem store_n {a : Addr} {ms : List MX} {xs : List NX} {k : Option Ent} {y : V} {u r : Value} {i : Int} {h' : Heap} {t' : Nat} (I : Inv X pins σ H s) (ha : H a = some (DNO X.w a xs)) (hr : RowsN H ms xs) (hk : KeyV H k y) (ry : RelV y u) (rv : RelV (.int i) r)
    (D : DN X.w h' a (ptN xs (nk k) u r)) (sb : Heap.SameBut a s.heap h') : ∃ o', NDict X.w (upd H a o') a (mput ms k i) ∧ Inv X pins σ (upd H a o') { s with heap := h', toks := t' } := by
  obtain ⟨o, es, ep, ho, _⟩ := D.ob
  have kp : ∀ (k : Option Ent) (y : V), KeyV H k y → KeyV (upd H a (DNO X.w a (ptN xs (nk k) u r))) k y := fun k y hk => by
    cases k with
    | none => exact hk
    | some e =>
      obtain ⟨h1, b, h2, h3⟩ := hk
      exact ⟨h1, b, h2, by rw [upd_ne (ne_of h3 ha (fun z => by cases z))]; exact h3⟩
  have rk : ∀ (o' : HO) {ms : List MX} {xs' : List NX}, RowsN H ms xs' → RowsN (upd H a o') ms xs' := fun o' => by
    intro ms
    induction ms with
    | nil => intro xs' h; cases xs' with
      | nil => trivial
      | cons x xs => exact h.elim
    | cons m ms ih => intro xs' h; cases xs' with
      | nil => exact h.elim
      | cons x xs =>
        obtain ⟨⟨e1, ⟨y, e2, e3⟩, e4⟩, h⟩ := h
        refine ⟨⟨e1, ⟨y, ?_, e3⟩, e4⟩, ih h⟩
        cases hm : m.1 with
        | none => rw [hm] at e2; exact e2
        | some e =>
          rw [hm] at e2
          obtain ⟨h1, b, h2, h3⟩ := e2
          exact ⟨h1, b, h2, by rw [upd_ne (ne_of h3 ha (fun z => by cases z))]; exact h3⟩
  refine ⟨DNO X.w a (ptN xs (nk k) u r), ⟨_, upd_same, rk _ (hr.put hk ry rv)⟩, ?_⟩
  exact I.write (e := a) (by rw [ha]; trivial) (.inl rfl) (fun b q hb z => (sb.2 b hb).trans z) ⟨o, ho⟩ (dno_new D)
def rSetN (w : World) : TSet := fun o i v H Q => ∃ a ms k n, o = .ref a ∧ v = .int n ∧ KeyV H k i ∧ NDict w H a ms ∧ ms.length < 1000 ∧ ∀ o', NDict w (upd H a o') a (mput ms k n) → Q (upd H a o')
theorem set_dictN (hu : X.A.units + 9 < cLine) : PSet X (rSetN X.w) := by
  intro pins s σ H o i v ov iv u Q I ro ri rv h
  obtain ⟨a, ms, k, n, rfl, rfl, hk, ⟨xs, ha, hr⟩, hl, q⟩ := h
  cases (show ov = Value.ref a from ro)
  refine setItem_n hu (key_at I hk ri) (dn_at I ha) (rows_at I hr) (by rw [hr.len]; exact hl) fun h' D sb => ?_
  obtain ⟨o', N, J⟩ := store_n (t' := s.toks + (nk k).draws) I ha hr hk ri rv D sb
  exact ⟨_, J, q o' N⟩
def tNGet (w : World) (td ty tx : TE) : TE := fun σ H Q => td σ H fun x H1 => ∃ a ms, x = .ref a ∧ NDict w H1 a ms ∧ ty σ H1 fun y H2 => tx σ H2 fun z H3 => ∃ ms k, NDict w H3 a ms ∧ KeyV H3 k y ∧ Q (((mget ms k).map V.int).getD z) H3
variable {o e f : Expr} {apos cpos : Pos} {td ty tx : TE}
theorem pe_nget (hu : X.A.units + 9 < cLine) (ho : PE X o td) (he : PE X e ty) (hf : PE X f tx) (m : M2 X o "get" apos e f cpos) : PE X (.Call (.Attribute o "get" apos) [e, f] [] cpos) (tNGet X.w td ty tx) := by
  refine ⟨fun pins s σ H Q I h => ?_⟩
  refine wpAny_Call_method m.base m.few m.line PySem.F.plainAttrs_dict PySem.F.slot_dict_get PySem.F.type_dict_get (thn (ho.run pins s σ H _ I h) fun u s1 hx => ?_)
  obtain ⟨x, H1, I1, rx, a, ms1, rfl, ⟨xs1, ha1, _⟩, q1⟩ := hx
  obtain rfl : u = Value.ref a := rx
  have D1 := dn_at I1 ha1
  obtain ⟨ob, es, ep, hob, hex, _⟩ := D1.ob
  refine ⟨D1.typ, fun b q => (by cases q; exact ⟨ob, hob, hex.2.1⟩), ?_⟩
  rw [m.trees]
  refine Calls.callWith_builtin rfl (Calls.evalArgs_plain (Calls.spliced_cons (thn (he.run pins s1 σ H1 _ I1 q1) fun iv s2 hy => ?_)))
  obtain ⟨y, H2, I2, ry, q2⟩ := hy
  refine Calls.spliced_cons (thn (hf.run pins s2 σ H2 _ I2 q2) fun fv s3 hz => Calls.spliced_nil ?_)
  obtain ⟨z, H3, I3, rz, ms, k, ⟨xs, ha, hr⟩, hk, q3⟩ := hz
  have D := dn_at I3 ha
  refine call_meetsIn PySem.F.slot_dict_get D.typ PySem.F.entry_dict_get (PySem.F.args_dict_get_3 _ _ _) (meets_n a iv fv) ⟨by simp only [Around.in1_units]; omega, nk k, xs, key_at I3 hk ry, D, rows_at I3 hr, ?_⟩
  refine ⟨_, H3, I3.tok _, ?_, q3⟩
  have g := hr.get k
  cases e1 : (mget ms k) with
  | none =>
    rw [e1] at g
    cases e2 : lkN xs (nk k) with
    | none => exact rz
    | some u => rw [e2] at g; exact g.elim
  | some j =>
    rw [e1] at g
    cases e2 : lkN xs (nk k) with
    | none => rw [e2] at g; exact g.elim
    | some u => rw [e2] at g; exact g
end
end RH
set_option exponentiation.threshold 256
set_option Elab.async false
set_option linter.all false
set_option maxRecDepth 100000
set_option maxHeartbeats 4000000
namespace RH
open PySem PySem.Spec PyProof.Rows L2
section
variable {X : Cx}
/-- {k: n for target in iter}, keys entries, values ints; D the new dict -/
def tDcN (w : World) (wi : TI) (g : TG) (tt : TT) (tk tv : TE) (vs : List Nat) : TE := fun σ H Q => wi σ H fun J H1 => ∀ D, H1 D = none → ∃ W : Nat → Nat → Hp → Prop, (∃ m, ∀ o', NDict w (upd H1 D o') D [] → W 0 m (upd H1 D o')) ∧
  ∀ i m H, W i m H → (J.stop i H ∧ Q (.ref D) H) ∨ (J.go i H ∧ ∃ Nx : Hp → Prop, (∀ H', Nx H' → ∃ m', m' < m ∧ W (i + 1) m' H') ∧ ∀ x H', J.yld i H x H' → g x (wipe σ vs) H' fun σ2 H2 => wipe σ2 vs = wipe σ vs ∧ tt σ2 H2 fun b H3 =>
    if b = true then tk σ2 H3 fun y H4 => tv σ2 H4 fun z H5 => ∃ ms k n, z = .int n ∧ KeyV H5 k y ∧ NDict w H5 D ms ∧ ms.length < 1000 ∧ ∀ o', NDict w (upd H5 D o') D (mput ms k n) → Nx (upd H5 D o') else Nx H3)
theorem dn_empty {w : World} (h : Heap) (hb : (h.objs.size == sysModules) = false) : DN w (h.push { cls := .type "dict", data := .dict #[] }) h.objs.size [] :=
  ⟨hb, Nat.zero_le _, List.nodup_nil, _, #[], 0, Heap.get?_push_size _ rfl, ⟨rfl, rfl, rfl⟩, rfl, rfl⟩
theorem dcn_core {pins : List (Addr × Obj)} {s : Shared} {σ : L2.St} {H : Hp} {Q : VK} {kx vx tg iter : Expr} {ifs : List Expr} {scope : Scope} {own : List (Str × Nat)} {pos pos' : Pos} {wi : TI} {g : TG} {tt : TT} {tk tv : TE} {use : Option (Value → Sem Unit)} {Qf : Value → Shared → Prop}
    (hu : X.A.units + 9 < cLine) (hc : X.calm = true) (hN : X.N.Nodup) (I : Inv X pins σ H s) (hi : PI X tg iter wi) (ok : BlkOk X.N X.env.scope scope own)
    (hg : ∀ s H C cl fp, PG (X.blk s H scope (compEnvC scope cl C X.env) fp) tg g) (ht : ∀ s H C cl fp, PTs (X.blk s H scope (compEnvC scope cl C X.env) fp) ifs tt)
    (hk : ∀ s H C cl fp, PE (X.blk s H scope (compEnvC scope cl C X.env) fp) kx tk) (he : ∀ s H C cl fp, PE (X.blk s H scope (compEnvC scope cl C X.env) fp) vx tv) (hs : ∀ x, foldedSetIterable iter X.env x = pure x)
    (h : tDcN X.w wi g tt tk tv (own.map (·.2)) σ H Q)
    (fin : ∀ D C s' m H', Inv X pins σ H' s' → Q (.ref D) H' → s'.heap.Ns C m → FpOk X pins H' C → compPost (model X.prog X.w) X.A X.xe use Qf (.ref D) C (.ok .next) s') :
    wpAny (model X.prog X.w) X.A (comprehension (.DictComp kx vx [⟨tg, iter, ifs, 0⟩] scope pos) scope X.env pos' newDict false (eval iter X.env) use) Qf X.xe s := by
  have free : ∀ y ∈ scope.names, y.2 = .free → ∃ c, X.env.cells.lookup y.1 = some c := fun y hy e => (ok.free y hy e).elim (fun k => I.ok.has _ (.inl k)) fun k => I.ok.has _ (.inr k)
  refine wpAny_comprehension_free (use := use) rfl hs (closure_ok free) ok.kind (fun y hy e => by rw [ok.uniq y hy, e]) (thn (hi.run pins s σ H _ I h) fun xv s1 hx => thn hx fun itv s2 h2 => ?_)
  obtain ⟨it, fp, tn, J, H2, rfl, I2, T, st2, f2, q⟩ := h2
  refine wpAny_newObj_type (newEnv_comp ?_)
  obtain ⟨D, hD⟩ : ∃ D, s2.heap.objs.size = D := ⟨_, rfl⟩
  rw [hD]
  have nD : H2 D = none := I2.hok.fresh (Nat.le_of_eq hD)
  obtain ⟨W, ⟨m0, w0⟩, turn⟩ := q D nD
  obtain ⟨s3, hs3⟩ : ∃ s3 : Shared, s3 = { s2 with heap := s2.heap.push { cls := .type "dict", data := .dict #[] } } := ⟨_, rfl⟩
  obtain ⟨H3, hH3⟩ : ∃ H3, H3 = upd H2 D (DNO X.w D []) := ⟨_, rfl⟩
  have he3 : s3.heap = s2.heap.push { cls := .type "dict", data := .dict #[] } := by rw [hs3]
  have up : ∀ b o, s2.heap.get? b = some o → s3.heap.get? b = some o := fun b o e => by rw [he3]; exact Heap.get?_push_of_some _ e
  have hbig : (s2.heap.objs.size == sysModules) = false := (dk_empty (P := X.prog) (w := X.w) (H := H2) s2.heap I2.big).2.1
  have I3 : Inv X pins σ H3 s3 := by
    rw [hH3, hs3]
    refine I2.laid (t' := s2.toks) (fun b o e => Heap.get?_push_of_some _ e) (Nat.le_of_eq hD) (dno_new ?_)
    rw [← hD]
    exact dn_empty s2.heap hbig
  have w3 : W 0 m0 H3 := by rw [hH3]; exact w0 _ ⟨[], upd_same, trivial⟩
  have f3 : ∀ b ∈ fp, FpOk X pins H3 b ∧ b < s3.heap.objs.size := fun b hb => by
    obtain ⟨o, e, _⟩ := T.obj _ _ st2 b hb
    have hlt := Heap.lt_size e
    refine ⟨⟨?_, (f2 b hb).2⟩, by rw [he3, Heap.size_push]; exact Nat.lt_succ_of_lt hlt⟩
    rw [hH3, upd_ne (by rw [← hD]; exact Nat.ne_of_lt hlt)]
    exact (f2 b hb).1
  have st3 : tn 0 s3.heap := T.keep _ _ _ st2 fun b _ o e => up b o e
  have I4 := block_start I3 ok hN f3
  obtain ⟨cl, hcl⟩ : ∃ cl, cl = cellsFrom (s3.heap.objs.size + 1) scope.names (cloFrom X.env.cells scope.names []) := ⟨_, rfl⟩
  have pg := hg s3 H3 s3.heap.objs.size cl fp
  have pt := ht s3 H3 s3.heap.objs.size cl fp
  have pk := hk s3 H3 s3.heap.objs.size cl fp
  have pe := he s3 H3 s3.heap.objs.size cl fp
  have none3 : ∀ b ∈ fp, H3 b = none := fun b hb => (f3 b hb).1.1
  rw [← hcl] at I4
  obtain ⟨ce, hce⟩ : ∃ ce, ce = compEnvC scope cl s3.heap.objs.size X.env := ⟨_, rfl⟩
  rw [← hce] at I4 pg pt pk pe
  obtain ⟨s4, hs4⟩ : ∃ s4 : Shared, s4 = { s3 with heap := pushCells (s3.heap.push { cls := .type "dict", data := .dict #[] }) scope.names } := ⟨_, rfl⟩
  rw [← hs4] at I4
  have goal : codeAny (model X.prog X.w) X.A (.compStart (.DictComp kx vx [⟨tg, iter, ifs, 0⟩] scope pos) 0 (.ref it) (.ref D) ce) (compPost (model X.prog X.w) X.A X.xe use Qf (.ref D) s3.heap.objs.size) s4 := by
    have cL : ce.locals = s3.heap.objs.size := by rw [hce]; rfl
    have st4 : tn 0 s4.heap := T.keep _ _ _ st3 fun b _ o e => by rw [hs4]; exact pushCells_keeps _ _ _ _ (Heap.get?_push_of_some _ e)
    have stat : ∀ {σ' : L2.St} {H' : Hp} {s' : Shared}, Inv (X.blk s3 H3 scope ce fp) [] σ' H' s' → (∀ b ∈ fp, H' b = none) → ∀ b ∈ fp, FpOk (X.blk s3 H3 scope ce fp) [] H' b := fun I' hn b hb =>
      ⟨hn b hb, (I'.ok.exf b hb).1, I'.ok.exfs b hb, .inl hb, fun x c e => (I'.ok.exf b hb).2 x c e, fun p hp => absurd (show p ∈ ([] : List (Addr × Obj)) ++ [] from hp) (by simp)⟩
    have loop : codeAny (model X.prog X.w) X.A (.compLoop (.DictComp kx vx [⟨tg, iter, ifs, 0⟩] scope pos) 0 (.ref it) (.ref D) ce) (compPost (model X.prog X.w) X.A X.xe use Qf (.ref D) s3.heap.objs.size) s4 := by
      refine compLoop_anyD (fun n s' => ∃ i H', Inv (X.blk s3 H3 scope ce fp) [] (wipe σ (own.map (·.2))) H' s' ∧ tn i s'.heap ∧ (∀ b ∈ fp, H' b = none) ∧ W i n H') (fun n s5 hn5 => ?_) m0 ⟨0, H3, I4, st4, none3, w3⟩
      obtain ⟨i, H5, I5, st5, n5, w5⟩ := hn5
      rcases turn i n H5 w5 with ⟨stop, qq⟩ | ⟨go, Nx, hNx, step⟩
      · have td := T.done (X.blk s3 H3 scope ce fp) rfl rfl rfl hc i [] s5 _ H5 (fun _ _ => False) I5 (stat I5 n5) st5 stop
        refine thnF td fun r s6 hr => ?_
        obtain ⟨rfl, I6⟩ := hr
        have I7 : Inv X pins σ H5 s6 := I3.call' (ch := fp) I6.os I6.base I6.hok I6.bare fun b hb => ⟨(f3 b hb).1.2.2.2.1, (f3 b hb).1.2.1, (f3 b hb).1.2.2.2.2.1, (f3 b hb).1.2.2.2.2.2⟩
        have nC : H5 s3.heap.objs.size = none := cL ▸ (show H5 ce.locals = none from I6.free)
        obtain ⟨m, hn, _⟩ := I6.loc
        exact fin D s3.heap.objs.size s6 m H5 I7 qq (cL ▸ (show s6.heap.Ns ce.locals m from hn)) (I3.fpOk (Nat.le_refl _) nC)
      · have ti := T.item (X.blk s3 H3 scope ce fp) rfl rfl rfl hc i [] s5 _ H5 (fun _ _ => False) I5 (stat I5 n5) st5 go
        refine thnF ti fun r s6 hr => ?_
        obtain ⟨u, rfl, h6⟩ := hr
        refine thnF h6 fun _ s7 h7 => ?_
        obtain ⟨x, H7, I7, r7, y7, st7, n7⟩ := h7
        refine thnF (pg.run _ s7 _ H7 x u _ (I7.pinned (stat I7 n7) (T.obj _ _ st7)) r7 (step x H7 y7)) fun _ s8 h8 => ?_
        obtain ⟨σ8, H8, I8, hw8, q8⟩ := h8
        refine thnF (pt.run _ s8 σ8 H8 _ I8 q8) fun b s9 h9 => ?_
        obtain ⟨H9, I9, q9⟩ := h9
        have next : ∀ {s' : Shared} {H' : Hp}, Inv (X.blk s3 H3 scope ce fp) ([] ++ pinsAt fp s7.heap) σ8 H' s' → Nx H' → ∃ m, m < n ∧ ∃ i H', Inv (X.blk s3 H3 scope ce fp) [] (wipe σ (own.map (·.2))) H' s' ∧ tn i s'.heap ∧ (∀ b ∈ fp, H' b = none) ∧ W i m H' := fun {s' H'} I' nx => by
          obtain ⟨m', hm, w'⟩ := hNx H' nx
          have pin : ∀ b ∈ fp, ∀ o, s7.heap.get? b = some o → s'.heap.get? b = some o ∧ H' b = none := fun b hb o e => by
            have z := I'.pin (b, o) (List.mem_append_right _ (List.mem_append_right _ (mem_pinsAt hb e)))
            exact ⟨z.1, z.2.1⟩
          refine ⟨m', hm, i + 1, H', (I'.unpinned (pins := [])).weak (by rw [← hw8, wipe_length]) (fun j v e => ?_), T.keep _ _ _ st7 fun b hb o e => (pin b hb o e).1, fun b hb => ?_, w'⟩
          · rw [← hw8] at e
            exact (wipe_some e).1
          · obtain ⟨o, e, _⟩ := T.obj _ _ st7 b hb
            exact (pin b hb o e).2
        cases b with
        | false => exact next I9 (by simpa using q9)
        | true =>
          rw [if_pos rfl] at q9
          rw [if_pos rfl]
          refine thnF (pk.run _ s9 σ8 H9 _ I9 q9) fun z s10 h10 => ?_
          obtain ⟨yk, H10, I10, r10, q10⟩ := h10
          refine thnF (pe.run _ s10 σ8 H10 _ I10 q10) fun z2 s11 h11 => ?_
          obtain ⟨yv, H11, I11, r11, ms, k, n', rfl, hkv, ⟨xs, hxs, hrows⟩, hlen, nx⟩ := h11
          refine set_n (by omega) (key_at I11 hkv r10) (dn_at I11 hxs) (rows_at I11 hrows) (by rw [hrows.len]; exact hlen) fun h' Dn sb => ?_
          obtain ⟨o', Nd, Jn⟩ := store_n (t' := s11.toks + (nk k).draws) I11 hxs hrows hkv r10 r11 Dn sb
          exact next Jn (nx o' Nd)
    exact codeAny_compStart_dict loop (T.self X.A 0 _ _ _ st4 loop)
  rw [hce, hcl, hs4, hs3] at goal
  exact goal
/-- as a value -/
theorem pe_dcn {kx vx tg iter : Expr} {ifs : List Expr} {scope : Scope} {own : List (Str × Nat)} {pos : Pos} {wi : TI} {g : TG} {tt : TT} {tk tv : TE} (hu : X.A.units + 9 < cLine) (hc : X.calm = true) (hN : X.N.Nodup) (hi : PI X tg iter wi) (ok : BlkOk X.N X.env.scope scope own)
    (hg : ∀ s H C cl fp, PG (X.blk s H scope (compEnvC scope cl C X.env) fp) tg g) (ht : ∀ s H C cl fp, PTs (X.blk s H scope (compEnvC scope cl C X.env) fp) ifs tt)
    (hk : ∀ s H C cl fp, PE (X.blk s H scope (compEnvC scope cl C X.env) fp) kx tk) (he : ∀ s H C cl fp, PE (X.blk s H scope (compEnvC scope cl C X.env) fp) vx tv) (hs : ∀ x, foldedSetIterable iter X.env x = pure x := by intro _; rfl) :
    PE X (.DictComp kx vx [⟨tg, iter, ifs, 0⟩] scope pos) (tDcN X.w wi g tt tk tv (own.map (·.2))) := by
  refine ⟨fun pins s σ H Q I h => ?_⟩
  rw [arm_eval_DictComp]
  refine dcn_core hu hc hN I hi ok hg ht hk he hs h fun D C s' m H' I' q hn f => ⟨m, hn, fun h'' sb => ?_⟩
  exact ⟨.ref D, H', I'.turned (t' := s'.toks) (fun b o hb e => (sb.2 b hb).trans e) f.1 f.2.1 f.2.2.2.1 f.2.2.2.2.1 f.2.2.2.2.2, rfl, q⟩
end
end RH
set_option exponentiation.threshold 256
set_option Elab.async false
set_option linter.all false
set_option maxRecDepth 100000
set_option maxHeartbeats 4000000
namespace RH
open PySem PySem.Spec PyProof.Rows L2
section
variable {X : Cx}
theorem sw_dict {kx vx : Expr} {gs : List Comprehension} {scope : Scope} {pos py : Pos} {y : Str} {l : Nat} {env : Env} (hk : env.scope.kind = .function) (hy : env.scope.names.lookup y = some .local) (hl : (py.line == pos.line) = true)
    (ha : (scope.names.any fun (n, k) => n == y && (k == .local || k == .cell)) = false) : swapsWith (.DictComp kx vx gs scope pos) (some (.Name y py)) l env = pure true := by
  have ky : env.kindOf y = some .local := hy
  have hb : env.blockKind = .function := by unfold Env.blockKind; rw [hk]; rfl
  unfold swapsWith
  simp only [hb, ky, ha, Expr.pos, hl]
  rfl
theorem ps_setDcn {i : Nat} {y : Str} {py : Pos} {kx vx tg iter : Expr} {ifs : List Expr} {scope : Scope} {own : List (Str × Nat)} {pos spos : Pos} {wi : TI} {g : TG} {tt : TT} {tk tv : TE} (hu : X.A.units + 9 < cLine) (hc : X.calm = true) (hN : X.N.Nodup) (hy : X.N[i]? = some y) (hyl : X.env.scope.names.lookup y = some .local)
    (hsw : swapsWith (.DictComp kx vx [⟨tg, iter, ifs, 0⟩] scope pos) (some (.Name y py)) spos.line X.env = pure true) (hi : PI X tg iter wi) (ok : BlkOk X.N X.env.scope scope own)
    (hg : ∀ s H C cl fp, PG (X.blk s H scope (compEnvC scope cl C X.env) fp) tg g) (ht : ∀ s H C cl fp, PTs (X.blk s H scope (compEnvC scope cl C X.env) fp) ifs tt)
    (hk : ∀ s H C cl fp, PE (X.blk s H scope (compEnvC scope cl C X.env) fp) kx tk) (he : ∀ s H C cl fp, PE (X.blk s H scope (compEnvC scope cl C X.env) fp) vx tv) (hs : ∀ x, foldedSetIterable iter X.env x = pure x := by intro _; rfl) :
    PS X (.Assign [.Name y py] (.DictComp kx vx [⟨tg, iter, ifs, 0⟩] scope pos) spos) (tAsg (tDcN X.w wi g tt tk tv (own.map (·.2))) (gName i)) := by
  refine ⟨fun pins s σ H D I h => ?_⟩
  rw [exec_Assign_Name_used _ _ _ _ hsw]
  refine wpAny_bind (wpAny_standAt (wpAny_bind ?_))
  show wpAny _ X.A (do let _ ← comprehension (.DictComp kx vx [⟨tg, iter, ifs, 0⟩] scope pos) scope X.env (firstIterPos [⟨tg, iter, ifs, 0⟩] pos) newDict false (eval iter X.env) (some (assign (.Name y py) X.env))) _ _ s
  have h : tDcN X.w wi g tt tk tv (own.map (·.2)) σ H (fun x H1 => gName i x σ H1 D.nx) := h
  refine wpAny_bind (thn (dcn_core (Qf := fun _ s' => SP X pins D .next s') hu hc hN I hi ok hg ht hk he hs h fun L C s' m H' I' q hn f => ?_) fun _ s' hq => wpAny_pure (wpAny_pure hq))
  show wpAny _ _ (assign (.Name y py) X.env (.ref L)) _ _ _
  refine wpAny_assign_Name (store_ok2 (v := V.ref L) I' hN hy (.inl hyl) rfl (fun s2 I2 ⟨a, sb, ha⟩ => ?_) (.inr hyl))
  obtain ⟨f0, f1, f2, f3, f4, f5⟩ := f
  have haC : C ≠ a := by
    rcases ha with z | z
    · rw [z]; exact f1
    · exact fun e => f4 y a z e.symm
  refine ⟨m, hn.sameBut sb haC, fun h3 sb3 => ?_⟩
  exact ⟨_, H', I2.turned (t' := s2.toks) (fun b o hb e => (sb3.2 b hb).trans e) f0 f1 f3 f4 f5, q⟩
end
end RH
set_option exponentiation.threshold 256
set_option Elab.async false
set_option linter.all false
set_option maxRecDepth 100000
set_option maxHeartbeats 4000000
namespace RH
open PySem PySem.Spec PyProof.Rows L2
theorem units9 {k : Nat} {A : Around} (r : Room k A) : A.units + 9 < cLine := by have := r.un; omega
/-- the longest beginning of a row with which some entries end, of at most so many -/
def mtcN (row seen : List Ent) : Nat → Nat
  | 0 => 0
  | m + 1 => if row.take (m + 1) = seen.drop (seen.length - (m + 1)) then m + 1 else mtcN row seen m
def mtc (row seen : List Ent) : Nat := mtcN row seen (min row.length seen.length)
/-- the state behind one entry more -/
def nx (row : List Ent) (st : Nat) (e : Ent) : Nat := mtc row (row.take st ++ [e])
def mvE (row : List Ent) (st : Nat) (es : List Ent) : List MX := es.foldl (fun ms e => mput ms (some e) (nx row st e : Nat)) []
def mv (row : List Ent) (st : Nat) : List MX := mput (mvE row st row) none 0
def runS (row : List Ent) : Nat → List Ent → Nat
  | st, [] => st
  | st, e :: es => runS row (nx row st e) es
def visS (row : List Ent) : Nat → List Ent → Nat
  | _, [] => 0
  | st, e :: es => (if nx row st e = row.length then 1 else 0) + visS row (nx row st e) es
def stands (row w : List Ent) : List Nat := (List.range (w.length - row.length + 1)).filter fun k => decide ((w.drop k).take row.length = row)
def wkf (m c k : V) : List (Str × V) := [("moves", m), ("counted", c), ("known", k)]
structure MvsR (w : World) (H : Hp) (row : List Ent) (ds : List V) : Prop where
  len : ds.length = row.length + 1
  at_ : ∀ st, st ≤ row.length → ∃ a, ds[st]? = some (.ref a) ∧ NDict w H a (mv row st)
def WalkR (g : G) (w : World) (H : Hp) (v : V) (row : List Ent) : Prop := ∃ a dx kd l ds, v = .ref a ∧ H a = some (.ins g.walk dx (wkf (.ref l) (.int (row.length : Nat)) (.ref kd))) ∧ H l = some (.lst ds) ∧ MvsR w H row ds
theorem WalkR.mono {g : G} {w : World} {H H' : Hp} {v : V} {row : List Ent} (s : Same H H') (h : WalkR g w H v row) : WalkR g w H' v row := by
  obtain ⟨a, dx, kd, l, ds, h1, h2, h3, h4⟩ := h
  exact ⟨a, dx, kd, l, ds, h1, s _ _ h2, s _ _ h3, h4.len, fun st hs => by obtain ⟨b, e1, e2⟩ := h4.at_ st hs; exact ⟨b, e1, e2.mono s⟩⟩
def psf (s t : V) : List (Str × V) := [("states", s), ("sums", t)]
def PsR (g : G) (H : Hp) (v : V) (ss ts : List Int) : Prop := ∃ a dx l1 l2, v = .ref a ∧ H a = some (.ins g.pass dx (psf (.ref l1) (.ref l2))) ∧ H l1 = some (.lst (ss.map V.int)) ∧ H l2 = some (.lst (ts.map V.int)) ∧ l1 ≠ l2
def spWalkInit (g : G) : Sp := fun vs H Q _ => ∃ a dx m c, vs = [.ref a, m, c] ∧ H a = some (.ins g.walk dx []) ∧ ∀ kd H', (∀ b o, b ≠ a → H b = some o → H' b = some o) → H' a = some (.ins g.walk dx (wkf m c (.ref kd))) → Q .non H'
def spNextState (g : G) (w : World) : Sp := fun vs H Q _ => ∃ v st ev e row, vs = [v, .int (st : Nat), ev] ∧ WalkR g w H v row ∧ st ≤ row.length ∧ EntV H e ev ∧ Q (.int (nx row st e : Nat)) H
def spOnce (g : G) (w : World) : Sp := fun vs H Q _ => ∃ v st ev e row, vs = [v, .int (st : Nat), ev] ∧ WalkR g w H v row ∧ st ≤ row.length ∧ EntV H e ev ∧
  ∀ p, H p = none → Q (.ref p) (upd H p (.tup [.int (nx row st e : Nat), .int ((if nx row st e = row.length then 1 else 0 : Nat) : Int)]))
def spPassInit (g : G) : Sp := fun vs H Q _ => ∃ a dx x, vs = [.ref a, .int x] ∧ H a = some (.ins g.pass dx []) ∧ ∀ l1 l2 H', (∀ b o, b ≠ a → H b = some o → H' b = some o) → H' a = some (.ins g.pass dx (psf (.ref l1) (.ref l2))) → H' l1 = some (.lst [.int x]) → H' l2 = some (.lst [.int 0]) →
  H l1 = none → H l2 = none → l1 ≠ l2 → Q .non H'
def spNote (g : G) : Sp := fun vs H Q _ => ∃ a dx l1 l2 x y n, vs = [.ref a, .int y, .int n] ∧ H a = some (.ins g.pass dx (psf (.ref l1) (.ref l2))) ∧ H l1 = some (.lst [.int x]) ∧ H l2 = some (.lst [.int 0]) ∧ l1 ≠ l2 ∧
  Q .non (upd (upd H l1 (.lst [.int x, .int y])) l2 (.lst [.int 0, .int (0 + n)]))
def spDone (g : G) : Sp := fun vs H Q _ => ∃ v ss ts, vs = [v] ∧ PsR g H v ss ts ∧ Q (.int ((ss.length : Nat) - 1)) H
def spReturns (g : G) : Sp := fun vs H Q _ => ∃ v x ts, vs = [v] ∧ PsR g H v [x] ts ∧ ∀ H', Same H H' → Q (.bl false) H'
def spFolded (g : G) : Sp := fun vs H Q _ => ∃ v x y ts, vs = [v, .int 1] ∧ PsR g H v [x, y] ts ∧ ∀ p, H p = none → Q (.ref p) (upd H p (.tup [.int 0, .int 1]))
def spEnd (g : G) : Sp := fun vs H Q _ => ∃ v x y n, vs = [v, .int 1] ∧ PsR g H v [x, y] [0, n] ∧ 0 ≤ n ∧ n ≤ 1 ∧ ∀ H' p, Same H H' → H' p = some (.tup [.int y, .int n]) → Q (.ref p) H'
def spPassages (g : G) (w : World) : Sp := fun vs H Q _ => ∃ v st ev e row, vs = [v, .int (st : Nat), ev, .int 1] ∧ WalkR g w H v row ∧ st ≤ row.length ∧ EntV H e ev ∧
  ∀ H' p, Same H H' → PsR g H' p [(st : Nat), (nx row st e : Nat)] [0, ((if nx row st e = row.length then 1 else 0 : Nat) : Int)] → Q p H'
def spGoFrom (g : G) (w : World) : Sp := fun vs H Q _ => ∃ v st uv us m row, vs = [v, .int (st : Nat), uv, .int (m : Nat)] ∧ WalkR g w H v row ∧ st ≤ row.length ∧ (0 < m → UR g.part H us uv ∧ m ≤ (den us).length ∧ Sm us ∧ ∀ m, Rk 0 us m) ∧
  ∀ H' p, Same H H' → H' p = some (.tup [.int (runS row st ((den us).take m) : Nat), .int (visS row st ((den us).take m) : Nat)]) → Q (.ref p) H'
def spCheckRow : Sp := fun vs H Q _ => ∃ v row, vs = [v] ∧ LR H v row ∧ 1 ≤ row.length ∧ row.length ≤ 8 ∧ (∀ e ∈ row, EntOk e) ∧ ∀ H', Same H H' → Q .non H'
def spMatched : Sp := fun vs H Q _ => ∃ v1 v2 row seen, vs = [v1, v2] ∧ LR H v1 row ∧ LR H v2 seen ∧ row.length ≤ 8 ∧ ∀ H', Same H H' → Q (.int (mtc row seen : Nat)) H'
def spRowWalk (g : G) (w : World) : Sp := fun vs H Q _ => ∃ v row, vs = [v] ∧ LR H v row ∧ row.length ≤ 8 ∧ ∀ H' x, Same H H' → WalkR g w H' x row → Q x H'
def spCountRow (g : G) : Sp := fun vs H Q _ => ∃ wv rv n w row nn q, vs = [wv, rv, .int (n : Nat)] ∧ WR g H wv w 0 nn q ∧ LR H rv row ∧ 1 ≤ row.length ∧ row.length ≤ 8 ∧ (∀ e ∈ row, EntOk e) ∧ n ≤ w.length ∧ w.length < LIM ∧ ∀ H', Same H H' → Q (.int (visS row 0 (w.take n) : Nat)) H'
def spStands : Sp := fun vs H Q _ => ∃ v1 v2 row w, vs = [v1, v2] ∧ LR H v1 row ∧ LR H v2 w ∧ row.length ≤ w.length ∧ w.length ≤ 10000 ∧ ∀ H' l, Same H H' → H' l = some (.lst (natsV (stands row w))) → Q (.ref l) H'
def spOtherwise (g : G) : Sp := fun vs H Q _ => ∃ v1 v2 v3 w n q ds, vs = [v1, v2, v3] ∧ WR g H v1 w 3 n q ∧ n ≤ 3 ∧ q ≤ 27 ∧ LR H v2 w ∧ isRow w ∧ w.length ≤ 108 ∧ DR H v3 ds ∧ 2 ≤ ds.length ∧
  ∀ H' l xs, Same H H' → H' l = some (.lst xs) → (∀ x ∈ xs, ∃ n q, WR g H' x w 4 n q) → Q (.ref l) H'
def spPowersRight (g : G) : Sp := fun vs H Q _ => ∃ v1 v2 r ds, vs = [v1, v2] ∧ LR H v1 r ∧ isRow r ∧ r.length ≤ 4 ∧ DR H v2 ds ∧ 2 ≤ ds.length ∧ ∀ H', Same H H' → Q (.bl true) H'
def spLongRight (g : G) : Sp := fun vs H Q _ => ∃ v ds, vs = [v] ∧ DR H v ds ∧ ds.length = 13 ∧ ∀ H', Same H H' → Q (.bl true) H'
end RH
set_option exponentiation.threshold 256
set_option Elab.async false
set_option linter.all false
set_option maxRecDepth 100000
set_option maxHeartbeats 4000000
namespace RH
open PySem PySem.Spec PyProof.Rows L2
def top (i : Nat) : Stmt := PySem.Challenge.pw_roundheap_k33_whole_words_made_otherwise.main.body.getD i (.Pass ⟨0, 0, 0, 0⟩)
abbrev s_is_integer : Stmt := top 9
abbrev N_is_integer : List Str := ["thing"]
abbrev P_is_integer : List Str := ["thing"]
theorem sc_is_integer : FnScope N_is_integer P_is_integer (defScope s_is_integer) := ⟨rfl, rfl, rfl, by decide +kernel, rfl, by decide +kernel, by decide +kernel⟩
abbrev s_is_between : Stmt := top 10
abbrev N_is_between : List Str := ["thing", "least", "most"]
abbrev P_is_between : List Str := ["thing", "least", "most"]
theorem sc_is_between : FnScope N_is_between P_is_between (defScope s_is_between) := ⟨rfl, rfl, rfl, by decide +kernel, rfl, by decide +kernel, by decide +kernel⟩
abbrev s_is_name : Stmt := top 11
abbrev N_is_name : List Str := ["thing", "sign"]
abbrev P_is_name : List Str := ["thing"]
theorem sc_is_name : FnScope N_is_name P_is_name (defScope s_is_name) := ⟨rfl, rfl, rfl, by decide +kernel, rfl, by decide +kernel, by decide +kernel⟩
abbrev s_is_entry : Stmt := top 18
abbrev N_is_entry : List Str := ["thing"]
abbrev P_is_entry : List Str := ["thing"]
theorem sc_is_entry : FnScope N_is_entry P_is_entry (defScope s_is_entry) := ⟨rfl, rfl, rfl, by decide +kernel, rfl, by decide +kernel, by decide +kernel⟩
abbrev s_Part_init : Stmt := inClass (top 19) 0
abbrev N_Part_init : List Str := ["self", "row", "left", "right", "times", "turned_from"]
abbrev P_Part_init : List Str := ["self", "row", "left", "right", "times", "turned_from"]
theorem sc_Part_init : FnScope N_Part_init P_Part_init (defScope s_Part_init) := ⟨rfl, rfl, rfl, by decide +kernel, rfl, by decide +kernel, by decide +kernel⟩
abbrev s_joined : Stmt := top 20
abbrev N_joined : List Str := ["one", "other", "last", "longer"]
abbrev P_joined : List Str := ["one", "other"]
theorem sc_joined : FnScope N_joined P_joined (defScope s_joined) := ⟨rfl, rfl, rfl, by decide +kernel, rfl, by decide +kernel, by decide +kernel⟩
abbrev s_repeated : Stmt := top 21
abbrev N_repeated : List Str := ["part", "times"]
abbrev P_repeated : List Str := ["part", "times"]
theorem sc_repeated : FnScope N_repeated P_repeated (defScope s_repeated) := ⟨rfl, rfl, rfl, by decide +kernel, rfl, by decide +kernel, by decide +kernel⟩
abbrev s_width : Stmt := top 22
abbrev N_width : List Str := ["unit"]
abbrev P_width : List Str := ["unit"]
theorem sc_width : FnScope N_width P_width (defScope s_width) := ⟨rfl, rfl, rfl, by decide +kernel, rfl, by decide +kernel, by decide +kernel⟩
abbrev s_opened : Stmt := top 23
abbrev N_opened : List Str := ["part", "rest", "entry"]
abbrev P_opened : List Str := ["part", "rest"]
theorem sc_opened : FnScope N_opened P_opened (defScope s_opened) := ⟨rfl, rfl, rfl, by decide +kernel, rfl, by decide +kernel, by decide +kernel⟩
abbrev s_first_unit : Stmt := top 24
abbrev N_first_unit : List Str := ["units", "unit", "times", "rest"]
abbrev P_first_unit : List Str := ["units"]
theorem sc_first_unit : FnScope N_first_unit P_first_unit (defScope s_first_unit) := ⟨rfl, rfl, rfl, by decide +kernel, rfl, by decide +kernel, by decide +kernel⟩
abbrev s_behind : Stmt := top 25
abbrev N_behind : List Str := ["units", "many", "unit", "times", "rest", "whole"]
abbrev P_behind : List Str := ["units", "many"]
theorem sc_behind : FnScope N_behind P_behind (defScope s_behind) := ⟨rfl, rfl, rfl, by decide +kernel, rfl, by decide +kernel, by decide +kernel⟩
abbrev s_rotated : Stmt := top 26
abbrev N_rotated : List Str := ["part", "many", "base", "shift", "found"]
abbrev P_rotated : List Str := ["part", "many"]
theorem sc_rotated : FnScope N_rotated P_rotated (defScope s_rotated) := ⟨rfl, rfl, rfl, by decide +kernel, rfl, by decide +kernel, by decide +kernel⟩
abbrev s_gone_by : Stmt := top 27
abbrev N_gone_by : List Str := ["units", "many", "unit", "times", "rest", "last"]
abbrev P_gone_by : List Str := ["units", "many"]
theorem sc_gone_by : FnScope N_gone_by P_gone_by (defScope s_gone_by) := ⟨rfl, rfl, rfl, by decide +kernel, rfl, by decide +kernel, by decide +kernel⟩
abbrev s_alike_for : Stmt := top 28
abbrev N_alike_for : List Str := ["unit", "other", "many"]
abbrev P_alike_for : List Str := ["unit", "other"]
theorem sc_alike_for : FnScope N_alike_for P_alike_for (defScope s_alike_for) := ⟨rfl, rfl, rfl, by decide +kernel, rfl, by decide +kernel, by decide +kernel⟩
abbrev s_alike_ahead : Stmt := top 29
abbrev N_alike_ahead : List Str := ["one", "other", "most", "unit", "times", "rest", "thing", "turns", "more"]
abbrev P_alike_ahead : List Str := ["one", "other", "most"]
theorem sc_alike_ahead : FnScope N_alike_ahead P_alike_ahead (defScope s_alike_ahead) := ⟨rfl, rfl, rfl, by decide +kernel, rfl, by decide +kernel, by decide +kernel⟩
abbrev s_run_ahead : Stmt := top 30
abbrev N_run_ahead : List Str := ["units", "most", "found"]
abbrev P_run_ahead : List Str := ["units", "most"]
theorem sc_run_ahead : FnScope N_run_ahead P_run_ahead (defScope s_run_ahead) := ⟨rfl, rfl, rfl, by decide +kernel, rfl, by decide +kernel, by decide +kernel⟩
abbrev s_agreement : Stmt := top 31
abbrev N_agreement : List Str := ["one", "other", "most", "found", "unit", "times", "rest", "thing", "turns", "more", "many", "alike", "due", "row", "part"]
abbrev P_agreement : List Str := ["one", "other", "most"]
theorem sc_agreement : FnScope N_agreement P_agreement (defScope s_agreement) := ⟨rfl, rfl, rfl, by decide +kernel, rfl, by decide +kernel, by decide +kernel⟩
abbrev s_part_of : Stmt := top 32
abbrev N_part_of : List Str := ["units", "many", "found", "unit", "times", "rest", "whole", "some"]
abbrev P_part_of : List Str := ["units", "many"]
theorem sc_part_of : FnScope N_part_of P_part_of (defScope s_part_of) := ⟨rfl, rfl, rfl, by decide +kernel, rfl, by decide +kernel, by decide +kernel⟩
abbrev s_check_index : Stmt := top 33
abbrev N_check_index : List Str := ["number", "least", "most"]
abbrev P_check_index : List Str := ["number", "least", "most"]
theorem sc_check_index : FnScope N_check_index P_check_index (defScope s_check_index) := ⟨rfl, rfl, rfl, by decide +kernel, rfl, by decide +kernel, by decide +kernel⟩
abbrev s_Made_init : Stmt := inClass (top 34) 0
abbrev N_Made_init : List Str := ["self", "part", "depth", "pieces"]
abbrev P_Made_init : List Str := ["self", "part", "depth", "pieces"]
theorem sc_Made_init : FnScope N_Made_init P_Made_init (defScope s_Made_init) := ⟨rfl, rfl, rfl, by decide +kernel, rfl, by decide +kernel, by decide +kernel⟩
abbrev s_Word_init : Stmt := inClass (top 35) 0
abbrev N_Word_init : List Str := ["self", "entries", "first", "entry"]
abbrev P_Word_init : List Str := ["self", "entries"]
theorem sc_Word_init : FnScope N_Word_init P_Word_init (defScope s_Word_init) := ⟨rfl, rfl, rfl, by decide +kernel, rfl, by decide +kernel, by decide +kernel⟩
abbrev s_Word_add : Stmt := inClass (top 35) 3
abbrev N_Word_add : List Str := ["self", "other", "pieces"]
abbrev P_Word_add : List Str := ["self", "other"]
theorem sc_Word_add : FnScope N_Word_add P_Word_add (defScope s_Word_add) := ⟨rfl, rfl, rfl, by decide +kernel, rfl, by decide +kernel, by decide +kernel⟩
abbrev s_Word_mul : Stmt := inClass (top 35) 4
abbrev N_Word_mul : List Str := ["self", "times"]
abbrev P_Word_mul : List Str := ["self", "times"]
theorem sc_Word_mul : FnScope N_Word_mul P_Word_mul (defScope s_Word_mul) := ⟨rfl, rfl, rfl, by decide +kernel, rfl, by decide +kernel, by decide +kernel⟩
abbrev s_length : Stmt := inClass (top 35) 8
abbrev N_length : List Str := ["self"]
abbrev P_length : List Str := ["self"]
theorem sc_length : FnScope N_length P_length (defScope s_length) := ⟨rfl, rfl, rfl, by decide +kernel, rfl, by decide +kernel, by decide +kernel⟩
abbrev s_cell : Stmt := top 48
abbrev N_cell : List Str := ["_law_script", "_law_k"]
abbrev P_cell : List Str := ["_law_script", "_law_k"]
theorem sc_cell : FnScope N_cell P_cell (defScope s_cell) := ⟨rfl, rfl, rfl, by decide +kernel, rfl, by decide +kernel, by decide +kernel⟩
abbrev s_digits : Stmt := top 49
abbrev N_digits : List Str := ["_law_cell_here", "_law_many", "_law_digits_here", "_law_rest", "_law_number", "_law_k"]
abbrev P_digits : List Str := ["_law_cell_here", "_law_many"]
theorem sc_digits : FnScope N_digits P_digits (defScope s_digits) := ⟨rfl, rfl, rfl, by decide +kernel, rfl, by decide +kernel, by decide +kernel⟩
abbrev s_entry : Stmt := top 50
abbrev N_entry : List Str := ["_law_digit"]
abbrev P_entry : List Str := ["_law_digit"]
theorem sc_entry : FnScope N_entry P_entry (defScope s_entry) := ⟨rfl, rfl, rfl, by decide +kernel, rfl, by decide +kernel, by decide +kernel⟩
abbrev s_row : Stmt := top 51
abbrev N_row : List Str := ["_law_digits_here", "_law_many", "_law_digit"]
abbrev P_row : List Str := ["_law_digits_here", "_law_many"]
theorem sc_row : FnScope N_row P_row (defScope s_row) := ⟨rfl, rfl, rfl, by decide +kernel, rfl, by decide +kernel, by decide +kernel⟩
abbrev s_cut : Stmt := inClass (top 35) 9
abbrev N_cut : List Str := ["self", "first", "last"]
abbrev P_cut : List Str := ["self", "first", "last"]
theorem sc_cut : FnScope N_cut P_cut (defScope s_cut) := ⟨rfl, rfl, rfl, by decide +kernel, rfl, by decide +kernel, by decide +kernel⟩
abbrev s_entries : Stmt := inClass (top 35) 10
abbrev N_entries : List Str := ["self", "first", "last", "found", "units", "unit", "times", "rest"]
abbrev P_entries : List Str := ["self", "first", "last"]
theorem sc_entries : FnScope N_entries P_entries (defScope s_entries) := ⟨rfl, rfl, rfl, by decide +kernel, rfl, by decide +kernel, by decide +kernel⟩
abbrev s_getitem : Stmt := inClass (top 35) 5
abbrev N_getitem : List Str := ["self", "number"]
abbrev P_getitem : List Str := ["self", "number"]
theorem sc_getitem : FnScope N_getitem P_getitem (defScope s_getitem) := ⟨rfl, rfl, rfl, by decide +kernel, rfl, by decide +kernel, by decide +kernel⟩
abbrev s_Word_eq : Stmt := inClass (top 35) 1
abbrev N_Word_eq : List Str := ["self", "other"]
abbrev P_Word_eq : List Str := ["self", "other"]
theorem sc_Word_eq : FnScope N_Word_eq P_Word_eq (defScope s_Word_eq) := ⟨rfl, rfl, rfl, by decide +kernel, rfl, by decide +kernel, by decide +kernel⟩
abbrev s_built : Stmt := top 52
abbrev N_built : List Str := ["_law_digits_here", "_law_deep", "_law_way", "_law_row_here", "_law_one", "_law_some", "_law_times", "_law_other", "_law_more"]
abbrev P_built : List Str := ["_law_digits_here", "_law_deep"]
theorem sc_built : FnScope N_built P_built (defScope s_built) := ⟨rfl, rfl, rfl, by decide +kernel, rfl, by decide +kernel, by decide +kernel⟩
abbrev s_agreeing : Stmt := top 36
abbrev N_agreeing : List Str := ["one", "first", "other", "second", "most"]
abbrev P_agreeing : List Str := ["one", "first", "other", "second"]
theorem sc_agreeing : FnScope N_agreeing P_agreeing (defScope s_agreeing) := ⟨rfl, rfl, rfl, by decide +kernel, rfl, by decide +kernel, by decide +kernel⟩
abbrev s_first_difference : Stmt := top 37
abbrev N_first_difference : List Str := ["one", "other", "many"]
abbrev P_first_difference : List Str := ["one", "other"]
theorem sc_first_difference : FnScope N_first_difference P_first_difference (defScope s_first_difference) := ⟨rfl, rfl, rfl, by decide +kernel, rfl, by decide +kernel, by decide +kernel⟩
abbrev s_check_number : Stmt := top 40
abbrev N_check_number : List Str := ["number", "least", "most"]
abbrev P_check_number : List Str := ["number", "least", "most"]
theorem sc_check_number : FnScope N_check_number P_check_number (defScope s_check_number) := ⟨rfl, rfl, rfl, by decide +kernel, rfl, by decide +kernel, by decide +kernel⟩
abbrev s_Walk_init : Stmt := inClass (top 41) 0
abbrev N_Walk_init : List Str := ["self", "moves", "counted"]
abbrev P_Walk_init : List Str := ["self", "moves", "counted"]
theorem sc_Walk_init : FnScope N_Walk_init P_Walk_init (defScope s_Walk_init) := ⟨rfl, rfl, rfl, by decide +kernel, rfl, by decide +kernel, by decide +kernel⟩
abbrev s_next_state : Stmt := inClass (top 41) 1
abbrev N_next_state : List Str := ["self", "state", "entry", "move"]
abbrev P_next_state : List Str := ["self", "state", "entry"]
theorem sc_next_state : FnScope N_next_state P_next_state (defScope s_next_state) := ⟨rfl, rfl, rfl, by decide +kernel, rfl, by decide +kernel, by decide +kernel⟩
abbrev s_once : Stmt := inClass (top 41) 4
abbrev N_once : List Str := ["self", "state", "unit", "later"]
abbrev P_once : List Str := ["self", "state", "unit"]
theorem sc_once : FnScope N_once P_once (defScope s_once) := ⟨rfl, rfl, rfl, by decide +kernel, rfl, by decide +kernel, by decide +kernel⟩
abbrev s_passages : Stmt := inClass (top 41) 5
abbrev N_passages : List Str := ["self", "state", "unit", "times", "found", "later", "more"]
abbrev P_passages : List Str := ["self", "state", "unit", "times"]
theorem sc_passages : FnScope N_passages P_passages (defScope s_passages) := ⟨rfl, rfl, rfl, by decide +kernel, rfl, by decide +kernel, by decide +kernel⟩
abbrev s_go_from : Stmt := inClass (top 41) 3
abbrev N_go_from : List Str := ["self", "state", "units", "many", "visits", "unit", "times", "rest", "whole", "more"]
abbrev P_go_from : List Str := ["self", "state", "units", "many"]
theorem sc_go_from : FnScope N_go_from P_go_from (defScope s_go_from) := ⟨rfl, rfl, rfl, by decide +kernel, rfl, by decide +kernel, by decide +kernel⟩
abbrev s_Passages_init : Stmt := inClass (top 42) 0
abbrev N_Passages_init : List Str := ["self", "state"]
abbrev P_Passages_init : List Str := ["self", "state"]
theorem sc_Passages_init : FnScope N_Passages_init P_Passages_init (defScope s_Passages_init) := ⟨rfl, rfl, rfl, by decide +kernel, rfl, by decide +kernel, by decide +kernel⟩
abbrev s_note : Stmt := inClass (top 42) 1
abbrev N_note : List Str := ["self", "state", "visits"]
abbrev P_note : List Str := ["self", "state", "visits"]
theorem sc_note : FnScope N_note P_note (defScope s_note) := ⟨rfl, rfl, rfl, by decide +kernel, rfl, by decide +kernel, by decide +kernel⟩
abbrev s_done : Stmt := inClass (top 42) 2
abbrev N_done : List Str := ["self"]
abbrev P_done : List Str := ["self"]
theorem sc_done : FnScope N_done P_done (defScope s_done) := ⟨rfl, rfl, rfl, by decide +kernel, rfl, by decide +kernel, by decide +kernel⟩
abbrev s_returns : Stmt := inClass (top 42) 3
abbrev N_returns : List Str := ["self"]
abbrev P_returns : List Str := ["self"]
theorem sc_returns : FnScope N_returns P_returns (defScope s_returns) := ⟨rfl, rfl, rfl, by decide +kernel, rfl, by decide +kernel, by decide +kernel⟩
abbrev s_folded : Stmt := inClass (top 42) 4
abbrev N_folded : List Str := ["self", "times", "first", "period"]
abbrev P_folded : List Str := ["self", "times"]
theorem sc_folded : FnScope N_folded P_folded (defScope s_folded) := ⟨rfl, rfl, rfl, by decide +kernel, rfl, by decide +kernel, by decide +kernel⟩
abbrev s_end : Stmt := inClass (top 42) 5
abbrev N_end : List Str := ["self", "times", "whole", "at", "first"]
abbrev P_end : List Str := ["self", "times"]
theorem sc_end : FnScope N_end P_end (defScope s_end) := ⟨rfl, rfl, rfl, by decide +kernel, rfl, by decide +kernel, by decide +kernel⟩
abbrev s_check_row : Stmt := top 43
abbrev N_check_row : List Str := ["row", "entry"]
abbrev P_check_row : List Str := ["row"]
theorem sc_check_row : FnScope N_check_row P_check_row (defScope s_check_row) := ⟨rfl, rfl, rfl, by decide +kernel, rfl, by decide +kernel, by decide +kernel⟩
abbrev s_matched : Stmt := top 44
abbrev N_matched : List Str := ["row", "seen", "many"]
abbrev P_matched : List Str := ["row", "seen"]
theorem sc_matched : FnScope N_matched P_matched (defScope s_matched) := ⟨rfl, rfl, rfl, by decide +kernel, rfl, by decide +kernel, by decide +kernel⟩
abbrev s_row_walk : Stmt := top 45
abbrev N_row_walk : List Str := ["row", "moves", "state", "move", "entry"]
abbrev P_row_walk : List Str := ["row"]
theorem sc_row_walk : FnScope N_row_walk P_row_walk (defScope s_row_walk) := ⟨rfl, rfl, rfl, by decide +kernel, rfl, by decide +kernel, by decide +kernel⟩
abbrev s_count_row : Stmt := top 46
abbrev N_count_row : List Str := ["word", "row", "end"]
abbrev P_count_row : List Str := ["word", "row", "end"]
theorem sc_count_row : FnScope N_count_row P_count_row (defScope s_count_row) := ⟨rfl, rfl, rfl, by decide +kernel, rfl, by decide +kernel, by decide +kernel⟩
abbrev s_stands : Stmt := top 53
abbrev N_stands : List Str := ["_law_row_here", "_law_some", "_law_k"]
abbrev P_stands : List Str := ["_law_row_here", "_law_some"]
theorem sc_stands : FnScope N_stands P_stands (defScope s_stands) := ⟨rfl, rfl, rfl, by decide +kernel, rfl, by decide +kernel, by decide +kernel⟩
abbrev s_otherwise : Stmt := top 54
abbrev N_otherwise : List Str := ["_law_word", "_law_some", "_law_digits_here", "_law_one", "_law_two", "_law_found", "_law_single", "_law_entry_here", "_law_backward"]
abbrev P_otherwise : List Str := ["_law_word", "_law_some", "_law_digits_here"]
theorem sc_otherwise : FnScope N_otherwise P_otherwise (defScope s_otherwise) := ⟨rfl, rfl, rfl, by decide +kernel, rfl, by decide +kernel, by decide +kernel⟩
abbrev s_powers_right : Stmt := top 55
abbrev N_powers_right : List Str := ["_law_row_here", "_law_digits_here", "_law_base", "_law_one", "_law_two", "_law_some", "_law_longer", "_law_word"]
abbrev P_powers_right : List Str := ["_law_row_here", "_law_digits_here"]
theorem sc_powers_right : FnScope N_powers_right P_powers_right (defScope s_powers_right) := ⟨rfl, rfl, rfl, by decide +kernel, rfl, by decide +kernel, by decide +kernel⟩
abbrev s_long_right : Stmt := top 56
abbrev N_long_right : List Str := ["_law_digits_here", "_law_row_here", "_law_front", "_law_back", "_law_k", "_law_some"]
abbrev P_long_right : List Str := ["_law_digits_here"]
theorem sc_long_right : FnScope N_long_right P_long_right (defScope s_long_right) := ⟨rfl, rfl, rfl, by decide +kernel, rfl, by decide +kernel, by decide +kernel⟩
abbrev s_law : Stmt := top 57
abbrev N_law : List Str := ["_law_script", "_law_k", "_law_digits_here", "_law_word", "_law_some", "_law_other", "_law_at", "_law_bent"]
abbrev P_law : List Str := ["_law_script"]
theorem sc_law : FnScope N_law P_law (defScope s_law) := ⟨rfl, rfl, rfl, by decide +kernel, rfl, by decide +kernel, by decide +kernel⟩
/-- what the top has left: constants, built-in names -/
structure Txt (g : G) (mg : Str → Option Value) : Prop where
  c_LETTERS : ∃ u, mg "LETTERS" = some u ∧ RelV (.str letters26) u
  c_MOST_LETTERS : ∃ u, mg "MOST_LETTERS" = some u ∧ RelV (.int 8) u
  c_MOST_IN_ROW : ∃ u, mg "MOST_IN_ROW" = some u ∧ RelV (.int 60) u
  c_MOST_DEPTH : ∃ u, mg "MOST_DEPTH" = some u ∧ RelV (.int 6) u
  c_MOST_TOLD : ∃ u, mg "MOST_TOLD" = some u ∧ RelV (.int 1000) u
  c_MOST_PIECES : ∃ u, mg "MOST_PIECES" = some u ∧ RelV (.int 1000) u
  c_KINDS : ∃ u, mg "KINDS" = some u ∧ RelV (.ref g.kinds) u
  c_Made : ∃ u, mg "Made" = some u ∧ RelV (.ref g.made) u
  c_Word : ∃ u, mg "Word" = some u ∧ RelV (.ref g.word) u
  word_cl : PySem.W.findIn g.K (.ref g.word) "__class__" = some (some (.builtin "object.__class__"))
  word_ob : PySem.W.mroIn g.K g.word (.type "object") = some true
  word_word : PySem.W.kitOne g.K (.ref g.word) (.ref g.word) = some true
  word_ne : PySem.W.findIn g.K (.ref g.word) "__ne__" = some (some (.builtin "object.__ne__"))
  word_nf : PySem.W.notFirst g.K g.word (.type "list") = true
  list_word : PySem.W.kitOne g.K (.type "list") (.ref g.word) = some false
  n_sorted : mg "sorted" = none
  kinds : ∀ H, SqT g.K H g.kinds [.str "emit", .str "final"]
  n_int : mg "int" = none
  n_bool : mg "bool" = none
  n_str : mg "str" = none
  n_tuple : mg "tuple" = none
  n_list : mg "list" = none
  n_len : mg "len" = none
  n_min : mg "min" = none
  n_max : mg "max" = none
  n_all : mg "all" = none
  n_isinstance : mg "isinstance" = none
  n_range : mg "range" = none
  part : Cls g.K g.part
  p_letters : NoAttr g.K g.part "letters"
  p_left : NoAttr g.K g.part "left"
  p_right : NoAttr g.K g.part "right"
  p_times : NoAttr g.K g.part "times"
  p_turned : NoAttr g.K g.part "turned_from"
  p_wide : NoAttr g.K g.part "wide"
  part_cl : PySem.W.findIn g.K (.ref g.part) "__class__" = some (some (.builtin "object.__class__"))
  cls_get : PySem.W.specialIn g.K (.builtin "object.__class__") "__get__" = some (some (.builtin "getset_descriptor.__get__"))
  cls_tk : PySem.W.takesIn g.K (.builtin "object.__class__") = some true
  part_ob : PySem.W.mroIn g.K g.part (.type "object") = some true
  part_tup : PySem.W.kitOne g.K (.ref g.part) (.type "tuple") = some false
  mulI : OpInt g.K g.word (PySem.dunder (Operator.info .Mult).2) (PySem.dunderR (Operator.info .Mult).2)
  word : Cls g.K g.word
  made : Cls g.K g.made
  w_part : NoAttr g.K g.word "part"
  w_nesting : NoAttr g.K g.word "nesting"
  w_pieces : NoAttr g.K g.word "pieces"
  m_part : NoAttr g.K g.made "part"
  m_nesting : NoAttr g.K g.made "nesting"
  m_pieces : NoAttr g.K g.made "pieces"
  made_cl : PySem.W.findIn g.K (.ref g.made) "__class__" = some (some (.builtin "object.__class__"))
  made_ob : PySem.W.mroIn g.K g.made (.type "object") = some true
  made_made : PySem.W.kitOne g.K (.ref g.made) (.ref g.made) = some true
  list_made : PySem.W.kitOne g.K (.type "list") (.ref g.made) = some false
  c_MOST_ROW : ∃ u, mg "MOST_ROW" = some u ∧ RelV (.int 8) u
  walk : Cls g.K g.walk
  k_moves : NoAttr g.K g.walk "moves"
  k_counted : NoAttr g.K g.walk "counted"
  k_known : NoAttr g.K g.walk "known"
  psg : Cls g.K g.pass
  s_states : NoAttr g.K g.pass "states"
  s_sums : NoAttr g.K g.pass "sums"
def t_is_integer (g : G) : TS :=
    (tRet (tAndV (tCB (rIsi g.K) (tCons (tVar 0) (tCons (tC (.ty "int")) tNil))) (tNotV (tCB (rIsi g.K) (tCons (tVar 0) (tCons (tC (.ty "bool")) tNil))))))
theorem d_is_integer {P : Program} {w : World} {mg : Str → Option Value} {base : Heap} {g : G} {A : Around} {outer : List Env} {s : Shared} {H : Hp} {E : XK} {f : Addr} {cdv : Value} (T : Txt g mg)
    (hr : Room 0 (A.deeper (envOfC "is_integer" (defScope s_is_integer) s.heap.objs.size f cdv))) :
    PSs (cxOf CX0 P w g.K mg base N_is_integer "is_integer" (defScope s_is_integer) f cdv A outer s H E).nox (defBody s_is_integer) (t_is_integer g) :=
    (pss_one (ps_ret (pe_and (pe_callB call_isi (by rfl) T.n_isinstance (by decide +kernel) (pa_cons (pv 0) (pa_cons (pe_bltn (v := .ty "int") (by rfl) T.n_int (by decide +kernel) rfl) pa_nil))) (pe_one (pe_not (pe_callB call_isi (by rfl) T.n_isinstance (by decide +kernel) (pa_cons (pv 0) (pa_cons (pe_bltn (v := .ty "bool") (by rfl) T.n_bool (by decide +kernel) rfl) pa_nil))))))))
def t_is_between (g : G) : TS :=
    (tRet (tAndV (tCall spIsInteger [] E0 (tCons (tVar 0) tNil)) (tChain rLeI rLeI (tVar 1) (tVar 0) (tVar 2))))
theorem d_is_between {P : Program} {w : World} {mg : Str → Option Value} {base : Heap} {g : G} {A : Around} {outer : List Env} {s : Shared} {H : Hp} {E : XK} {f : Addr} {cdv : Value} (T : Txt g mg)
    (hr : Room 1 (A.deeper (envOfC "is_between" (defScope s_is_between) s.heap.objs.size f cdv)))
    (h_is_integer : Cl P w g.K mg base 1 "is_integer" spIsInteger []) :
    PSs (cxOf CX0 P w g.K mg base N_is_between "is_between" (defScope s_is_between) f cdv A outer s H E).nox (defBody s_is_between) (t_is_between g) :=
    (pss_one (ps_ret (pe_and (pe_cl h_is_integer hr (by omega) rfl (pa_cons (pv 0) pa_nil)) (pe_one (pe_chain op_leI op_leI (pv 1) (pv 0) (pv 2))))))
def t_is_name (g : G) : TS :=
    (tSeq (tIfS (tOr (tNot (tB (tCB (rIsi g.K) (tCons (tVar 0) (tCons (tC (.ty "str")) tNil))))) (tNot (tTest (tChain rLeI rLeI (tC (.int 1)) (tCB (rLenA g.K) (tCons (tVar 0) tNil)) (tC (.int 8)))))) (tRet (tC (.bl false))) tNext)
    (tRet (tCB (rAll g.K) (tCons (tLc (iStr (tVar 0)) (gName 1) tYes (tOp rInSg (tVar 1) (tC (.str letters26))) [1]) tNil))))
theorem d_is_name {P : Program} {w : World} {mg : Str → Option Value} {base : Heap} {g : G} {A : Around} {outer : List Env} {s : Shared} {H : Hp} {E : XK} {f : Addr} {cdv : Value} (T : Txt g mg)
    (hr : Room 0 (A.deeper (envOfC "is_name" (defScope s_is_name) s.heap.objs.size f cdv))) :
    PSs (cxOf CX0 P w g.K mg base N_is_name "is_name" (defScope s_is_name) f cdv A outer s H E).nox (defBody s_is_name) (t_is_name g) :=
    (pss_cons (ps_if (PW.pt (pw_or (pt_not (pt_val (pe_callB call_isi (by rfl) T.n_isinstance (by decide +kernel) (pa_cons (pv 0) (pa_cons (pe_bltn (v := .ty "str") (by rfl) T.n_str (by decide +kernel) rfl) pa_nil))))) (pw_or1 (pt_not (pt_chain op_leI op_leI pe_int (pe_callB call_len (by rfl) T.n_len PySem.boot_len (pa_cons (pv 0) pa_nil)) (pe_gc rfl T.c_MOST_LETTERS)))))) (pss_one (ps_ret pe_bl)) pss_nil)
    (pss_one (ps_ret (pe_callB (cr_all rfl) (by rfl) T.n_all (by decide +kernel) (pa_cons (pe_lc (own := [("sign", 1)]) (g := gName 1) (tt := tYes) rfl sc_is_name.nd (pi_str (pv 0)) (blkOk_by (N := N_is_name) (sc := defScope s_is_name) (by decide +kernel)) (fun _ _ _ _ _ => pg_name (i := 1) sc_is_name.nd rfl (Or.inl rfl)) (fun _ _ _ _ _ => pts_nil) (fun _ _ _ _ _ => (pe_cmpR op_in_sign (pv 1) (pe_gc rfl T.c_LETTERS) (by rfl)))) pa_nil)))))
def t_is_entry (g : G) : TS :=
    (tSeq (tIfS (tOr (tNot (tB (tCB (rIsi g.K) (tCons (tVar 0) (tCons (tC (.ty "tuple")) tNil))))) (tOr (tTest (tOp rNeS (tCB (rLenS g.K) (tCons (tVar 0) tNil)) (tC (.int 2)))) (tOr (tNot (tB (tCB (rIsi g.K) (tCons (tOp (rIxT g.K) (tVar 0) (tC (.int 0))) (tCons (tC (.ty "str")) tNil))))) (tTest (tOp (rIn g.K true) (tOp (rIxT g.K) (tVar 0) (tC (.int 0))) (tC (.ref g.kinds))))))) (tRet (tC (.bl false))) tNext)
    (tRet (tOrV (tCall spIsName [] E0 (tCons (tOp (rIxT g.K) (tVar 0) (tC (.int 1))) tNil)) (tOp (rEqD g.K) (tVar 0) (tTup (tCons (tC (.str "emit")) (tCons (tC .non) tNil)))))))
theorem d_is_entry {P : Program} {w : World} {mg : Str → Option Value} {base : Heap} {g : G} {A : Around} {outer : List Env} {s : Shared} {H : Hp} {E : XK} {f : Addr} {cdv : Value} (T : Txt g mg)
    (hr : Room 1 (A.deeper (envOfC "is_entry" (defScope s_is_entry) s.heap.objs.size f cdv)))
    (h_is_name : Cl P w g.K mg base 1 "is_name" spIsName []) :
    PSs (cxOf CX0 P w g.K mg base N_is_entry "is_entry" (defScope s_is_entry) f cdv A outer s H E).nox (defBody s_is_entry) (t_is_entry g) :=
    (pss_cons (ps_if (PW.pt (pw_or (pt_not (pt_val (pe_callB call_isi (by rfl) T.n_isinstance (by decide +kernel) (pa_cons (pv 0) (pa_cons (pe_bltn (v := .ty "tuple") (by rfl) T.n_tuple (by decide +kernel) rfl) pa_nil))))) (pw_or (pt_cmpR op_neS (pe_callB call_len_seq (by rfl) T.n_len PySem.boot_len (pa_cons (pv 0) pa_nil)) pe_int (nomark _)) (pw_or (pt_not (pt_val (pe_callB call_isi (by rfl) T.n_isinstance (by decide +kernel) (pa_cons (pe_ix ix_tup (pv 0) pe_int (fun _ _ => rfl)) (pa_cons (pe_bltn (v := .ty "str") (by rfl) T.n_str (by decide +kernel) rfl) pa_nil))))) (pw_or1 (pt_cmpR op_notIn_seq (pe_ix ix_tup (pv 0) pe_int (fun _ _ => rfl)) (pe_gc rfl T.c_KINDS) (by rfl))))))) (pss_one (ps_ret pe_bl)) pss_nil)
    (pss_one (ps_ret (pe_or (pe_cl h_is_name hr (by omega) rfl (pa_cons (pe_ix ix_tup (pv 0) pe_int (fun _ _ => rfl)) pa_nil)) (pe_one (pe_cmpR (op_eqD hr.units) (pv 0) (pe_tup (pa_cons pe_str (pa_cons pe_non pa_nil))) (nomark _)))))))
def t_Part_init (g : G) : TS :=
    (tSeq (sFld g.K (tVar 0) (tVar 1) "letters")
    (tSeq (sFld g.K (tVar 0) (tVar 2) "left")
    (tSeq (sFld g.K (tVar 0) (tVar 3) "right")
    (tSeq (sFld g.K (tVar 0) (tVar 4) "times")
    (tSeq (sFld g.K (tVar 0) (tVar 5) "turned_from")
    (tIfS (tTest (tOp rIsN0 (tVar 2) (tC .non))) (sFld g.K (tVar 0) (tCB (rLenS g.K) (tCons (tVar 1) tNil)) "wide") (tIfS (tTest (tOp rIsN0 (tVar 3) (tC .non))) (sFld g.K (tVar 0) (tOp rMulI (tFld g.K (tVar 2) "wide") (tVar 4)) "wide") (sFld g.K (tVar 0) (tOp rAddI (tFld g.K (tVar 2) "wide") (tFld g.K (tVar 3) "wide")) "wide"))))))))
theorem d_Part_init {P : Program} {w : World} {mg : Str → Option Value} {base : Heap} {g : G} {A : Around} {outer : List Env} {s : Shared} {H : Hp} {E : XK} {f : Addr} {cdv : Value} (T : Txt g mg)
    (hr : Room 0 (A.deeper (envOfC "Part.__init__" (defScope s_Part_init) s.heap.objs.size f cdv))) :
    PSs (cxOf CX0 P w g.K mg base N_Part_init "Part.__init__" (defScope s_Part_init) f cdv A outer s H E).nox (defBody s_Part_init) (t_Part_init g) :=
    (pss_cons (ps_fld (pv 0) (pv 1) rfl)
    (pss_cons (ps_fld (pv 0) (pv 2) rfl)
    (pss_cons (ps_fld (pv 0) (pv 3) rfl)
    (pss_cons (ps_fld (pv 0) (pv 4) rfl)
    (pss_cons (ps_fld (pv 0) (pv 5) rfl)
    (pss_one (ps_if (pt_cmpR op_isN (pv 2) pe_non (nomark _)) (pss_one (ps_fld (pv 0) (pe_callB call_len_seq (by rfl) T.n_len PySem.boot_len (pa_cons (pv 1) pa_nil)) rfl)) (pss_one (ps_if (pt_cmpR op_isN (pv 3) pe_non (nomark _)) (pss_one (ps_fld (pv 0) (pe_op op_mulI (pe_fld (pv 2) rfl) (pv 4)) rfl)) (pss_one (ps_fld (pv 0) (pe_op op_addI (pe_fld (pv 2) rfl) (pe_fld (pv 3) rfl)) rfl)))))))))))
def t_joined (g : G) : TS :=
    (tSeq (tIfS (tOr (tTest (tOp rEqS (tFld g.K (tVar 0) "wide") (tC (.int 0)))) (tTest (tOp rEqS (tFld g.K (tVar 1) "wide") (tC (.int 0))))) (tRet (tIf (tTest (tOp rEqS (tFld g.K (tVar 0) "wide") (tC (.int 0)))) (tVar 1) (tVar 0))) tNext)
    (tSeq (tAsg (tIf (tTest (tOp rIsN0 (tFld g.K (tVar 0) "right") (tC .non))) (tVar 0) (tFld g.K (tVar 0) "right")) (gName 2))
    (tSeq (tIfS (tAnd (tTest (tOp rIsN0 (tFld g.K (tVar 2) "left") (tC .non))) (tAnd (tTest (tOp rIsN0 (tFld g.K (tVar 1) "left") (tC .non))) (tTest (tOp rLeI (tOp rAddI (tCB (rLenS g.K) (tCons (tFld g.K (tVar 2) "letters") tNil)) (tCB (rLenS g.K) (tCons (tFld g.K (tVar 1) "letters") tNil))) (tC (.int 60)))))) (tSeq (tAsg (tMake g.part (spPartInit g) [.non] E0 (tCons (tOp (rCatA g.K) (tFld g.K (tVar 2) "letters") (tFld g.K (tVar 1) "letters")) (tCons (tC .non) (tCons (tC .non) (tCons (tC (.int 1)) tNil))))) (gName 3))
    (tRet (tIf (tTest (tOp rIsN0 (tFld g.K (tVar 0) "right") (tC .non))) (tVar 3) (tMake g.part (spPartInit g) [.non] E0 (tCons (tTup tNil) (tCons (tFld g.K (tVar 0) "left") (tCons (tVar 3) (tCons (tC (.int 1)) tNil)))))))) tNext)
    (tRet (tMake g.part (spPartInit g) [.non] E0 (tCons (tTup tNil) (tCons (tVar 0) (tCons (tVar 1) (tCons (tC (.int 1)) tNil)))))))))
theorem d_joined {P : Program} {w : World} {mg : Str → Option Value} {base : Heap} {g : G} {A : Around} {outer : List Env} {s : Shared} {H : Hp} {E : XK} {f : Addr} {cdv : Value} (T : Txt g mg)
    (hr : Room 2 (A.deeper (envOfC "joined" (defScope s_joined) s.heap.objs.size f cdv)))
    (h_Part_d : Mkl P w g.K mg base 1 "Part" g.part (spPartInit g) [.non]) :
    PSs (cxOf CX0 P w g.K mg base N_joined "joined" (defScope s_joined) f cdv A outer s H E).nox (defBody s_joined) (t_joined g) :=
    (pss_cons (ps_if (PW.pt (pw_or (pt_cmpR op_eqS (pe_fld (pv 0) rfl) pe_int (nomark _)) (pw_or1 (pt_cmpR op_eqS (pe_fld (pv 1) rfl) pe_int (nomark _))))) (pss_one (ps_ret (pe_ifExp (pt_cmpR op_eqS (pe_fld (pv 0) rfl) pe_int (nomark _)) (pv 1) (pv 0)))) pss_nil)
    (pss_cons (ps_set (i := 2) sc_joined.nd rfl (Or.inl rfl) (pe_ifExp (pt_cmpR op_isN (pe_fld (pv 0) rfl) pe_non (nomark _)) (pv 0) (pe_fld (pv 0) rfl)))
    (pss_cons (ps_if (PW.pt (pw_and (pt_cmpR op_isN (pe_fld (pv 2) rfl) pe_non (nomark _)) (pw_and (pt_cmpR op_isN (pe_fld (pv 1) rfl) pe_non (nomark _)) (pw_and1 (pt_cmpR op_leI (pe_op op_addI (pe_callB call_len_seq (by rfl) T.n_len PySem.boot_len (pa_cons (pe_fld (pv 2) rfl) pa_nil)) (pe_callB call_len_seq (by rfl) T.n_len PySem.boot_len (pa_cons (pe_fld (pv 1) rfl) pa_nil))) (pe_gc rfl T.c_MOST_IN_ROW) (nomark _)))))) (pss_cons (ps_set (i := 3) sc_joined.nd rfl (Or.inl rfl) (pe_mkl h_Part_d hr (by omega) rfl (pa_cons (pe_op op_catA (pe_fld (pv 2) rfl) (pe_fld (pv 1) rfl)) (pa_cons pe_non (pa_cons pe_non (pa_cons pe_int pa_nil))))))
    (pss_one (ps_ret (pe_ifExp (pt_cmpR op_isN (pe_fld (pv 0) rfl) pe_non (nomark _)) (pv 3) (pe_mkl h_Part_d hr (by omega) rfl (pa_cons (pe_tup pa_nil) (pa_cons (pe_fld (pv 0) rfl) (pa_cons (pv 3) (pa_cons pe_int pa_nil))))))))) pss_nil)
    (pss_one (ps_ret (pe_mkl h_Part_d hr (by omega) rfl (pa_cons (pe_tup pa_nil) (pa_cons (pv 0) (pa_cons (pv 1) (pa_cons pe_int pa_nil))))))))))
def t_repeated (g : G) : TS :=
    (tSeq (tIfS (tOr (tTest (tOp rEqS (tVar 1) (tC (.int 0)))) (tTest (tOp rEqS (tFld g.K (tVar 0) "wide") (tC (.int 0))))) (tRet (tMake g.part (spPartInit g) [.non] E0 (tCons (tTup tNil) (tCons (tC .non) (tCons (tC .non) (tCons (tC (.int 1)) tNil)))))) tNext)
    (tSeq (tIfS (tAnd (tTest (tOp rNotN0 (tFld g.K (tVar 0) "left") (tC .non))) (tTest (tOp rIsN0 (tFld g.K (tVar 0) "right") (tC .non)))) (tRet (tMake g.part (spPartInit g) [.non] E0 (tCons (tTup tNil) (tCons (tFld g.K (tVar 0) "left") (tCons (tC .non) (tCons (tOp rMulI (tFld g.K (tVar 0) "times") (tVar 1)) tNil)))))) tNext)
    (tRet (tIf (tTest (tOp rEqS (tVar 1) (tC (.int 1)))) (tVar 0) (tMake g.part (spPartInit g) [.non] E0 (tCons (tTup tNil) (tCons (tVar 0) (tCons (tC .non) (tCons (tVar 1) tNil)))))))))
theorem d_repeated {P : Program} {w : World} {mg : Str → Option Value} {base : Heap} {g : G} {A : Around} {outer : List Env} {s : Shared} {H : Hp} {E : XK} {f : Addr} {cdv : Value} (T : Txt g mg)
    (hr : Room 2 (A.deeper (envOfC "repeated" (defScope s_repeated) s.heap.objs.size f cdv)))
    (h_Part_d : Mkl P w g.K mg base 1 "Part" g.part (spPartInit g) [.non]) :
    PSs (cxOf CX0 P w g.K mg base N_repeated "repeated" (defScope s_repeated) f cdv A outer s H E).nox (defBody s_repeated) (t_repeated g) :=
    (pss_cons (ps_if (PW.pt (pw_or (pt_cmpR op_eqS (pv 1) pe_int (nomark _)) (pw_or1 (pt_cmpR op_eqS (pe_fld (pv 0) rfl) pe_int (nomark _))))) (pss_one (ps_ret (pe_mkl h_Part_d hr (by omega) rfl (pa_cons (pe_tup pa_nil) (pa_cons pe_non (pa_cons pe_non (pa_cons pe_int pa_nil))))))) pss_nil)
    (pss_cons (ps_if (PW.pt (pw_and (pt_cmpR op_notN (pe_fld (pv 0) rfl) pe_non (nomark _)) (pw_and1 (pt_cmpR op_isN (pe_fld (pv 0) rfl) pe_non (nomark _))))) (pss_one (ps_ret (pe_mkl h_Part_d hr (by omega) rfl (pa_cons (pe_tup pa_nil) (pa_cons (pe_fld (pv 0) rfl) (pa_cons pe_non (pa_cons (pe_op op_mulI (pe_fld (pv 0) rfl) (pv 1)) pa_nil))))))) pss_nil)
    (pss_one (ps_ret (pe_ifExp (pt_cmpR op_eqS (pv 1) pe_int (nomark _)) (pv 0) (pe_mkl h_Part_d hr (by omega) rfl (pa_cons (pe_tup pa_nil) (pa_cons (pv 0) (pa_cons pe_non (pa_cons (pv 1) pa_nil))))))))))
def t_width (g : G) : TS :=
    (tRet (tIf (tB (tCB (rIsi g.K) (tCons (tVar 0) (tCons (tC (.ty "tuple")) tNil)))) (tC (.int 1)) (tFld g.K (tVar 0) "wide")))
theorem d_width {P : Program} {w : World} {mg : Str → Option Value} {base : Heap} {g : G} {A : Around} {outer : List Env} {s : Shared} {H : Hp} {E : XK} {f : Addr} {cdv : Value} (T : Txt g mg)
    (hr : Room 0 (A.deeper (envOfC "width" (defScope s_width) s.heap.objs.size f cdv))) :
    PSs (cxOf CX0 P w g.K mg base N_width "width" (defScope s_width) f cdv A outer s H E).nox (defBody s_width) (t_width g) :=
    (pss_one (ps_ret (pe_ifExp (pt_val (pe_callB call_isi (by rfl) T.n_isinstance (by decide +kernel) (pa_cons (pv 0) (pa_cons (pe_bltn (v := .ty "tuple") (by rfl) T.n_tuple (by decide +kernel) rfl) pa_nil)))) pe_int (pe_fld (pv 0) rfl))))
def t_opened (g : G) : TS :=
    (tSeq (tIfS (tTest (tOp rNotN0 (tFld g.K (tVar 0) "right") (tC .non))) (tRet (tTup (tCons (tFld g.K (tVar 0) "left") (tCons (tC (.int 1)) (tCons (tTup (tCons (tFld g.K (tVar 0) "right") (tCons (tC (.int 1)) (tCons (tVar 1) tNil)))) tNil))))) tNext)
    (tSeq (tIfS (tTest (tOp rNotN0 (tFld g.K (tVar 0) "left") (tC .non))) (tRet (tTup (tCons (tFld g.K (tVar 0) "left") (tCons (tFld g.K (tVar 0) "times") (tCons (tVar 1) tNil))))) tNext)
    (tSeq (tFor (iTup g.K (tRevT g.K (tFld g.K (tVar 0) "letters"))) (gName 2) (tAsg (tTup (tCons (tVar 2) (tCons (tC (.int 1)) (tCons (tVar 1) tNil)))) (gName 1)))
    (tRet (tVar 1)))))
theorem d_opened {P : Program} {w : World} {mg : Str → Option Value} {base : Heap} {g : G} {A : Around} {outer : List Env} {s : Shared} {H : Hp} {E : XK} {f : Addr} {cdv : Value} (T : Txt g mg)
    (hr : Room 0 (A.deeper (envOfC "opened" (defScope s_opened) s.heap.objs.size f cdv))) :
    PSs (cxOf CX0 P w g.K mg base N_opened "opened" (defScope s_opened) f cdv A outer s H E).nox (defBody s_opened) (t_opened g) :=
    (pss_cons (ps_if (pt_cmpR op_notN (pe_fld (pv 0) rfl) pe_non (nomark _)) (pss_one (ps_ret (pe_tup (pa_cons (pe_fld (pv 0) rfl) (pa_cons pe_int (pa_cons (pe_tup (pa_cons (pe_fld (pv 0) rfl) (pa_cons pe_int (pa_cons (pv 1) pa_nil)))) pa_nil)))))) pss_nil)
    (pss_cons (ps_if (pt_cmpR op_notN (pe_fld (pv 0) rfl) pe_non (nomark _)) (pss_one (ps_ret (pe_tup (pa_cons (pe_fld (pv 0) rfl) (pa_cons (pe_fld (pv 0) rfl) (pa_cons (pv 1) pa_nil)))))) pss_nil)
    (pss_cons (ps_for PassesOwn.never rfl (pi_tup (pe_revT (pe_fld (pv 0) rfl))) (pg_name (i := 2) sc_opened.nd rfl (Or.inl rfl)) (pss_one (ps_set (i := 1) sc_opened.nd rfl (Or.inl rfl) (pe_tup (pa_cons (pv 2) (pa_cons pe_int (pa_cons (pv 1) pa_nil)))))))
    (pss_one (ps_ret (pv 1))))))
def t_first_unit (g : G) : TS :=
    (tSeq (tWhile (tTest (tOp rNotN0 (tVar 0) (tC .non))) (tSeq (tAsg (tVar 0) (gTup g.K 3 (gCons (gName 1) (gCons (gName 2) (gCons (gName 3) gNil)))))
    (tIfS (tTest (tOp rEqS (tVar 2) (tC (.int 0)))) (tAsg (tVar 3) (gName 0)) (tIfS (tOr (tTest (tOp rGtI (tVar 2) (tC (.int 1)))) (tB (tCB (rIsi g.K) (tCons (tVar 1) (tCons (tC (.ty "tuple")) tNil))))) (tRet (tVar 0)) (tAsg (tCall (spOpened g) [] E0 (tCons (tVar 1) (tCons (tVar 3) tNil))) (gName 0))))))
    (tRet (tC .non)))
theorem d_first_unit {P : Program} {w : World} {mg : Str → Option Value} {base : Heap} {g : G} {A : Around} {outer : List Env} {s : Shared} {H : Hp} {E : XK} {f : Addr} {cdv : Value} (T : Txt g mg)
    (hr : Room 1 (A.deeper (envOfC "first_unit" (defScope s_first_unit) s.heap.objs.size f cdv)))
    (h_opened : Cl P w g.K mg base 1 "opened" (spOpened g) []) :
    PSs (cxOf CX0 P w g.K mg base N_first_unit "first_unit" (defScope s_first_unit) f cdv A outer s H E).nox (defBody s_first_unit) (t_first_unit g) :=
    (pss_cons (ps_while PassesOwn.never (pt_cmpR op_notN (pv 0) pe_non (nomark _)) (pss_cons (ps_asg (pv 0) (pg_tup rfl (pgs_cons (pg_name (i := 1) sc_first_unit.nd rfl (Or.inl rfl)) (pgs_cons (pg_name (i := 2) sc_first_unit.nd rfl (Or.inl rfl)) (pgs_cons (pg_name (i := 3) sc_first_unit.nd rfl (Or.inl rfl)) pgs_nil)))))
    (pss_one (ps_if (pt_cmpR op_eqS (pv 2) pe_int (nomark _)) (pss_one (ps_set (i := 0) sc_first_unit.nd rfl (Or.inl rfl) (pv 3))) (pss_one (ps_if (PW.pt (pw_or (pt_cmpR op_gtI (pv 2) pe_int (nomark _)) (pw_or1 (pt_val (pe_callB call_isi (by rfl) T.n_isinstance (by decide +kernel) (pa_cons (pv 1) (pa_cons (pe_bltn (v := .ty "tuple") (by rfl) T.n_tuple (by decide +kernel) rfl) pa_nil))))))) (pss_one (ps_ret (pv 0))) (pss_one (ps_set (i := 0) sc_first_unit.nd rfl (Or.inl rfl) (pe_cl h_opened hr (by omega) rfl (pa_cons (pv 1) (pa_cons (pv 3) pa_nil)))))))))))
    (pss_one (ps_ret pe_non)))
def t_behind (g : G) : TS :=
    (tSeq (tWhile (tTest (tOp rGtI (tVar 1) (tC (.int 0)))) (tSeq (tAsg (tVar 0) (gTup g.K 3 (gCons (gName 2) (gCons (gName 3) (gCons (gName 4) gNil)))))
    (tIfS (tTest (tOp rLeI (tOp rMulI (tCall (spWidth g) [] E0 (tCons (tVar 2) tNil)) (tVar 3)) (tVar 1))) (tSeq (tAsg (tOp rSubI (tVar 1) (tOp rMulI (tCall (spWidth g) [] E0 (tCons (tVar 2) tNil)) (tVar 3))) (gName 1))
    (tAsg (tVar 4) (gName 0))) (tSeq (tAsg (tOp rDivI (tVar 1) (tCall (spWidth g) [] E0 (tCons (tVar 2) tNil))) (gName 5))
    (tSeq (tAsg (tOp rSubI (tVar 1) (tOp rMulI (tVar 5) (tCall (spWidth g) [] E0 (tCons (tVar 2) tNil)))) (gName 1))
    (tSeq (tAsg (tTup (tCons (tVar 2) (tCons (tOp rSubI (tVar 3) (tVar 5)) (tCons (tVar 4) tNil)))) (gName 0))
    (tIfS (tTest (tOp rGtI (tVar 1) (tC (.int 0)))) (tAsg (tCall (spOpened g) [] E0 (tCons (tVar 2) (tCons (tTup (tCons (tVar 2) (tCons (tOp rSubI (tOp rSubI (tVar 3) (tVar 5)) (tC (.int 1))) (tCons (tVar 4) tNil)))) tNil))) (gName 0)) tNext)))))))
    (tRet (tVar 0)))
theorem d_behind {P : Program} {w : World} {mg : Str → Option Value} {base : Heap} {g : G} {A : Around} {outer : List Env} {s : Shared} {H : Hp} {E : XK} {f : Addr} {cdv : Value} (T : Txt g mg)
    (hr : Room 1 (A.deeper (envOfC "behind" (defScope s_behind) s.heap.objs.size f cdv)))
    (h_width : Cl P w g.K mg base 1 "width" (spWidth g) [])
    (h_opened : Cl P w g.K mg base 1 "opened" (spOpened g) []) :
    PSs (cxOf CX0 P w g.K mg base N_behind "behind" (defScope s_behind) f cdv A outer s H E).nox (defBody s_behind) (t_behind g) :=
    (pss_cons (ps_while PassesOwn.never (pt_cmpR op_gtI (pv 1) pe_int (nomark _)) (pss_cons (ps_asg (pv 0) (pg_tup rfl (pgs_cons (pg_name (i := 2) sc_behind.nd rfl (Or.inl rfl)) (pgs_cons (pg_name (i := 3) sc_behind.nd rfl (Or.inl rfl)) (pgs_cons (pg_name (i := 4) sc_behind.nd rfl (Or.inl rfl)) pgs_nil)))))
    (pss_one (ps_if (pt_cmpR op_leI (pe_op op_mulI (pe_cl h_width hr (by omega) rfl (pa_cons (pv 2) pa_nil)) (pv 3)) (pv 1) (nomark _)) (pss_cons (ps_set (i := 1) sc_behind.nd rfl (Or.inl rfl) (pe_op op_subI (pv 1) (pe_op op_mulI (pe_cl h_width hr (by omega) rfl (pa_cons (pv 2) pa_nil)) (pv 3))))
    (pss_one (ps_set (i := 0) sc_behind.nd rfl (Or.inl rfl) (pv 4)))) (pss_cons (ps_set (i := 5) sc_behind.nd rfl (Or.inl rfl) (pe_op op_divI (pv 1) (pe_cl h_width hr (by omega) rfl (pa_cons (pv 2) pa_nil))))
    (pss_cons (ps_set (i := 1) sc_behind.nd rfl (Or.inl rfl) (pe_op op_subI (pv 1) (pe_op op_mulI (pv 5) (pe_cl h_width hr (by omega) rfl (pa_cons (pv 2) pa_nil)))))
    (pss_cons (ps_set (i := 0) sc_behind.nd rfl (Or.inl rfl) (pe_tup (pa_cons (pv 2) (pa_cons (pe_op op_subI (pv 3) (pv 5)) (pa_cons (pv 4) pa_nil)))))
    (pss_one (ps_if (pt_cmpR op_gtI (pv 1) pe_int (nomark _)) (pss_one (ps_set (i := 0) sc_behind.nd rfl (Or.inl rfl) (pe_cl h_opened hr (by omega) rfl (pa_cons (pv 2) (pa_cons (pe_tup (pa_cons (pv 2) (pa_cons (pe_op op_subI (pe_op op_subI (pv 3) (pv 5)) pe_int) (pa_cons (pv 4) pa_nil)))) pa_nil))))) pss_nil)))))))))
    (pss_one (ps_ret (pv 0))))
def t_rotated (g : G) : TS :=
    (tSeq (tAsg (tIf (tTest (tOp rIsN0 (tFld g.K (tVar 0) "turned_from") (tC .non))) (tTup (tCons (tVar 0) (tCons (tC (.int 0)) tNil))) (tFld g.K (tVar 0) "turned_from")) (gTup g.K 2 (gCons (gName 2) (gCons (gName 3) gNil))))
    (tSeq (tAsg (tOp rModI (tOp rAddI (tVar 3) (tVar 1)) (tFld g.K (tVar 2) "wide")) (gName 3))
    (tSeq (tIfS (tTest (tOp rEqS (tVar 3) (tC (.int 0)))) (tRet (tVar 2)) tNext)
    (tSeq (tAsg (tCall (spJoined g) [] E0 (tCons (tCall (spPartOf g) [] E0 (tCons (tCall (spBehind g) [] E0 (tCons (tTup (tCons (tVar 2) (tCons (tC (.int 1)) (tCons (tC .non) tNil)))) (tCons (tVar 3) tNil))) (tCons (tOp rSubI (tFld g.K (tVar 2) "wide") (tVar 3)) tNil))) (tCons (tCall (spPartOf g) [] E0 (tCons (tTup (tCons (tVar 2) (tCons (tC (.int 1)) (tCons (tC .non) tNil)))) (tCons (tVar 3) tNil))) tNil))) (gName 4))
    (tRet (tMake g.part (spPartInit g) [] E0 (tCons (tFld g.K (tVar 4) "letters") (tCons (tFld g.K (tVar 4) "left") (tCons (tFld g.K (tVar 4) "right") (tCons (tFld g.K (tVar 4) "times") (tCons (tTup (tCons (tVar 2) (tCons (tVar 3) tNil))) tNil)))))))))))
theorem d_rotated {P : Program} {w : World} {mg : Str → Option Value} {base : Heap} {g : G} {A : Around} {outer : List Env} {s : Shared} {H : Hp} {E : XK} {f : Addr} {cdv : Value} (T : Txt g mg)
    (hr : Room 4 (A.deeper (envOfC "rotated" (defScope s_rotated) s.heap.objs.size f cdv)))
    (h_Part : Mkl P w g.K mg base 1 "Part" g.part (spPartInit g) [])
    (h_part_of : Cl P w g.K mg base 4 "part_of" (spPartOf g) [])
    (h_behind : Cl P w g.K mg base 2 "behind" (spBehind g) [])
    (h_joined : Cl P w g.K mg base 3 "joined" (spJoined g) []) :
    PSs (cxOf CX0 P w g.K mg base N_rotated "rotated" (defScope s_rotated) f cdv A outer s H E).nox (defBody s_rotated) (t_rotated g) :=
    (pss_cons (ps_asg (pe_ifExp (pt_cmpR op_isN (pe_fld (pv 0) rfl) pe_non (nomark _)) (pe_tup (pa_cons (pv 0) (pa_cons pe_int pa_nil))) (pe_fld (pv 0) rfl)) (pg_tup rfl (pgs_cons (pg_name (i := 2) sc_rotated.nd rfl (Or.inl rfl)) (pgs_cons (pg_name (i := 3) sc_rotated.nd rfl (Or.inl rfl)) pgs_nil))))
    (pss_cons (ps_set (i := 3) sc_rotated.nd rfl (Or.inl rfl) (pe_op op_modI (pe_op op_addI (pv 3) (pv 1)) (pe_fld (pv 2) rfl)))
    (pss_cons (ps_if (pt_cmpR op_eqS (pv 3) pe_int (nomark _)) (pss_one (ps_ret (pv 2))) pss_nil)
    (pss_cons (ps_set (i := 4) sc_rotated.nd rfl (Or.inl rfl) (pe_cl h_joined hr (by omega) rfl (pa_cons (pe_cl h_part_of hr (by omega) rfl (pa_cons (pe_cl h_behind hr (by omega) rfl (pa_cons (pe_tup (pa_cons (pv 2) (pa_cons pe_int (pa_cons pe_non pa_nil)))) (pa_cons (pv 3) pa_nil))) (pa_cons (pe_op op_subI (pe_fld (pv 2) rfl) (pv 3)) pa_nil))) (pa_cons (pe_cl h_part_of hr (by omega) rfl (pa_cons (pe_tup (pa_cons (pv 2) (pa_cons pe_int (pa_cons pe_non pa_nil)))) (pa_cons (pv 3) pa_nil))) pa_nil))))
    (pss_one (ps_ret (pe_mkl h_Part hr (by omega) rfl (pa_cons (pe_fld (pv 4) rfl) (pa_cons (pe_fld (pv 4) rfl) (pa_cons (pe_fld (pv 4) rfl) (pa_cons (pe_fld (pv 4) rfl) (pa_cons (pe_tup (pa_cons (pv 2) (pa_cons (pv 3) pa_nil))) pa_nil))))))))))))
def t_gone_by (g : G) : TS :=
    (tSeq (tWhile (tTest (tOp rGtI (tVar 1) (tC (.int 0)))) (tSeq (tAsg (tVar 0) (gTup g.K 3 (gCons (gName 2) (gCons (gName 3) (gCons (gName 4) gNil)))))
    (tIfS (tTest (tOp rLeI (tOp rMulI (tCall (spWidth g) [] E0 (tCons (tVar 2) tNil)) (tVar 3)) (tVar 1))) (tSeq (tAsg (tOp rSubI (tVar 1) (tOp rMulI (tCall (spWidth g) [] E0 (tCons (tVar 2) tNil)) (tVar 3))) (gName 1))
    (tAsg (tVar 4) (gName 0))) (tSeq (tAsg (tOp rSubI (tVar 3) (tOp rDivI (tVar 1) (tCall (spWidth g) [] E0 (tCons (tVar 2) tNil)))) (gName 3))
    (tSeq (tAsg (tOp rModI (tVar 1) (tCall (spWidth g) [] E0 (tCons (tVar 2) tNil))) (gName 1))
    (tSeq (tAsg (tTup (tCons (tVar 2) (tCons (tVar 3) (tCons (tVar 4) tNil)))) (gName 0))
    (tIfS (tAnd (tTest (tOp rGtI (tVar 1) (tC (.int 0)))) (tTest (tOp rEqS (tVar 3) (tC (.int 1))))) (tAsg (tCall (spOpened g) [] E0 (tCons (tVar 2) (tCons (tVar 4) tNil))) (gName 0)) (tIfS (tTest (tOp rGtI (tVar 1) (tC (.int 0)))) (tSeq (tAsg (tCall (spPartOf g) [] E0 (tCons (tCall (spBehind g) [] E0 (tCons (tTup (tCons (tVar 2) (tCons (tC (.int 1)) (tCons (tC .non) tNil)))) (tCons (tVar 1) tNil))) (tCons (tOp rSubI (tFld g.K (tVar 2) "wide") (tVar 1)) tNil))) (gName 5))
    (tRet (tTup (tCons (tCall (spRotated g) [] E0 (tCons (tVar 2) (tCons (tVar 1) tNil))) (tCons (tOp rSubI (tVar 3) (tC (.int 1))) (tCons (tTup (tCons (tVar 5) (tCons (tC (.int 1)) (tCons (tVar 4) tNil)))) tNil)))))) tNext))))))))
    (tRet (tVar 0)))
theorem d_gone_by {P : Program} {w : World} {mg : Str → Option Value} {base : Heap} {g : G} {A : Around} {outer : List Env} {s : Shared} {H : Hp} {E : XK} {f : Addr} {cdv : Value} (T : Txt g mg)
    (hr : Room 5 (A.deeper (envOfC "gone_by" (defScope s_gone_by) s.heap.objs.size f cdv)))
    (h_width : Cl P w g.K mg base 1 "width" (spWidth g) [])
    (h_opened : Cl P w g.K mg base 1 "opened" (spOpened g) [])
    (h_rotated : Cl P w g.K mg base 5 "rotated" (spRotated g) [])
    (h_behind : Cl P w g.K mg base 2 "behind" (spBehind g) [])
    (h_part_of : Cl P w g.K mg base 4 "part_of" (spPartOf g) []) :
    PSs (cxOf CX0 P w g.K mg base N_gone_by "gone_by" (defScope s_gone_by) f cdv A outer s H E).nox (defBody s_gone_by) (t_gone_by g) :=
    (pss_cons (ps_while PassesOwn.never (pt_cmpR op_gtI (pv 1) pe_int (nomark _)) (pss_cons (ps_asg (pv 0) (pg_tup rfl (pgs_cons (pg_name (i := 2) sc_gone_by.nd rfl (Or.inl rfl)) (pgs_cons (pg_name (i := 3) sc_gone_by.nd rfl (Or.inl rfl)) (pgs_cons (pg_name (i := 4) sc_gone_by.nd rfl (Or.inl rfl)) pgs_nil)))))
    (pss_one (ps_if (pt_cmpR op_leI (pe_op op_mulI (pe_cl h_width hr (by omega) rfl (pa_cons (pv 2) pa_nil)) (pv 3)) (pv 1) (nomark _)) (pss_cons (ps_set (i := 1) sc_gone_by.nd rfl (Or.inl rfl) (pe_op op_subI (pv 1) (pe_op op_mulI (pe_cl h_width hr (by omega) rfl (pa_cons (pv 2) pa_nil)) (pv 3))))
    (pss_one (ps_set (i := 0) sc_gone_by.nd rfl (Or.inl rfl) (pv 4)))) (pss_cons (ps_set (i := 3) sc_gone_by.nd rfl (Or.inl rfl) (pe_op op_subI (pv 3) (pe_op op_divI (pv 1) (pe_cl h_width hr (by omega) rfl (pa_cons (pv 2) pa_nil)))))
    (pss_cons (ps_set (i := 1) sc_gone_by.nd rfl (Or.inl rfl) (pe_op op_modI (pv 1) (pe_cl h_width hr (by omega) rfl (pa_cons (pv 2) pa_nil))))
    (pss_cons (ps_set (i := 0) sc_gone_by.nd rfl (Or.inl rfl) (pe_tup (pa_cons (pv 2) (pa_cons (pv 3) (pa_cons (pv 4) pa_nil)))))
    (pss_one (ps_if (PW.pt (pw_and (pt_cmpR op_gtI (pv 1) pe_int (nomark _)) (pw_and1 (pt_cmpR op_eqS (pv 3) pe_int (nomark _))))) (pss_one (ps_set (i := 0) sc_gone_by.nd rfl (Or.inl rfl) (pe_cl h_opened hr (by omega) rfl (pa_cons (pv 2) (pa_cons (pv 4) pa_nil))))) (pss_one (ps_if (pt_cmpR op_gtI (pv 1) pe_int (nomark _)) (pss_cons (ps_set (i := 5) sc_gone_by.nd rfl (Or.inl rfl) (pe_cl h_part_of hr (by omega) rfl (pa_cons (pe_cl h_behind hr (by omega) rfl (pa_cons (pe_tup (pa_cons (pv 2) (pa_cons pe_int (pa_cons pe_non pa_nil)))) (pa_cons (pv 1) pa_nil))) (pa_cons (pe_op op_subI (pe_fld (pv 2) rfl) (pv 1)) pa_nil))))
    (pss_one (ps_ret (pe_tup (pa_cons (pe_cl h_rotated hr (by omega) rfl (pa_cons (pv 2) (pa_cons (pv 1) pa_nil))) (pa_cons (pe_op op_subI (pv 3) pe_int) (pa_cons (pe_tup (pa_cons (pv 5) (pa_cons pe_int (pa_cons (pv 4) pa_nil)))) pa_nil))))))) pss_nil)))))))))))
    (pss_one (ps_ret (pv 0))))
def t_alike_for (g : G) (n : Nat) : TS :=
    (tSeq (tAsg (tOp rAddI (tFld g.K (tVar 0) "wide") (tFld g.K (tVar 1) "wide")) (gName 2))
    (tSeq (tIfS (tTest (tOp rGtI (tFld g.K (tVar 1) "wide") (tFld g.K (tVar 0) "wide"))) (tRet (tCall (spAgreement g n) [] E0 (tCons (tTup (tCons (tVar 0) (tCons (tVar 2) (tCons (tC .non) tNil)))) (tCons (tCall (spOpened g) [] E0 (tCons (tVar 1) (tCons (tTup (tCons (tVar 1) (tCons (tVar 2) (tCons (tC .non) tNil)))) tNil))) (tCons (tVar 2) tNil))))) tNext)
    (tRet (tCall (spAgreement g n) [] E0 (tCons (tCall (spOpened g) [] E0 (tCons (tVar 0) (tCons (tTup (tCons (tVar 0) (tCons (tVar 2) (tCons (tC .non) tNil)))) tNil))) (tCons (tTup (tCons (tVar 1) (tCons (tVar 2) (tCons (tC .non) tNil)))) (tCons (tVar 2) tNil)))))))
theorem d_alike_for {P : Program} {w : World} {mg : Str → Option Value} {base : Heap} {g : G} {n : Nat} {A : Around} {outer : List Env} {s : Shared} {H : Hp} {E : XK} {f : Addr} {cdv : Value} (T : Txt g mg)
    (hr : Room (8 + 2 * n) (A.deeper (envOfC "alike_for" (defScope s_alike_for) s.heap.objs.size f cdv)))
    (h_opened : Cl P w g.K mg base 1 "opened" (spOpened g) [])
    (h_agreement : Cl P w g.K mg base (8 + 2 * n) "agreement" (spAgreement g n) []) :
    PSs (cxOf CX0 P w g.K mg base N_alike_for "alike_for" (defScope s_alike_for) f cdv A outer s H E).nox (defBody s_alike_for) (t_alike_for g n) :=
    (pss_cons (ps_set (i := 2) sc_alike_for.nd rfl (Or.inl rfl) (pe_op op_addI (pe_fld (pv 0) rfl) (pe_fld (pv 1) rfl)))
    (pss_cons (ps_if (pt_cmpR op_gtI (pe_fld (pv 1) rfl) (pe_fld (pv 0) rfl) (nomark _)) (pss_one (ps_ret (pe_cl h_agreement hr (by omega) rfl (pa_cons (pe_tup (pa_cons (pv 0) (pa_cons (pv 2) (pa_cons pe_non pa_nil)))) (pa_cons (pe_cl h_opened hr (by omega) rfl (pa_cons (pv 1) (pa_cons (pe_tup (pa_cons (pv 1) (pa_cons (pv 2) (pa_cons pe_non pa_nil)))) pa_nil))) (pa_cons (pv 2) pa_nil)))))) pss_nil)
    (pss_one (ps_ret (pe_cl h_agreement hr (by omega) rfl (pa_cons (pe_cl h_opened hr (by omega) rfl (pa_cons (pv 0) (pa_cons (pe_tup (pa_cons (pv 0) (pa_cons (pv 2) (pa_cons pe_non pa_nil)))) pa_nil))) (pa_cons (pe_tup (pa_cons (pv 1) (pa_cons (pv 2) (pa_cons pe_non pa_nil)))) (pa_cons (pv 2) pa_nil))))))))
def t_alike_ahead (g : G) (n : Nat) : TS :=
    (tSeq (tAsg (tVar 0) (gTup g.K 3 (gCons (gName 3) (gCons (gName 4) (gCons (gName 5) gNil)))))
    (tSeq (tAsg (tVar 1) (gTup g.K 3 (gCons (gName 6) (gCons (gName 7) (gCons (gName 8) gNil)))))
    (tSeq (tIfS (tOr (tB (tCB (rIsi g.K) (tCons (tVar 3) (tCons (tC (.ty "tuple")) tNil)))) (tAnd (tNot (tB (tCB (rIsi g.K) (tCons (tVar 6) (tCons (tC (.ty "tuple")) tNil))))) (tTest (tOp rGtI (tFld g.K (tVar 6) "wide") (tFld g.K (tVar 3) "wide"))))) (tRet (tCall (spAgreement g n) [] E0 (tCons (tVar 0) (tCons (tCall (spOpened g) [] E0 (tCons (tVar 6) (tCons (tTup (tCons (tVar 6) (tCons (tOp rSubI (tVar 7) (tC (.int 1))) (tCons (tVar 8) tNil)))) tNil))) (tCons (tVar 2) tNil))))) tNext)
    (tRet (tCall (spAgreement g n) [] E0 (tCons (tCall (spOpened g) [] E0 (tCons (tVar 3) (tCons (tTup (tCons (tVar 3) (tCons (tOp rSubI (tVar 4) (tC (.int 1))) (tCons (tVar 5) tNil)))) tNil))) (tCons (tVar 1) (tCons (tVar 2) tNil))))))))
theorem d_alike_ahead {P : Program} {w : World} {mg : Str → Option Value} {base : Heap} {g : G} {n : Nat} {A : Around} {outer : List Env} {s : Shared} {H : Hp} {E : XK} {f : Addr} {cdv : Value} (T : Txt g mg)
    (hr : Room (8 + 2 * n) (A.deeper (envOfC "alike_ahead" (defScope s_alike_ahead) s.heap.objs.size f cdv)))
    (h_opened : Cl P w g.K mg base 1 "opened" (spOpened g) [])
    (h_agreement : Cl P w g.K mg base (8 + 2 * n) "agreement" (spAgreement g n) []) :
    PSs (cxOf CX0 P w g.K mg base N_alike_ahead "alike_ahead" (defScope s_alike_ahead) f cdv A outer s H E).nox (defBody s_alike_ahead) (t_alike_ahead g n) :=
    (pss_cons (ps_asg (pv 0) (pg_tup rfl (pgs_cons (pg_name (i := 3) sc_alike_ahead.nd rfl (Or.inl rfl)) (pgs_cons (pg_name (i := 4) sc_alike_ahead.nd rfl (Or.inl rfl)) (pgs_cons (pg_name (i := 5) sc_alike_ahead.nd rfl (Or.inl rfl)) pgs_nil)))))
    (pss_cons (ps_asg (pv 1) (pg_tup rfl (pgs_cons (pg_name (i := 6) sc_alike_ahead.nd rfl (Or.inl rfl)) (pgs_cons (pg_name (i := 7) sc_alike_ahead.nd rfl (Or.inl rfl)) (pgs_cons (pg_name (i := 8) sc_alike_ahead.nd rfl (Or.inl rfl)) pgs_nil)))))
    (pss_cons (ps_if (PW.pt (pw_or (pt_val (pe_callB call_isi (by rfl) T.n_isinstance (by decide +kernel) (pa_cons (pv 3) (pa_cons (pe_bltn (v := .ty "tuple") (by rfl) T.n_tuple (by decide +kernel) rfl) pa_nil)))) (pw_or1 (PW.pt (pw_and (pt_not (pt_val (pe_callB call_isi (by rfl) T.n_isinstance (by decide +kernel) (pa_cons (pv 6) (pa_cons (pe_bltn (v := .ty "tuple") (by rfl) T.n_tuple (by decide +kernel) rfl) pa_nil))))) (pw_and1 (pt_cmpR op_gtI (pe_fld (pv 6) rfl) (pe_fld (pv 3) rfl) (nomark _)))))))) (pss_one (ps_ret (pe_cl h_agreement hr (by omega) rfl (pa_cons (pv 0) (pa_cons (pe_cl h_opened hr (by omega) rfl (pa_cons (pv 6) (pa_cons (pe_tup (pa_cons (pv 6) (pa_cons (pe_op op_subI (pv 7) pe_int) (pa_cons (pv 8) pa_nil)))) pa_nil))) (pa_cons (pv 2) pa_nil)))))) pss_nil)
    (pss_one (ps_ret (pe_cl h_agreement hr (by omega) rfl (pa_cons (pe_cl h_opened hr (by omega) rfl (pa_cons (pv 3) (pa_cons (pe_tup (pa_cons (pv 3) (pa_cons (pe_op op_subI (pv 4) pe_int) (pa_cons (pv 5) pa_nil)))) pa_nil))) (pa_cons (pv 1) (pa_cons (pv 2) pa_nil)))))))))
def t_run_ahead (g : G) : TS :=
    (tSeq (tPar 2 0 (tCons (tC (.int 0)) (tCons (tCall (spFirstUnit g) [] E0 (tCons (tVar 0) tNil)) tNil)))
    (tSeq (tWhile (tAnd (tTest (tOp rLtI (tVar 2) (tVar 1))) (tAnd (tTest (tOp rNotN0 (tVar 0) (tC .non))) (tB (tCB (rIsi g.K) (tCons (tOp (rIxT g.K) (tVar 0) (tC (.int 0))) (tCons (tC (.ty "tuple")) tNil)))))) (tPar 2 0 (tCons (tOp rAddI (tVar 2) (tC (.int 1))) (tCons (tCall (spFirstUnit g) [] E0 (tCons (tOp (rIxT g.K) (tVar 0) (tC (.int 2))) tNil)) tNil))))
    (tRet (tVar 2))))
theorem d_run_ahead {P : Program} {w : World} {mg : Str → Option Value} {base : Heap} {g : G} {A : Around} {outer : List Env} {s : Shared} {H : Hp} {E : XK} {f : Addr} {cdv : Value} (T : Txt g mg)
    (hr : Room 2 (A.deeper (envOfC "run_ahead" (defScope s_run_ahead) s.heap.objs.size f cdv)))
    (h_first_unit : Cl P w g.K mg base 2 "first_unit" (spFirstUnit g) []) :
    PSs (cxOf CX0 P w g.K mg base N_run_ahead "run_ahead" (defScope s_run_ahead) f cdv A outer s H E).nox (defBody s_run_ahead) (t_run_ahead g) :=
    (pss_cons (ps_par (i := 2) (j := 0) rfl sc_run_ahead.nd rfl rfl (by decide) rfl rfl (pa_cons pe_int (pa_cons (pe_cl h_first_unit hr (by omega) rfl (pa_cons (pv 0) pa_nil)) pa_nil)) (by rfl))
    (pss_cons (ps_while PassesOwn.never (PW.pt (pw_and (pt_cmpR op_ltI (pv 2) (pv 1) (nomark _)) (pw_and (pt_cmpR op_notN (pv 0) pe_non (nomark _)) (pw_and1 (pt_val (pe_callB call_isi (by rfl) T.n_isinstance (by decide +kernel) (pa_cons (pe_ix ix_tup (pv 0) pe_int (fun _ _ => rfl)) (pa_cons (pe_bltn (v := .ty "tuple") (by rfl) T.n_tuple (by decide +kernel) rfl) pa_nil)))))))) (pss_one (ps_par (i := 2) (j := 0) rfl sc_run_ahead.nd rfl rfl (by decide) rfl rfl (pa_cons (pe_op op_addI (pv 2) pe_int) (pa_cons (pe_cl h_first_unit hr (by omega) rfl (pa_cons (pe_ix ix_tup (pv 0) pe_int (fun _ _ => rfl)) pa_nil)) pa_nil)) (by rfl))))
    (pss_one (ps_ret (pv 2)))))
def t_agreement (g : G) (n : Nat) : TS :=
    (tSeq (tAsg (tC (.int 0)) (gName 3))
    (tSeq (tWhile (tTest (tOp rLtI (tVar 3) (tVar 2))) (tSeq (tPar 0 1 (tCons (tCall (spFirstUnit g) [] E0 (tCons (tVar 0) tNil)) (tCons (tCall (spFirstUnit g) [] E0 (tCons (tVar 1) tNil)) tNil)))
    (tSeq (tIfS (tOr (tTest (tOp rIsN0 (tVar 0) (tC .non))) (tTest (tOp rIsN0 (tVar 1) (tC .non)))) (tRet (tVar 3)) tNext)
    (tSeq (tAsg (tVar 0) (gTup g.K 3 (gCons (gName 4) (gCons (gName 5) (gCons (gName 6) gNil)))))
    (tSeq (tAsg (tVar 1) (gTup g.K 3 (gCons (gName 7) (gCons (gName 8) (gCons (gName 9) gNil)))))
    (tSeq (tAsg (tCB rMin3 (tCons (tOp rMulI (tVar 5) (tCall (spWidth g) [] E0 (tCons (tVar 4) tNil))) (tCons (tOp rMulI (tVar 8) (tCall (spWidth g) [] E0 (tCons (tVar 7) tNil))) (tCons (tOp rSubI (tVar 2) (tVar 3)) tNil)))) (gName 10))
    (Evl.tCut (tIfS (tAnd (tB (tCB (rIsi g.K) (tCons (tVar 4) (tCons (tC (.ty "tuple")) tNil)))) (tB (tCB (rIsi g.K) (tCons (tVar 7) (tCons (tC (.ty "tuple")) tNil))))) (tPar 11 12 (tCons (tCB rInt1 (tCons (tOp (rEqD g.K) (tVar 4) (tVar 7)) tNil)) (tCons (tC (.int 1)) tNil))) (tIfS (tOr (tB (tCB (rIsi g.K) (tCons (tVar 4) (tCons (tC (.ty "tuple")) tNil)))) (tB (tCB (rIsi g.K) (tCons (tVar 7) (tCons (tC (.ty "tuple")) tNil))))) (tSeq (tAsg (tIf (tB (tCB (rIsi g.K) (tCons (tVar 4) (tCons (tC (.ty "tuple")) tNil)))) (tTup (tCons (tVar 0) (tCons (tVar 7) tNil))) (tTup (tCons (tVar 1) (tCons (tVar 4) tNil)))) (gTup g.K 2 (gCons (gName 13) (gCons (gName 14) gNil))))
    (tSeq (tAsg (tCall (spRunAhead g) [] E0 (tCons (tVar 13) (tCons (tCB rMin2 (tCons (tFld g.K (tVar 14) "wide") (tCons (tOp rSubI (tVar 2) (tVar 3)) tNil))) tNil))) (gName 10))
    (tPar 11 12 (tCons (tCall (spAlikeAhead g n) [] E0 (tCons (tVar 0) (tCons (tVar 1) (tCons (tVar 10) tNil)))) (tCons (tVar 10) tNil))))) (tIfS (tTest (tOp rLtI (tVar 10) (tOp rAddI (tCall (spWidth g) [] E0 (tCons (tVar 4) tNil)) (tCall (spWidth g) [] E0 (tCons (tVar 7) tNil))))) (tPar 11 12 (tCons (tCall (spAlikeAhead g n) [] E0 (tCons (tVar 0) (tCons (tVar 1) (tCons (tVar 10) tNil)))) (tCons (tVar 10) tNil))) (tPar 11 12 (tCons (tCall (spAlikeFor g n) [] E0 (tCons (tVar 4) (tCons (tVar 7) tNil))) (tCons (tOp rAddI (tCall (spWidth g) [] E0 (tCons (tVar 4) tNil)) (tCall (spWidth g) [] E0 (tCons (tVar 7) tNil))) tNil))))))
    (tSeq (tIfS (tTest (tOp rLtI (tVar 11) (tVar 12))) (tRet (tOp rAddI (tVar 3) (tVar 11))) tNext)
    (tSeq (tAsg (tOp rAddI (tVar 3) (tVar 10)) (gName 3))
    (tPar 0 1 (tCons (tCall (spGoneBy g) [] E0 (tCons (tVar 0) (tCons (tVar 10) tNil))) (tCons (tCall (spGoneBy g) [] E0 (tCons (tVar 1) (tCons (tVar 10) tNil))) tNil))))))))))))
    (tRet (tVar 3))))
theorem d_agreement {P : Program} {w : World} {mg : Str → Option Value} {base : Heap} {g : G} {n : Nat} {A : Around} {outer : List Env} {s : Shared} {H : Hp} {E : XK} {f : Addr} {cdv : Value} (T : Txt g mg)
    (hr : Room (7 + 2 * n) (A.deeper (envOfC "agreement" (defScope s_agreement) s.heap.objs.size f cdv)))
    (h_gone_by : Cl P w g.K mg base 6 "gone_by" (spGoneBy g) [])
    (h_alike_ahead : Cl P w g.K mg base (7 + 2 * n) "alike_ahead" (spAlikeAhead g n) [])
    (h_run_ahead : Cl P w g.K mg base 3 "run_ahead" (spRunAhead g) [])
    (h_width : Cl P w g.K mg base 1 "width" (spWidth g) [])
    (h_alike_for : Cl P w g.K mg base (7 + 2 * n) "alike_for" (spAlikeFor g n) [])
    (h_first_unit : Cl P w g.K mg base 2 "first_unit" (spFirstUnit g) []) :
    PSs (cxOf CX0 P w g.K mg base N_agreement "agreement" (defScope s_agreement) f cdv A outer s H E).nox (defBody s_agreement) (t_agreement g n) :=
    (pss_cons (ps_set (i := 3) sc_agreement.nd rfl (Or.inl rfl) pe_int)
    (pss_cons (ps_while PassesOwn.never (pt_cmpR op_ltI (pv 3) (pv 2) (nomark _)) (pss_cons (ps_par (i := 0) (j := 1) rfl sc_agreement.nd rfl rfl (by decide) rfl rfl (pa_cons (pe_cl h_first_unit hr (by omega) rfl (pa_cons (pv 0) pa_nil)) (pa_cons (pe_cl h_first_unit hr (by omega) rfl (pa_cons (pv 1) pa_nil)) pa_nil)) (by rfl))
    (pss_cons (ps_if (PW.pt (pw_or (pt_cmpR op_isN (pv 0) pe_non (nomark _)) (pw_or1 (pt_cmpR op_isN (pv 1) pe_non (nomark _))))) (pss_one (ps_ret (pv 3))) pss_nil)
    (pss_cons (ps_asg (pv 0) (pg_tup rfl (pgs_cons (pg_name (i := 4) sc_agreement.nd rfl (Or.inl rfl)) (pgs_cons (pg_name (i := 5) sc_agreement.nd rfl (Or.inl rfl)) (pgs_cons (pg_name (i := 6) sc_agreement.nd rfl (Or.inl rfl)) pgs_nil)))))
    (pss_cons (ps_asg (pv 1) (pg_tup rfl (pgs_cons (pg_name (i := 7) sc_agreement.nd rfl (Or.inl rfl)) (pgs_cons (pg_name (i := 8) sc_agreement.nd rfl (Or.inl rfl)) (pgs_cons (pg_name (i := 9) sc_agreement.nd rfl (Or.inl rfl)) pgs_nil)))))
    (pss_cons (ps_set (i := 10) sc_agreement.nd rfl (Or.inl rfl) (pe_callB (cr_min3I rfl) (by rfl) T.n_min (by decide +kernel) (pa_cons (pe_op op_mulI (pv 5) (pe_cl h_width hr (by omega) rfl (pa_cons (pv 4) pa_nil))) (pa_cons (pe_op op_mulI (pv 8) (pe_cl h_width hr (by omega) rfl (pa_cons (pv 7) pa_nil))) (pa_cons (pe_op op_subI (pv 2) (pv 3)) pa_nil)))))
    (Evl.pss_cut (ps_if (PW.pt (pw_and (pt_val (pe_callB call_isi (by rfl) T.n_isinstance (by decide +kernel) (pa_cons (pv 4) (pa_cons (pe_bltn (v := .ty "tuple") (by rfl) T.n_tuple (by decide +kernel) rfl) pa_nil)))) (pw_and1 (pt_val (pe_callB call_isi (by rfl) T.n_isinstance (by decide +kernel) (pa_cons (pv 7) (pa_cons (pe_bltn (v := .ty "tuple") (by rfl) T.n_tuple (by decide +kernel) rfl) pa_nil))))))) (pss_one (ps_par (i := 11) (j := 12) rfl sc_agreement.nd rfl rfl (by decide) rfl rfl (pa_cons (pe_callTy call_int1 (by rfl) T.n_int (by decide +kernel) (pa_cons (pe_cmpR (op_eqD hr.units) (pv 4) (pv 7) (nomark _)) pa_nil)) (pa_cons pe_int pa_nil)) (by rfl))) (pss_one (ps_if (PW.pt (pw_or (pt_val (pe_callB call_isi (by rfl) T.n_isinstance (by decide +kernel) (pa_cons (pv 4) (pa_cons (pe_bltn (v := .ty "tuple") (by rfl) T.n_tuple (by decide +kernel) rfl) pa_nil)))) (pw_or1 (pt_val (pe_callB call_isi (by rfl) T.n_isinstance (by decide +kernel) (pa_cons (pv 7) (pa_cons (pe_bltn (v := .ty "tuple") (by rfl) T.n_tuple (by decide +kernel) rfl) pa_nil))))))) (pss_cons (ps_asg (pe_ifExp (pt_val (pe_callB call_isi (by rfl) T.n_isinstance (by decide +kernel) (pa_cons (pv 4) (pa_cons (pe_bltn (v := .ty "tuple") (by rfl) T.n_tuple (by decide +kernel) rfl) pa_nil)))) (pe_tup (pa_cons (pv 0) (pa_cons (pv 7) pa_nil))) (pe_tup (pa_cons (pv 1) (pa_cons (pv 4) pa_nil)))) (pg_tup rfl (pgs_cons (pg_name (i := 13) sc_agreement.nd rfl (Or.inl rfl)) (pgs_cons (pg_name (i := 14) sc_agreement.nd rfl (Or.inl rfl)) pgs_nil))))
    (pss_cons (ps_set (i := 10) sc_agreement.nd rfl (Or.inl rfl) (pe_cl h_run_ahead hr (by omega) rfl (pa_cons (pv 13) (pa_cons (pe_callB (cr_min2 rfl) (by rfl) T.n_min (by decide +kernel) (pa_cons (pe_fld (pv 14) rfl) (pa_cons (pe_op op_subI (pv 2) (pv 3)) pa_nil))) pa_nil))))
    (pss_one (ps_par (i := 11) (j := 12) rfl sc_agreement.nd rfl rfl (by decide) rfl rfl (pa_cons (pe_cl h_alike_ahead hr (by omega) rfl (pa_cons (pv 0) (pa_cons (pv 1) (pa_cons (pv 10) pa_nil)))) (pa_cons (pv 10) pa_nil)) (by rfl))))) (pss_one (ps_if (pt_cmpR op_ltI (pv 10) (pe_op op_addI (pe_cl h_width hr (by omega) rfl (pa_cons (pv 4) pa_nil)) (pe_cl h_width hr (by omega) rfl (pa_cons (pv 7) pa_nil))) (nomark _)) (pss_one (ps_par (i := 11) (j := 12) rfl sc_agreement.nd rfl rfl (by decide) rfl rfl (pa_cons (pe_cl h_alike_ahead hr (by omega) rfl (pa_cons (pv 0) (pa_cons (pv 1) (pa_cons (pv 10) pa_nil)))) (pa_cons (pv 10) pa_nil)) (by rfl))) (pss_one (ps_par (i := 11) (j := 12) rfl sc_agreement.nd rfl rfl (by decide) rfl rfl (pa_cons (pe_cl h_alike_for hr (by omega) rfl (pa_cons (pv 4) (pa_cons (pv 7) pa_nil))) (pa_cons (pe_op op_addI (pe_cl h_width hr (by omega) rfl (pa_cons (pv 4) pa_nil)) (pe_cl h_width hr (by omega) rfl (pa_cons (pv 7) pa_nil))) pa_nil)) (by rfl))))))))
    (pss_cons (ps_if (pt_cmpR op_ltI (pv 11) (pv 12) (nomark _)) (pss_one (ps_ret (pe_op op_addI (pv 3) (pv 11)))) pss_nil)
    (pss_cons (ps_set (i := 3) sc_agreement.nd rfl (Or.inl rfl) (pe_op op_addI (pv 3) (pv 10)))
    (pss_one (ps_par (i := 0) (j := 1) rfl sc_agreement.nd rfl rfl (by decide) rfl rfl (pa_cons (pe_cl h_gone_by hr (by omega) rfl (pa_cons (pv 0) (pa_cons (pv 10) pa_nil))) (pa_cons (pe_cl h_gone_by hr (by omega) rfl (pa_cons (pv 1) (pa_cons (pv 10) pa_nil))) pa_nil)) (by rfl))))))))))))
    (pss_one (ps_ret (pv 3)))))
def t_part_of (g : G) : TS :=
    (tSeq (tAsg (tMake g.part (spPartInit g) [.non] E0 (tCons (tTup tNil) (tCons (tC .non) (tCons (tC .non) (tCons (tC (.int 1)) tNil))))) (gName 2))
    (tSeq (tWhile (tTest (tOp rGtI (tVar 1) (tC (.int 0)))) (tSeq (tAsg (tVar 0) (gTup g.K 3 (gCons (gName 3) (gCons (gName 4) (gCons (gName 5) gNil)))))
    (tSeq (tAsg (tCB rMin2 (tCons (tVar 4) (tCons (tOp rDivI (tVar 1) (tCall (spWidth g) [] E0 (tCons (tVar 3) tNil))) tNil))) (gName 6))
    (tIfS (tTest (tOp rEqS (tVar 4) (tC (.int 0)))) (tAsg (tVar 5) (gName 0)) (tIfS (tTest (tOp rEqS (tVar 6) (tC (.int 0)))) (tAsg (tCall (spOpened g) [] E0 (tCons (tVar 3) (tCons (tTup (tCons (tVar 3) (tCons (tOp rSubI (tVar 4) (tC (.int 1))) (tCons (tVar 5) tNil)))) tNil))) (gName 0)) (tSeq (tAsg (tIf (tB (tCB (rIsi g.K) (tCons (tVar 3) (tCons (tC (.ty "tuple")) tNil)))) (tMake g.part (spPartInit g) [.non] E0 (tCons (tTup (tCons (tVar 3) tNil)) (tCons (tC .non) (tCons (tC .non) (tCons (tC (.int 1)) tNil))))) (tVar 3)) (gName 7))
    (tSeq (tAsg (tCall (spJoined g) [] E0 (tCons (tVar 2) (tCons (tCall (spRepeated g) [] E0 (tCons (tVar 7) (tCons (tVar 6) tNil))) tNil))) (gName 2))
    (tSeq (tAsg (tOp rSubI (tVar 1) (tOp rMulI (tVar 6) (tCall (spWidth g) [] E0 (tCons (tVar 3) tNil)))) (gName 1))
    (tAsg (tTup (tCons (tVar 3) (tCons (tOp rSubI (tVar 4) (tVar 6)) (tCons (tVar 5) tNil)))) (gName 0))))))))))
    (tRet (tVar 2))))
theorem d_part_of {P : Program} {w : World} {mg : Str → Option Value} {base : Heap} {g : G} {A : Around} {outer : List Env} {s : Shared} {H : Hp} {E : XK} {f : Addr} {cdv : Value} (T : Txt g mg)
    (hr : Room 3 (A.deeper (envOfC "part_of" (defScope s_part_of) s.heap.objs.size f cdv)))
    (h_opened : Cl P w g.K mg base 1 "opened" (spOpened g) [])
    (h_width : Cl P w g.K mg base 1 "width" (spWidth g) [])
    (h_repeated : Cl P w g.K mg base 3 "repeated" (spRepeated g) [])
    (h_joined : Cl P w g.K mg base 3 "joined" (spJoined g) [])
    (h_Part_d : Mkl P w g.K mg base 1 "Part" g.part (spPartInit g) [.non]) :
    PSs (cxOf CX0 P w g.K mg base N_part_of "part_of" (defScope s_part_of) f cdv A outer s H E).nox (defBody s_part_of) (t_part_of g) :=
    (pss_cons (ps_set (i := 2) sc_part_of.nd rfl (Or.inl rfl) (pe_mkl h_Part_d hr (by omega) rfl (pa_cons (pe_tup pa_nil) (pa_cons pe_non (pa_cons pe_non (pa_cons pe_int pa_nil))))))
    (pss_cons (ps_while PassesOwn.never (pt_cmpR op_gtI (pv 1) pe_int (nomark _)) (pss_cons (ps_asg (pv 0) (pg_tup rfl (pgs_cons (pg_name (i := 3) sc_part_of.nd rfl (Or.inl rfl)) (pgs_cons (pg_name (i := 4) sc_part_of.nd rfl (Or.inl rfl)) (pgs_cons (pg_name (i := 5) sc_part_of.nd rfl (Or.inl rfl)) pgs_nil)))))
    (pss_cons (ps_set (i := 6) sc_part_of.nd rfl (Or.inl rfl) (pe_callB (cr_min2 rfl) (by rfl) T.n_min (by decide +kernel) (pa_cons (pv 4) (pa_cons (pe_op op_divI (pv 1) (pe_cl h_width hr (by omega) rfl (pa_cons (pv 3) pa_nil))) pa_nil))))
    (pss_one (ps_if (pt_cmpR op_eqS (pv 4) pe_int (nomark _)) (pss_one (ps_set (i := 0) sc_part_of.nd rfl (Or.inl rfl) (pv 5))) (pss_one (ps_if (pt_cmpR op_eqS (pv 6) pe_int (nomark _)) (pss_one (ps_set (i := 0) sc_part_of.nd rfl (Or.inl rfl) (pe_cl h_opened hr (by omega) rfl (pa_cons (pv 3) (pa_cons (pe_tup (pa_cons (pv 3) (pa_cons (pe_op op_subI (pv 4) pe_int) (pa_cons (pv 5) pa_nil)))) pa_nil))))) (pss_cons (ps_set (i := 7) sc_part_of.nd rfl (Or.inl rfl) (pe_ifExp (pt_val (pe_callB call_isi (by rfl) T.n_isinstance (by decide +kernel) (pa_cons (pv 3) (pa_cons (pe_bltn (v := .ty "tuple") (by rfl) T.n_tuple (by decide +kernel) rfl) pa_nil)))) (pe_mkl h_Part_d hr (by omega) rfl (pa_cons (pe_tup (pa_cons (pv 3) pa_nil)) (pa_cons pe_non (pa_cons pe_non (pa_cons pe_int pa_nil))))) (pv 3)))
    (pss_cons (ps_set (i := 2) sc_part_of.nd rfl (Or.inl rfl) (pe_cl h_joined hr (by omega) rfl (pa_cons (pv 2) (pa_cons (pe_cl h_repeated hr (by omega) rfl (pa_cons (pv 7) (pa_cons (pv 6) pa_nil))) pa_nil))))
    (pss_cons (ps_set (i := 1) sc_part_of.nd rfl (Or.inl rfl) (pe_op op_subI (pv 1) (pe_op op_mulI (pv 6) (pe_cl h_width hr (by omega) rfl (pa_cons (pv 3) pa_nil)))))
    (pss_one (ps_set (i := 0) sc_part_of.nd rfl (Or.inl rfl) (pe_tup (pa_cons (pv 3) (pa_cons (pe_op op_subI (pv 4) (pv 6)) (pa_cons (pv 5) pa_nil))))))))))))))))
    (pss_one (ps_ret (pv 2)))))
def t_check_index (g : G) : TS :=
    (tIfS (tNot (tB (tCall spIsBetween [] E0 (tCons (tVar 0) (tCons (tVar 1) (tCons (tVar 2) tNil)))))) tNever tNext)
theorem d_check_index {P : Program} {w : World} {mg : Str → Option Value} {base : Heap} {g : G} {A : Around} {outer : List Env} {s : Shared} {H : Hp} {E : XK} {f : Addr} {cdv : Value} (T : Txt g mg)
    (hr : Room 2 (A.deeper (envOfC "check_index" (defScope s_check_index) s.heap.objs.size f cdv)))
    (h_is_between : Cl P w g.K mg base 2 "is_between" spIsBetween []) :
    PSs (cxOf CX0 P w g.K mg base N_check_index "check_index" (defScope s_check_index) f cdv A outer s H E).nox (defBody s_check_index) (t_check_index g) :=
    (pss_one (ps_if (pt_not (pt_val (pe_cl h_is_between hr (by omega) rfl (pa_cons (pv 0) (pa_cons (pv 1) (pa_cons (pv 2) pa_nil)))))) (pss_one ps_never) pss_nil))
def t_Made_init (g : G) : TS :=
    (tSeq (sFld g.K (tVar 0) (tVar 1) "part")
    (tSeq (sFld g.K (tVar 0) (tVar 2) "nesting")
    (sFld g.K (tVar 0) (tVar 3) "pieces")))
theorem d_Made_init {P : Program} {w : World} {mg : Str → Option Value} {base : Heap} {g : G} {A : Around} {outer : List Env} {s : Shared} {H : Hp} {E : XK} {f : Addr} {cdv : Value} (T : Txt g mg)
    (hr : Room 0 (A.deeper (envOfC "Made.__init__" (defScope s_Made_init) s.heap.objs.size f cdv))) :
    PSs (cxOf CX0 P w g.K mg base N_Made_init "Made.__init__" (defScope s_Made_init) f cdv A outer s H E).nox (defBody s_Made_init) (t_Made_init g) :=
    (pss_cons (ps_fld (pv 0) (pv 1) rfl)
    (pss_cons (ps_fld (pv 0) (pv 2) rfl)
    (pss_one (ps_fld (pv 0) (pv 3) rfl))))
def t_Word_init (g : G) : TS :=
    (tIfS (tB (tCB (rIsi g.K) (tCons (tVar 1) (tCons (tC (.ref g.made)) tNil)))) (tSeq (sFld g.K (tVar 0) (tFld g.K (tVar 1) "part") "part")
    (tSeq (sFld g.K (tVar 0) (tFld g.K (tVar 1) "nesting") "nesting")
    (sFld g.K (tVar 0) (tFld g.K (tVar 1) "pieces") "pieces"))) (tSeq (tIfS (tOr (tNot (tB (tCB (rIsi g.K) (tCons (tVar 1) (tCons (tC (.ty "list")) tNil))))) (tNot (tB (tCB (rAll g.K) (tCons (tLc (iList g.K (tVar 1)) (gName 3) tYes (tCall spIsEntry [] E0 (tCons (tVar 3) tNil)) [3]) tNil))))) tNever tNext)
    (tSeq (sFld g.K (tVar 0) (tC (.int 0)) "nesting")
    (tSeq (sFld g.K (tVar 0) (tC (.int 1)) "pieces")
    (tSeq (sFld g.K (tVar 0) (tMake g.part (spPartInit g) [.non] E0 (tCons (tTup tNil) (tCons (tC .non) (tCons (tC .non) (tCons (tC (.int 1)) tNil))))) "part")
    (tFor (iRng3 (tCons (tC (.int 0)) (tCons (tCB (rLenS g.K) (tCons (tVar 1) tNil)) (tCons (tC (.int 60)) tNil)))) (gName 2) (sFld g.K (tVar 0) (tCall (spJoined g) [] E0 (tCons (tFld g.K (tVar 0) "part") (tCons (tMake g.part (spPartInit g) [.non] E0 (tCons (tCB (rTupOf g.K) (tCons (tSl (rSlL g.K) (tVar 1) (tPart (tVar 2)) (tPart (tOp rAddI (tVar 2) (tC (.int 60))))) tNil)) (tCons (tC .non) (tCons (tC .non) (tCons (tC (.int 1)) tNil))))) tNil))) "part")))))))
theorem d_Word_init {P : Program} {w : World} {mg : Str → Option Value} {base : Heap} {g : G} {A : Around} {outer : List Env} {s : Shared} {H : Hp} {E : XK} {f : Addr} {cdv : Value} (T : Txt g mg)
    (hr : Room 3 (A.deeper (envOfC "Word.__init__" (defScope s_Word_init) s.heap.objs.size f cdv)))
    (h_Part_d : Mkl P w g.K mg base 1 "Part" g.part (spPartInit g) [.non])
    (h_joined : Cl P w g.K mg base 3 "joined" (spJoined g) [])
    (h_is_entry : Cl P w g.K mg base 2 "is_entry" spIsEntry []) :
    PSs (cxOf CX0 P w g.K mg base N_Word_init "Word.__init__" (defScope s_Word_init) f cdv A outer s H E).nox (defBody s_Word_init) (t_Word_init g) :=
    (pss_one (ps_if (pt_val (pe_callB call_isi (by rfl) T.n_isinstance (by decide +kernel) (pa_cons (pv 1) (pa_cons (pe_gc rfl T.c_Made) pa_nil)))) (pss_cons (ps_fld (pv 0) (pe_fld (pv 1) rfl) rfl)
    (pss_cons (ps_fld (pv 0) (pe_fld (pv 1) rfl) rfl)
    (pss_one (ps_fld (pv 0) (pe_fld (pv 1) rfl) rfl)))) (pss_cons (ps_if (PW.pt (pw_or (pt_not (pt_val (pe_callB call_isi (by rfl) T.n_isinstance (by decide +kernel) (pa_cons (pv 1) (pa_cons (pe_bltn (v := .ty "list") (by rfl) T.n_list (by decide +kernel) rfl) pa_nil))))) (pw_or1 (pt_not (pt_val (pe_callB (cr_all rfl) (by rfl) T.n_all (by decide +kernel) (pa_cons (pe_lc (own := [("entry", 3)]) (g := gName 3) (tt := tYes) rfl sc_Word_init.nd (pi_list (pv 1)) (blkOk_by (N := N_Word_init) (sc := defScope s_Word_init) (by decide +kernel)) (fun _ _ _ _ _ => pg_name (i := 3) sc_Word_init.nd rfl (Or.inl rfl)) (fun _ _ _ _ _ => pts_nil) (fun _ _ _ _ _ => (pe_cl h_is_entry hr (by omega) rfl (pa_cons (pv 3) pa_nil)))) pa_nil))))))) (pss_one ps_never) pss_nil)
    (pss_cons (ps_fld (pv 0) pe_int rfl)
    (pss_cons (ps_fld (pv 0) pe_int rfl)
    (pss_cons (ps_fld (pv 0) (pe_mkl h_Part_d hr (by omega) rfl (pa_cons (pe_tup pa_nil) (pa_cons pe_non (pa_cons pe_non (pa_cons pe_int pa_nil))))) rfl)
    (pss_one (ps_for PassesOwn.never rfl (pi_range3 rfl T.n_range (pa_cons pe_int (pa_cons (pe_callB call_len_seq (by rfl) T.n_len PySem.boot_len (pa_cons (pv 1) pa_nil)) (pa_cons (pe_gc rfl T.c_MOST_IN_ROW) pa_nil)))) (pg_name (i := 2) sc_Word_init.nd rfl (Or.inl rfl)) (pss_one (ps_fld (pv 0) (pe_cl h_joined hr (by omega) rfl (pa_cons (pe_fld (pv 0) rfl) (pa_cons (pe_mkl h_Part_d hr (by omega) rfl (pa_cons (pe_callTy call_tuple_of (by rfl) T.n_tuple (by decide +kernel) (pa_cons (pe_slice sl_list (pv 1) (po_some (pv 2)) (po_some (pe_op op_addI (pv 2) (pe_gc rfl T.c_MOST_IN_ROW)))) pa_nil)) (pa_cons pe_non (pa_cons pe_non (pa_cons pe_int pa_nil))))) pa_nil))) rfl))))))))))
def t_Word_add (g : G) : TS :=
    (tSeq (tAsg (tOp rAddI (tFld g.K (tVar 0) "pieces") (tFld g.K (tVar 1) "pieces")) (gName 2))
    (tSeq (tIfS (tTest (tOp rGtI (tVar 2) (tC (.int 1000)))) tNever tNext)
    (tRet (tMake g.word (spWordInit g) [] E0 (tCons (tMake g.made (spMadeInit g) [] E0 (tCons (tCall (spJoined g) [] E0 (tCons (tFld g.K (tVar 0) "part") (tCons (tFld g.K (tVar 1) "part") tNil))) (tCons (tCB (rMax g.K) (tCons (tLst (tCons (tFld g.K (tVar 0) "nesting") (tCons (tFld g.K (tVar 1) "nesting") tNil))) tNil)) (tCons (tVar 2) tNil)))) tNil)))))
theorem d_Word_add {P : Program} {w : World} {mg : Str → Option Value} {base : Heap} {g : G} {A : Around} {outer : List Env} {s : Shared} {H : Hp} {E : XK} {f : Addr} {cdv : Value} (T : Txt g mg)
    (hr : Room 5 (A.deeper (envOfC "Word.__add__" (defScope s_Word_add) s.heap.objs.size f cdv)))
    (h_joined : Cl P w g.K mg base 3 "joined" (spJoined g) [])
    (h_Made : Mkl P w g.K mg base 1 "Made" g.made (spMadeInit g) [])
    (h_Word : Mkl P w g.K mg base 4 "Word" g.word (spWordInit g) []) :
    PSs (cxOf CX0 P w g.K mg base N_Word_add "Word.__add__" (defScope s_Word_add) f cdv A outer s H E).nox (defBody s_Word_add) (t_Word_add g) :=
    (pss_cons (ps_set (i := 2) sc_Word_add.nd rfl (Or.inl rfl) (pe_op op_addI (pe_fld (pv 0) rfl) (pe_fld (pv 1) rfl)))
    (pss_cons (ps_if (pt_cmpR op_gtI (pv 2) (pe_gc rfl T.c_MOST_PIECES) (nomark _)) (pss_one ps_never) pss_nil)
    (pss_one (ps_ret (pe_mkl h_Word hr (by omega) rfl (pa_cons (pe_mkl h_Made hr (by omega) rfl (pa_cons (pe_cl h_joined hr (by omega) rfl (pa_cons (pe_fld (pv 0) rfl) (pa_cons (pe_fld (pv 1) rfl) pa_nil))) (pa_cons (pe_callB (cr_max rfl) (by rfl) T.n_max (by decide +kernel) (pa_cons (pe_lst (pa_cons (pe_fld (pv 0) rfl) (pa_cons (pe_fld (pv 1) rfl) pa_nil))) pa_nil)) (pa_cons (pv 2) pa_nil)))) pa_nil))))))
def t_Word_mul (g : G) : TS :=
    (tSeq (tIfS (tNot (tB (tCall spIsBetween [] E0 (tCons (tVar 1) (tCons (tC (.int 0)) (tCons (tVar 1) tNil)))))) tNever tNext)
    (tSeq (tIfS (tTest (tOp rEqS (tFld g.K (tVar 0) "nesting") (tC (.int 6)))) tNever tNext)
    (tRet (tMake g.word (spWordInit g) [] E0 (tCons (tMake g.made (spMadeInit g) [] E0 (tCons (tCall (spRepeated g) [] E0 (tCons (tFld g.K (tVar 0) "part") (tCons (tVar 1) tNil))) (tCons (tOp rAddI (tFld g.K (tVar 0) "nesting") (tC (.int 1))) (tCons (tFld g.K (tVar 0) "pieces") tNil)))) tNil)))))
theorem d_Word_mul {P : Program} {w : World} {mg : Str → Option Value} {base : Heap} {g : G} {A : Around} {outer : List Env} {s : Shared} {H : Hp} {E : XK} {f : Addr} {cdv : Value} (T : Txt g mg)
    (hr : Room 5 (A.deeper (envOfC "Word.__mul__" (defScope s_Word_mul) s.heap.objs.size f cdv)))
    (h_repeated : Cl P w g.K mg base 3 "repeated" (spRepeated g) [])
    (h_Made : Mkl P w g.K mg base 1 "Made" g.made (spMadeInit g) [])
    (h_Word : Mkl P w g.K mg base 4 "Word" g.word (spWordInit g) [])
    (h_is_between : Cl P w g.K mg base 2 "is_between" spIsBetween []) :
    PSs (cxOf CX0 P w g.K mg base N_Word_mul "Word.__mul__" (defScope s_Word_mul) f cdv A outer s H E).nox (defBody s_Word_mul) (t_Word_mul g) :=
    (pss_cons (ps_if (pt_not (pt_val (pe_cl h_is_between hr (by omega) rfl (pa_cons (pv 1) (pa_cons pe_int (pa_cons (pv 1) pa_nil)))))) (pss_one ps_never) pss_nil)
    (pss_cons (ps_if (pt_cmpR op_eqS (pe_fld (pv 0) rfl) (pe_gc rfl T.c_MOST_DEPTH) (nomark _)) (pss_one ps_never) pss_nil)
    (pss_one (ps_ret (pe_mkl h_Word hr (by omega) rfl (pa_cons (pe_mkl h_Made hr (by omega) rfl (pa_cons (pe_cl h_repeated hr (by omega) rfl (pa_cons (pe_fld (pv 0) rfl) (pa_cons (pv 1) pa_nil))) (pa_cons (pe_op op_addI (pe_fld (pv 0) rfl) pe_int) (pa_cons (pe_fld (pv 0) rfl) pa_nil)))) pa_nil))))))
def t_length (g : G) : TS :=
    (tRet (tFld g.K (tFld g.K (tVar 0) "part") "wide"))
theorem d_length {P : Program} {w : World} {mg : Str → Option Value} {base : Heap} {g : G} {A : Around} {outer : List Env} {s : Shared} {H : Hp} {E : XK} {f : Addr} {cdv : Value} (T : Txt g mg)
    (hr : Room 0 (A.deeper (envOfC "Word.length" (defScope s_length) s.heap.objs.size f cdv))) :
    PSs (cxOf CX0 P w g.K mg base N_length "Word.length" (defScope s_length) f cdv A outer s H E).nox (defBody s_length) (t_length g) :=
    (pss_one (ps_ret (pe_fld (pe_fld (pv 0) rfl) rfl)))
def t_cell (g : G) : TS :=
    (tSeq (tIfS (tTest (tOp rLtI (tVar 1) (tCB (rLenS g.K) (tCons (tVar 0) tNil)))) (tRet (tOp (rIxL g.K) (tVar 0) (tVar 1))) tNext)
    (tRet (tOp rAddI (tVar 1) (tC (.int 1)))))
theorem d_cell {P : Program} {w : World} {mg : Str → Option Value} {base : Heap} {g : G} {A : Around} {outer : List Env} {s : Shared} {H : Hp} {E : XK} {f : Addr} {cdv : Value} (T : Txt g mg)
    (hr : Room 0 (A.deeper (envOfC "_law_cell" (defScope s_cell) s.heap.objs.size f cdv))) :
    PSs (cxOf CX0 P w g.K mg base N_cell "_law_cell" (defScope s_cell) f cdv A outer s H E).nox (defBody s_cell) (t_cell g) :=
    (pss_cons (ps_if (pt_cmpR op_ltI (pv 1) (pe_callB call_len_seq (by rfl) T.n_len PySem.boot_len (pa_cons (pv 0) pa_nil)) (nomark _)) (pss_one (ps_ret (pe_ix ix_list (pv 0) (pv 1) (fun _ _ => rfl)))) pss_nil)
    (pss_one (ps_ret (pe_op op_addI (pv 1) pe_int))))
def t_digits (g : G) : TS :=
    (tSeq (tAsg (tLst tNil) (gName 2))
    (tSeq (tAsg (tC (.int 0)) (gName 3))
    (tSeq (tIfS (tTest (tOp rGeI (tVar 0) (tOp rPowI (tC (.int 10)) (tC (.int 18))))) (tAsg (tVar 0) (gName 3)) tNext)
    (tSeq (tAsg (tOp rModI (tCB rInt1 (tCons (tVar 0) tNil)) (tC (.int 2147483647))) (gName 4))
    (tSeq (tFor (iRng1 (tCons (tVar 1) tNil)) (gName 5) (tSeq (tAsg (tOp rModI (tCB rInt1 (tCons (tOp rAddI (tOp rAddI (tOp rMulI (tVar 4) (tC (.int 48271))) (tOp rMulI (tC (.int 30103)) (tVar 5))) (tC (.int 11))) tNil)) (tC (.int 2147483647))) (gName 4))
    (tSeq (tAsg (tOp rModI (tCB rInt1 (tCons (tOp rMulI (tVar 4) (tOp rAddI (tOp rDivI (tVar 4) (tC (.int 1009))) (tC (.int 69621)))) tNil)) (tC (.int 2147483629))) (gName 4))
    (tIfS (tTest (tOp rGtI (tVar 3) (tC (.int 0)))) (tSeq (tDrop (tBM g.K "list" rAppend (tVar 2) (tCons (tOp rModI (tCB rInt1 (tCons (tVar 3) tNil)) (tC (.int 1009))) tNil)))
    (tAsg (tOp rDivI (tVar 3) (tC (.int 1009))) (gName 3))) (tDrop (tBM g.K "list" rAppend (tVar 2) (tCons (tOp rModI (tCB rInt1 (tCons (tOp rDivI (tVar 4) (tC (.int 7))) tNil)) (tC (.int 1009))) tNil)))))))
    (tRet (tVar 2)))))))
theorem d_digits {P : Program} {w : World} {mg : Str → Option Value} {base : Heap} {g : G} {A : Around} {outer : List Env} {s : Shared} {H : Hp} {E : XK} {f : Addr} {cdv : Value} (T : Txt g mg)
    (hr : Room 0 (A.deeper (envOfC "_law_digits" (defScope s_digits) s.heap.objs.size f cdv))) :
    PSs (cxOf CX0 P w g.K mg base N_digits "_law_digits" (defScope s_digits) f cdv A outer s H E).nox (defBody s_digits) (t_digits g) :=
    (pss_cons (ps_set (i := 2) sc_digits.nd rfl (Or.inl rfl) (pe_lst pa_nil))
    (pss_cons (ps_set (i := 3) sc_digits.nd rfl (Or.inl rfl) pe_int)
    (pss_cons (ps_if (pt_cmpR op_geI (pv 0) (pe_op op_powI pe_int pe_int) (nomark _)) (pss_one (ps_set (i := 3) sc_digits.nd rfl (Or.inl rfl) (pv 0))) pss_nil)
    (pss_cons (ps_set (i := 4) sc_digits.nd rfl (Or.inl rfl) (pe_op op_modI (pe_callTy call_int1 (by rfl) T.n_int (by decide +kernel) (pa_cons (pv 0) pa_nil)) pe_int))
    (pss_cons (ps_for PassesOwn.never rfl (pi_range1 rfl T.n_range (pa_cons (pv 1) pa_nil)) (pg_name (i := 5) sc_digits.nd rfl (Or.inl rfl)) (pss_cons (ps_set (i := 4) sc_digits.nd rfl (Or.inl rfl) (pe_op op_modI (pe_callTy call_int1 (by rfl) T.n_int (by decide +kernel) (pa_cons (pe_op op_addI (pe_op op_addI (pe_op op_mulI (pv 4) pe_int) (pe_op op_mulI pe_int (pv 5))) pe_int) pa_nil)) pe_int))
    (pss_cons (ps_set (i := 4) sc_digits.nd rfl (Or.inl rfl) (pe_op op_modI (pe_callTy call_int1 (by rfl) T.n_int (by decide +kernel) (pa_cons (pe_op op_mulI (pv 4) (pe_op op_addI (pe_op op_divI (pv 4) pe_int) pe_int)) pa_nil)) pe_int))
    (pss_one (ps_if (pt_cmpR op_gtI (pv 3) pe_int (nomark _)) (pss_cons (ps_expr (pe_bm PySem.F.plainAttrs_list PySem.F.slot_list_append PySem.F.type_list_append mt_append (pv 2) (pa_cons (pe_op op_modI (pe_callTy call_int1 (by rfl) T.n_int (by decide +kernel) (pa_cons (pv 3) pa_nil)) pe_int) pa_nil)))
    (pss_one (ps_set (i := 3) sc_digits.nd rfl (Or.inl rfl) (pe_op op_divI (pv 3) pe_int)))) (pss_one (ps_expr (pe_bm PySem.F.plainAttrs_list PySem.F.slot_list_append PySem.F.type_list_append mt_append (pv 2) (pa_cons (pe_op op_modI (pe_callTy call_int1 (by rfl) T.n_int (by decide +kernel) (pa_cons (pe_op op_divI (pv 4) pe_int) pa_nil)) pe_int) pa_nil)))))))))
    (pss_one (ps_ret (pv 2))))))))
def t_entry (g : G) : TS :=
    (tRet (tOp (rIxL g.K) (tLst (tCons (tTup (tCons (tC (.str "emit")) (tCons (tC (.str "a")) tNil))) (tCons (tTup (tCons (tC (.str "emit")) (tCons (tC (.str "b")) tNil))) (tCons (tTup (tCons (tC (.str "final")) (tCons (tC (.str "a")) tNil))) (tCons (tTup (tCons (tC (.str "emit")) (tCons (tC .non) tNil))) tNil))))) (tOp rModI (tCB rInt1 (tCons (tVar 0) tNil)) (tC (.int 4)))))
theorem d_entry {P : Program} {w : World} {mg : Str → Option Value} {base : Heap} {g : G} {A : Around} {outer : List Env} {s : Shared} {H : Hp} {E : XK} {f : Addr} {cdv : Value} (T : Txt g mg)
    (hr : Room 0 (A.deeper (envOfC "_law_entry" (defScope s_entry) s.heap.objs.size f cdv))) :
    PSs (cxOf CX0 P w g.K mg base N_entry "_law_entry" (defScope s_entry) f cdv A outer s H E).nox (defBody s_entry) (t_entry g) :=
    (pss_one (ps_ret (pe_ix ix_list (pe_lst (pa_cons (pe_tup (pa_cons pe_str (pa_cons pe_str pa_nil))) (pa_cons (pe_tup (pa_cons pe_str (pa_cons pe_str pa_nil))) (pa_cons (pe_tup (pa_cons pe_str (pa_cons pe_str pa_nil))) (pa_cons (pe_tup (pa_cons pe_str (pa_cons pe_non pa_nil))) pa_nil))))) (pe_op op_modI (pe_callTy call_int1 (by rfl) T.n_int (by decide +kernel) (pa_cons (pv 0) pa_nil)) pe_int) (fun _ _ => rfl))))
def t_row (g : G) : TS :=
    (tRet (tLc (iList g.K (tSl (rSlL g.K) (tVar 0) tNoPart (tPart (tVar 1)))) (gName 2) tYes (tCall spEntry [] E0 (tCons (tOp (rIxL g.K) (tLst (tCons (tOp rModI (tCB rInt1 (tCons (tVar 2) tNil)) (tC (.int 2))) (tCons (tOp rModI (tCB rInt1 (tCons (tVar 2) tNil)) (tC (.int 4))) tNil))) (tCB rInt1 (tCons (tOp rGtI (tVar 2) (tC (.int 700))) tNil))) tNil)) [2]))
theorem d_row {P : Program} {w : World} {mg : Str → Option Value} {base : Heap} {g : G} {A : Around} {outer : List Env} {s : Shared} {H : Hp} {E : XK} {f : Addr} {cdv : Value} (T : Txt g mg)
    (hr : Room 1 (A.deeper (envOfC "_law_row" (defScope s_row) s.heap.objs.size f cdv)))
    (h_entry : Cl P w g.K mg base 1 "_law_entry" spEntry []) :
    PSs (cxOf CX0 P w g.K mg base N_row "_law_row" (defScope s_row) f cdv A outer s H E).nox (defBody s_row) (t_row g) :=
    (pss_one (ps_ret (pe_lc (own := [("_law_digit", 2)]) (g := gName 2) (tt := tYes) rfl sc_row.nd (pi_list (pe_slice sl_list (pv 0) po_none (po_some (pv 1)))) (blkOk_by (N := N_row) (sc := defScope s_row) (by decide +kernel)) (fun _ _ _ _ _ => pg_name (i := 2) sc_row.nd rfl (Or.inl rfl)) (fun _ _ _ _ _ => pts_nil) (fun _ _ _ _ _ => (pe_cl h_entry hr (by omega) rfl (pa_cons (pe_ix ix_list (pe_lst (pa_cons (pe_op op_modI (pe_callTy call_int1 (by rfl) T.n_int (by decide +kernel) (pa_cons (pv 2) pa_nil)) pe_int) (pa_cons (pe_op op_modI (pe_callTy call_int1 (by rfl) T.n_int (by decide +kernel) (pa_cons (pv 2) pa_nil)) pe_int) pa_nil))) (pe_callTy call_int1 (by rfl) T.n_int (by decide +kernel) (pa_cons (pe_cmpR op_gtI (pv 2) pe_int (nomark _)) pa_nil)) (fun _ _ => rfl)) pa_nil))))))
def t_cut (g : G) : TS :=
    (tSeq (tDrop (tCall spCheckIndex [] E0 (tCons (tVar 1) (tCons (tC (.int 0)) (tCons (tFld g.K (tFld g.K (tVar 0) "part") "wide") tNil)))))
    (tSeq (tDrop (tCall spCheckIndex [] E0 (tCons (tVar 2) (tCons (tVar 1) (tCons (tFld g.K (tFld g.K (tVar 0) "part") "wide") tNil)))))
    (tRet (tMake g.word (spWordInit g) [] E0 (tCons (tMake g.made (spMadeInit g) [] E0 (tCons (tCall (spPartOf g) [] E0 (tCons (tCall (spBehind g) [] E0 (tCons (tTup (tCons (tFld g.K (tVar 0) "part") (tCons (tC (.int 1)) (tCons (tC .non) tNil)))) (tCons (tVar 1) tNil))) (tCons (tOp rSubI (tVar 2) (tVar 1)) tNil))) (tCons (tFld g.K (tVar 0) "nesting") (tCons (tFld g.K (tVar 0) "pieces") tNil)))) tNil)))))
theorem d_cut {P : Program} {w : World} {mg : Str → Option Value} {base : Heap} {g : G} {A : Around} {outer : List Env} {s : Shared} {H : Hp} {E : XK} {f : Addr} {cdv : Value} (T : Txt g mg)
    (hr : Room 5 (A.deeper (envOfC "Word.cut" (defScope s_cut) s.heap.objs.size f cdv)))
    (h_behind : Cl P w g.K mg base 2 "behind" (spBehind g) [])
    (h_part_of : Cl P w g.K mg base 4 "part_of" (spPartOf g) [])
    (h_Made : Mkl P w g.K mg base 1 "Made" g.made (spMadeInit g) [])
    (h_Word : Mkl P w g.K mg base 4 "Word" g.word (spWordInit g) [])
    (h_check_index : Cl P w g.K mg base 3 "check_index" spCheckIndex []) :
    PSs (cxOf CX0 P w g.K mg base N_cut "Word.cut" (defScope s_cut) f cdv A outer s H E).nox (defBody s_cut) (t_cut g) :=
    (pss_cons (ps_expr (pe_cl h_check_index hr (by omega) rfl (pa_cons (pv 1) (pa_cons pe_int (pa_cons (pe_fld (pe_fld (pv 0) rfl) rfl) pa_nil)))))
    (pss_cons (ps_expr (pe_cl h_check_index hr (by omega) rfl (pa_cons (pv 2) (pa_cons (pv 1) (pa_cons (pe_fld (pe_fld (pv 0) rfl) rfl) pa_nil)))))
    (pss_one (ps_ret (pe_mkl h_Word hr (by omega) rfl (pa_cons (pe_mkl h_Made hr (by omega) rfl (pa_cons (pe_cl h_part_of hr (by omega) rfl (pa_cons (pe_cl h_behind hr (by omega) rfl (pa_cons (pe_tup (pa_cons (pe_fld (pv 0) rfl) (pa_cons pe_int (pa_cons pe_non pa_nil)))) (pa_cons (pv 1) pa_nil))) (pa_cons (pe_op op_subI (pv 2) (pv 1)) pa_nil))) (pa_cons (pe_fld (pv 0) rfl) (pa_cons (pe_fld (pv 0) rfl) pa_nil)))) pa_nil))))))
def t_entries (g : G) : TS :=
    (tSeq (tDrop (tCall spCheckIndex [] E0 (tCons (tVar 1) (tCons (tC (.int 0)) (tCons (tFld g.K (tFld g.K (tVar 0) "part") "wide") tNil)))))
    (tSeq (tDrop (tCall spCheckIndex [] E0 (tCons (tVar 2) (tCons (tVar 1) (tCons (tCB rMin2 (tCons (tFld g.K (tFld g.K (tVar 0) "part") "wide") (tCons (tOp rAddI (tVar 1) (tC (.int 1000))) tNil))) tNil)))))
    (tSeq (tAsg (tLst tNil) (gName 3))
    (tSeq (tAsg (tCall (spBehind g) [] E0 (tCons (tTup (tCons (tFld g.K (tVar 0) "part") (tCons (tC (.int 1)) (tCons (tC .non) tNil)))) (tCons (tVar 1) tNil))) (gName 4))
    (tSeq (tWhile (tTest (tOp rLtI (tCB (rLenS g.K) (tCons (tVar 3) tNil)) (tOp rSubI (tVar 2) (tVar 1)))) (tSeq (tAsg (tCall (spFirstUnit g) [] E0 (tCons (tVar 4) tNil)) (gTup g.K 3 (gCons (gName 5) (gCons (gName 6) (gCons (gName 7) gNil)))))
    (tSeq (tAsg (tTup (tCons (tVar 5) (tCons (tOp rSubI (tVar 6) (tC (.int 1))) (tCons (tVar 7) tNil)))) (gName 4))
    (tIfS (tB (tCB (rIsi g.K) (tCons (tVar 5) (tCons (tC (.ty "tuple")) tNil)))) (tDrop (tBM g.K "list" rAppend (tVar 3) (tCons (tVar 5) tNil))) (tAsg (tCall (spOpened g) [] E0 (tCons (tVar 5) (tCons (tVar 4) tNil))) (gName 4))))))
    (tRet (tVar 3)))))))
theorem d_entries {P : Program} {w : World} {mg : Str → Option Value} {base : Heap} {g : G} {A : Around} {outer : List Env} {s : Shared} {H : Hp} {E : XK} {f : Addr} {cdv : Value} (T : Txt g mg)
    (hr : Room 3 (A.deeper (envOfC "Word.entries" (defScope s_entries) s.heap.objs.size f cdv)))
    (h_opened : Cl P w g.K mg base 1 "opened" (spOpened g) [])
    (h_first_unit : Cl P w g.K mg base 2 "first_unit" (spFirstUnit g) [])
    (h_behind : Cl P w g.K mg base 2 "behind" (spBehind g) [])
    (h_check_index : Cl P w g.K mg base 3 "check_index" spCheckIndex []) :
    PSs (cxOf CX0 P w g.K mg base N_entries "Word.entries" (defScope s_entries) f cdv A outer s H E).nox (defBody s_entries) (t_entries g) :=
    (pss_cons (ps_expr (pe_cl h_check_index hr (by omega) rfl (pa_cons (pv 1) (pa_cons pe_int (pa_cons (pe_fld (pe_fld (pv 0) rfl) rfl) pa_nil)))))
    (pss_cons (ps_expr (pe_cl h_check_index hr (by omega) rfl (pa_cons (pv 2) (pa_cons (pv 1) (pa_cons (pe_callB (cr_min2 rfl) (by rfl) T.n_min (by decide +kernel) (pa_cons (pe_fld (pe_fld (pv 0) rfl) rfl) (pa_cons (pe_op op_addI (pv 1) (pe_gc rfl T.c_MOST_TOLD)) pa_nil))) pa_nil)))))
    (pss_cons (ps_set (i := 3) sc_entries.nd rfl (Or.inl rfl) (pe_lst pa_nil))
    (pss_cons (ps_set (i := 4) sc_entries.nd rfl (Or.inl rfl) (pe_cl h_behind hr (by omega) rfl (pa_cons (pe_tup (pa_cons (pe_fld (pv 0) rfl) (pa_cons pe_int (pa_cons pe_non pa_nil)))) (pa_cons (pv 1) pa_nil))))
    (pss_cons (ps_while PassesOwn.never (pt_cmpR op_ltI (pe_callB call_len_seq (by rfl) T.n_len PySem.boot_len (pa_cons (pv 3) pa_nil)) (pe_op op_subI (pv 2) (pv 1)) (nomark _)) (pss_cons (ps_asg (pe_cl h_first_unit hr (by omega) rfl (pa_cons (pv 4) pa_nil)) (pg_tup rfl (pgs_cons (pg_name (i := 5) sc_entries.nd rfl (Or.inl rfl)) (pgs_cons (pg_name (i := 6) sc_entries.nd rfl (Or.inl rfl)) (pgs_cons (pg_name (i := 7) sc_entries.nd rfl (Or.inl rfl)) pgs_nil)))))
    (pss_cons (ps_set (i := 4) sc_entries.nd rfl (Or.inl rfl) (pe_tup (pa_cons (pv 5) (pa_cons (pe_op op_subI (pv 6) pe_int) (pa_cons (pv 7) pa_nil)))))
    (pss_one (ps_if (pt_val (pe_callB call_isi (by rfl) T.n_isinstance (by decide +kernel) (pa_cons (pv 5) (pa_cons (pe_bltn (v := .ty "tuple") (by rfl) T.n_tuple (by decide +kernel) rfl) pa_nil)))) (pss_one (ps_expr (pe_bm PySem.F.plainAttrs_list PySem.F.slot_list_append PySem.F.type_list_append mt_append (pv 3) (pa_cons (pv 5) pa_nil)))) (pss_one (ps_set (i := 4) sc_entries.nd rfl (Or.inl rfl) (pe_cl h_opened hr (by omega) rfl (pa_cons (pv 5) (pa_cons (pv 4) pa_nil))))))))))
    (pss_one (ps_ret (pv 3))))))))
def t_getitem (g : G) : TS :=
    (tSeq (tDrop (tCall spCheckIndex [] E0 (tCons (tVar 1) (tCons (tC (.int 0)) (tCons (tOp rSubI (tFld g.K (tFld g.K (tVar 0) "part") "wide") (tC (.int 1))) tNil)))))
    (tRet (tOp (rIxL g.K) (tMeth g.word "entries" (spEntries g) [] E0 (tVar 0) (tCons (tVar 1) (tCons (tOp rAddI (tVar 1) (tC (.int 1))) tNil))) (tC (.int 0)))))
theorem d_getitem {P : Program} {w : World} {mg : Str → Option Value} {base : Heap} {g : G} {A : Around} {outer : List Env} {s : Shared} {H : Hp} {E : XK} {f : Addr} {cdv : Value} (T : Txt g mg)
    (hr : Room 4 (A.deeper (envOfC "Word.__getitem__" (defScope s_getitem) s.heap.objs.size f cdv)))
    (h_entries : Mtl P w g.K mg base 4 g.word "entries" (spEntries g))
    (h_check_index : Cl P w g.K mg base 3 "check_index" spCheckIndex []) :
    PSs (cxOf CX0 P w g.K mg base N_getitem "Word.__getitem__" (defScope s_getitem) f cdv A outer s H E).nox (defBody s_getitem) (t_getitem g) :=
    (pss_cons (ps_expr (pe_cl h_check_index hr (by omega) rfl (pa_cons (pv 1) (pa_cons pe_int (pa_cons (pe_op op_subI (pe_fld (pe_fld (pv 0) rfl) rfl) pe_int) pa_nil)))))
    (pss_one (ps_ret (pe_ix ix_list (pe_mtl h_entries hr (by omega) (pv 0) (pa_cons (pv 1) (pa_cons (pe_op op_addI (pv 1) pe_int) pa_nil))) pe_int (fun _ _ => rfl)))))
def t_Word_eq (g : G) (n : Nat) : TS :=
    (tSeq (tIfS (tOr (tNot (tB (tCB (rIsi g.K) (tCons (tVar 1) (tCons (tC (.ref g.word)) tNil))))) (tTest (tOp rNeS (tFld g.K (tFld g.K (tVar 0) "part") "wide") (tFld g.K (tFld g.K (tVar 1) "part") "wide")))) (tRet (tC (.bl false))) tNext)
    (tRet (tOp rEqS (tCall (spAgreement g n) [] E0 (tCons (tTup (tCons (tFld g.K (tVar 0) "part") (tCons (tC (.int 1)) (tCons (tC .non) tNil)))) (tCons (tTup (tCons (tFld g.K (tVar 1) "part") (tCons (tC (.int 1)) (tCons (tC .non) tNil)))) (tCons (tFld g.K (tFld g.K (tVar 0) "part") "wide") tNil)))) (tFld g.K (tFld g.K (tVar 0) "part") "wide"))))
theorem d_Word_eq {P : Program} {w : World} {mg : Str → Option Value} {base : Heap} {g : G} {n : Nat} {A : Around} {outer : List Env} {s : Shared} {H : Hp} {E : XK} {f : Addr} {cdv : Value} (T : Txt g mg)
    (hr : Room (8 + 2 * n) (A.deeper (envOfC "Word.__eq__" (defScope s_Word_eq) s.heap.objs.size f cdv)))
    (h_agreement : Cl P w g.K mg base (8 + 2 * n) "agreement" (spAgreement g n) []) :
    PSs (cxOf CX0 P w g.K mg base N_Word_eq "Word.__eq__" (defScope s_Word_eq) f cdv A outer s H E).nox (defBody s_Word_eq) (t_Word_eq g n) :=
    (pss_cons (ps_if (PW.pt (pw_or (pt_not (pt_val (pe_callB call_isi (by rfl) T.n_isinstance (by decide +kernel) (pa_cons (pv 1) (pa_cons (pe_gc rfl T.c_Word) pa_nil))))) (pw_or1 (pt_cmpR op_neS (pe_fld (pe_fld (pv 0) rfl) rfl) (pe_fld (pe_fld (pv 1) rfl) rfl) (nomark _))))) (pss_one (ps_ret pe_bl)) pss_nil)
    (pss_one (ps_ret (pe_cmpR op_eqS (pe_cl h_agreement hr (by omega) rfl (pa_cons (pe_tup (pa_cons (pe_fld (pv 0) rfl) (pa_cons pe_int (pa_cons pe_non pa_nil)))) (pa_cons (pe_tup (pa_cons (pe_fld (pv 1) rfl) (pa_cons pe_int (pa_cons pe_non pa_nil)))) (pa_cons (pe_fld (pe_fld (pv 0) rfl) rfl) pa_nil)))) (pe_fld (pe_fld (pv 0) rfl) rfl) (nomark _)))))
def t_built (g : G) (sp : Sp) : TS :=
    (tSeq (tAsg (tOp rModI (tCB rInt1 (tCons (tOp (rIxL g.K) (tVar 0) (tC (.int 0))) tNil)) (tC (.int 4))) (gName 2))
    (tSeq (tIfS (tOr (tTest (tOp rEqS (tVar 1) (tC (.int 0)))) (tTest (tOp rEqS (tVar 2) (tC (.int 0))))) (tSeq (tAsg (tCall spRow [] E0 (tCons (tSl (rSlL g.K) (tVar 0) (tPart (tC (.int 1))) tNoPart) (tCons (tOp rModI (tCB rInt1 (tCons (tOp rDivI (tOp (rIxL g.K) (tVar 0) (tC (.int 0))) (tC (.int 4))) tNil)) (tC (.int 5))) tNil))) (gName 3))
    (tRet (tTup (tCons (tMake g.word (spWordInit g) [] E0 (tCons (tVar 3) tNil)) (tCons (tVar 3) tNil))))) tNext)
    (tSeq (tAsg (tCall sp [] E0 (tCons (tSl (rSlL g.K) (tVar 0) (tPart (tC (.int 1))) tNoPart) (tCons (tOp rSubI (tVar 1) (tC (.int 1))) tNil))) (gTup g.K 2 (gCons (gName 4) (gCons (gName 5) gNil))))
    (tSeq (tIfS (tTest (tOp rEqS (tVar 2) (tC (.int 1)))) (tSeq (tAsg (tOp rModI (tCB rInt1 (tCons (tOp rDivI (tOp (rIxL g.K) (tVar 0) (tC (.int 0))) (tC (.int 4))) tNil)) (tC (.int 4))) (gName 6))
    (tRet (tTup (tCons (tOp (rOwnI g.word (spWordMul g) E0) (tVar 4) (tVar 6)) (tCons (tOp rRep (tVar 5) (tVar 6)) tNil))))) tNext)
    (tSeq (tAsg (tCall sp [] E0 (tCons (tSl (rSlL g.K) (tVar 0) (tPart (tC (.int 7))) tNoPart) (tCons (tOp rSubI (tVar 1) (tC (.int 1))) tNil))) (gTup g.K 2 (gCons (gName 7) (gCons (gName 8) gNil))))
    (tSeq (tIfS (tTest (tOp rEqS (tVar 2) (tC (.int 2)))) (tRet (tTup (tCons (tOp (rOwn2 g.word (spWordAdd g) E0) (tVar 4) (tVar 7)) (tCons (tOp rCat (tVar 5) (tVar 8)) tNil)))) tNext)
    (tRet (tTup (tCons (tOp (rOwn2 g.word (spWordAdd g) E0) (tOp (rOwn2 g.word (spWordAdd g) E0) (tVar 4) (tVar 7)) (tVar 4)) (tCons (tOp rCat (tOp rCat (tVar 5) (tVar 8)) (tVar 5)) tNil))))))))))
theorem d_built {P : Program} {w : World} {mg : Str → Option Value} {base : Heap} {g : G} {k : Nat} {sp : Sp} {A : Around} {outer : List Env} {s : Shared} {H : Hp} {E : XK} {f : Addr} {cdv : Value} (T : Txt g mg)
    (hr : Room (6 + k) (A.deeper (envOfC "_law_built" (defScope s_built) s.heap.objs.size f cdv)))
    (h_Word_add : Mtl P w g.K mg base 6 g.word (PySem.dunder (Operator.info .Add).2) (spWordAdd g))
    (h_built : Cl P w g.K mg base (6 + k) "_law_built" sp [])
    (h_Word_mul : Mtl P w g.K mg base 6 g.word (PySem.dunder (Operator.info .Mult).2) (spWordMul g))
    (h_Word : Mkl P w g.K mg base 4 "Word" g.word (spWordInit g) [])
    (h_row : Cl P w g.K mg base 2 "_law_row" spRow []) :
    PSs (cxOf CX0 P w g.K mg base N_built "_law_built" (defScope s_built) f cdv A outer s H E).nox (defBody s_built) (t_built g sp) :=
    (pss_cons (ps_set (i := 2) sc_built.nd rfl (Or.inl rfl) (pe_op op_modI (pe_callTy call_int1 (by rfl) T.n_int (by decide +kernel) (pa_cons (pe_ix ix_list (pv 0) pe_int (fun _ _ => rfl)) pa_nil)) pe_int))
    (pss_cons (ps_if (PW.pt (pw_or (pt_cmpR op_eqS (pv 1) pe_int (nomark _)) (pw_or1 (pt_cmpR op_eqS (pv 2) pe_int (nomark _))))) (pss_cons (ps_set (i := 3) sc_built.nd rfl (Or.inl rfl) (pe_cl h_row hr (by omega) rfl (pa_cons (pe_slice sl_list (pv 0) (po_some pe_int) po_none) (pa_cons (pe_op op_modI (pe_callTy call_int1 (by rfl) T.n_int (by decide +kernel) (pa_cons (pe_op op_divI (pe_ix ix_list (pv 0) pe_int (fun _ _ => rfl)) pe_int) pa_nil)) pe_int) pa_nil))))
    (pss_one (ps_ret (pe_tup (pa_cons (pe_mkl h_Word hr (by omega) rfl (pa_cons (pv 3) pa_nil)) (pa_cons (pv 3) pa_nil)))))) pss_nil)
    (pss_cons (ps_asg (pe_cl h_built hr (by omega) rfl (pa_cons (pe_slice sl_list (pv 0) (po_some pe_int) po_none) (pa_cons (pe_op op_subI (pv 1) pe_int) pa_nil))) (pg_tup rfl (pgs_cons (pg_name (i := 4) sc_built.nd rfl (Or.inl rfl)) (pgs_cons (pg_name (i := 5) sc_built.nd rfl (Or.inl rfl)) pgs_nil))))
    (pss_cons (ps_if (pt_cmpR op_eqS (pv 2) pe_int (nomark _)) (pss_cons (ps_set (i := 6) sc_built.nd rfl (Or.inl rfl) (pe_op op_modI (pe_callTy call_int1 (by rfl) T.n_int (by decide +kernel) (pa_cons (pe_op op_divI (pe_ix ix_list (pv 0) pe_int (fun _ _ => rfl)) pe_int) pa_nil)) pe_int))
    (pss_one (ps_ret (pe_tup (pa_cons (pe_op (op_wordI (op := .Mult) h_Word_mul T.mulI hr (by omega)) (pv 4) (pv 6)) (pa_cons (pe_op op_rep (pv 5) (pv 6)) pa_nil)))))) pss_nil)
    (pss_cons (ps_asg (pe_cl h_built hr (by omega) rfl (pa_cons (pe_slice sl_list (pv 0) (po_some pe_int) po_none) (pa_cons (pe_op op_subI (pv 1) pe_int) pa_nil))) (pg_tup rfl (pgs_cons (pg_name (i := 7) sc_built.nd rfl (Or.inl rfl)) (pgs_cons (pg_name (i := 8) sc_built.nd rfl (Or.inl rfl)) pgs_nil))))
    (pss_cons (ps_if (pt_cmpR op_eqS (pv 2) pe_int (nomark _)) (pss_one (ps_ret (pe_tup (pa_cons (pe_op (op_word2 (op := .Add) h_Word_add hr (by omega)) (pv 4) (pv 7)) (pa_cons (pe_op op_cat (pv 5) (pv 8)) pa_nil))))) pss_nil)
    (pss_one (ps_ret (pe_tup (pa_cons (pe_op (op_word2 (op := .Add) h_Word_add hr (by omega)) (pe_op (op_word2 (op := .Add) h_Word_add hr (by omega)) (pv 4) (pv 7)) (pv 4)) (pa_cons (pe_op op_cat (pe_op op_cat (pv 5) (pv 8)) (pv 5)) pa_nil)))))))))))
def t_agreeing (g : G) (n : Nat) : TS :=
    (tSeq (tDrop (tCall spCheckIndex [] E0 (tCons (tVar 1) (tCons (tC (.int 0)) (tCons (tMeth g.word "length" (spLength g) [] E0 (tVar 0) tNil) tNil)))))
    (tSeq (tDrop (tCall spCheckIndex [] E0 (tCons (tVar 3) (tCons (tC (.int 0)) (tCons (tMeth g.word "length" (spLength g) [] E0 (tVar 2) tNil) tNil)))))
    (tSeq (tAsg (tCB rMin2 (tCons (tOp rSubI (tMeth g.word "length" (spLength g) [] E0 (tVar 0) tNil) (tVar 1)) (tCons (tOp rSubI (tMeth g.word "length" (spLength g) [] E0 (tVar 2) tNil) (tVar 3)) tNil))) (gName 4))
    (tRet (tCall (spAgreement g n) [] E0 (tCons (tCall (spBehind g) [] E0 (tCons (tTup (tCons (tFld g.K (tVar 0) "part") (tCons (tC (.int 1)) (tCons (tC .non) tNil)))) (tCons (tVar 1) tNil))) (tCons (tCall (spBehind g) [] E0 (tCons (tTup (tCons (tFld g.K (tVar 2) "part") (tCons (tC (.int 1)) (tCons (tC .non) tNil)))) (tCons (tVar 3) tNil))) (tCons (tVar 4) tNil))))))))
theorem d_agreeing {P : Program} {w : World} {mg : Str → Option Value} {base : Heap} {g : G} {n : Nat} {A : Around} {outer : List Env} {s : Shared} {H : Hp} {E : XK} {f : Addr} {cdv : Value} (T : Txt g mg)
    (hr : Room (8 + 2 * n) (A.deeper (envOfC "agreeing" (defScope s_agreeing) s.heap.objs.size f cdv)))
    (h_behind : Cl P w g.K mg base 2 "behind" (spBehind g) [])
    (h_agreement : Cl P w g.K mg base (8 + 2 * n) "agreement" (spAgreement g n) [])
    (h_length : Mtl P w g.K mg base 1 g.word "length" (spLength g))
    (h_check_index : Cl P w g.K mg base 3 "check_index" spCheckIndex []) :
    PSs (cxOf CX0 P w g.K mg base N_agreeing "agreeing" (defScope s_agreeing) f cdv A outer s H E).nox (defBody s_agreeing) (t_agreeing g n) :=
    (pss_cons (ps_expr (pe_cl h_check_index hr (by omega) rfl (pa_cons (pv 1) (pa_cons pe_int (pa_cons (pe_mtl0 h_length hr (by omega) (pv 0)) pa_nil)))))
    (pss_cons (ps_expr (pe_cl h_check_index hr (by omega) rfl (pa_cons (pv 3) (pa_cons pe_int (pa_cons (pe_mtl0 h_length hr (by omega) (pv 2)) pa_nil)))))
    (pss_cons (ps_set (i := 4) sc_agreeing.nd rfl (Or.inl rfl) (pe_callB (cr_min2 rfl) (by rfl) T.n_min (by decide +kernel) (pa_cons (pe_op op_subI (pe_mtl0 h_length hr (by omega) (pv 0)) (pv 1)) (pa_cons (pe_op op_subI (pe_mtl0 h_length hr (by omega) (pv 2)) (pv 3)) pa_nil))))
    (pss_one (ps_ret (pe_cl h_agreement hr (by omega) rfl (pa_cons (pe_cl h_behind hr (by omega) rfl (pa_cons (pe_tup (pa_cons (pe_fld (pv 0) rfl) (pa_cons pe_int (pa_cons pe_non pa_nil)))) (pa_cons (pv 1) pa_nil))) (pa_cons (pe_cl h_behind hr (by omega) rfl (pa_cons (pe_tup (pa_cons (pe_fld (pv 2) rfl) (pa_cons pe_int (pa_cons pe_non pa_nil)))) (pa_cons (pv 3) pa_nil))) (pa_cons (pv 4) pa_nil)))))))))
def t_first_difference (g : G) (n : Nat) : TS :=
    (tSeq (tAsg (tCall (spAgreeing g n) [] E0 (tCons (tVar 0) (tCons (tC (.int 0)) (tCons (tVar 1) (tCons (tC (.int 0)) tNil))))) (gName 2))
    (tRet (tIf (tTest (tChain rEqS rEqS (tVar 2) (tMeth g.word "length" (spLength g) [] E0 (tVar 0) tNil) (tMeth g.word "length" (spLength g) [] E0 (tVar 1) tNil))) (tC .non) (tVar 2))))
theorem d_first_difference {P : Program} {w : World} {mg : Str → Option Value} {base : Heap} {g : G} {n : Nat} {A : Around} {outer : List Env} {s : Shared} {H : Hp} {E : XK} {f : Addr} {cdv : Value} (T : Txt g mg)
    (hr : Room (9 + 2 * n) (A.deeper (envOfC "first_difference" (defScope s_first_difference) s.heap.objs.size f cdv)))
    (h_length : Mtl P w g.K mg base 1 g.word "length" (spLength g))
    (h_agreeing : Cl P w g.K mg base (9 + 2 * n) "agreeing" (spAgreeing g n) []) :
    PSs (cxOf CX0 P w g.K mg base N_first_difference "first_difference" (defScope s_first_difference) f cdv A outer s H E).nox (defBody s_first_difference) (t_first_difference g n) :=
    (pss_cons (ps_set (i := 2) sc_first_difference.nd rfl (Or.inl rfl) (pe_cl h_agreeing hr (by omega) rfl (pa_cons (pv 0) (pa_cons pe_int (pa_cons (pv 1) (pa_cons pe_int pa_nil))))))
    (pss_one (ps_ret (pe_ifExp (pt_chain op_eqS op_eqS (pv 2) (pe_mtl0 h_length hr (by omega) (pv 0)) (pe_mtl0 h_length hr (by omega) (pv 1))) pe_non (pv 2)))))
def t_check_number (g : G) : TS :=
    (tIfS (tNot (tB (tCall spIsBetween [] E0 (tCons (tVar 0) (tCons (tVar 1) (tCons (tVar 2) tNil)))))) tNever tNext)
theorem d_check_number {P : Program} {w : World} {mg : Str → Option Value} {base : Heap} {g : G} {A : Around} {outer : List Env} {s : Shared} {H : Hp} {E : XK} {f : Addr} {cdv : Value} (T : Txt g mg)
    (hr : Room 2 (A.deeper (envOfC "check_number" (defScope s_check_number) s.heap.objs.size f cdv)))
    (h_is_between : Cl P w g.K mg base 2 "is_between" spIsBetween []) :
    PSs (cxOf CX0 P w g.K mg base N_check_number "check_number" (defScope s_check_number) f cdv A outer s H E).nox (defBody s_check_number) (t_check_number g) :=
    (pss_one (ps_if (pt_not (pt_val (pe_cl h_is_between hr (by omega) rfl (pa_cons (pv 0) (pa_cons (pv 1) (pa_cons (pv 2) pa_nil)))))) (pss_one ps_never) pss_nil))
def t_Walk_init (g : G) : TS :=
    (tSeq (sFld g.K (tVar 0) (tVar 1) "moves")
    (tSeq (sFld g.K (tVar 0) (tVar 2) "counted")
    (sFld g.K (tVar 0) tDNewK "known")))
theorem d_Walk_init {P : Program} {w : World} {mg : Str → Option Value} {base : Heap} {g : G} {A : Around} {outer : List Env} {s : Shared} {H : Hp} {E : XK} {f : Addr} {cdv : Value} (T : Txt g mg)
    (hr : Room 0 (A.deeper (envOfC "Walk.__init__" (defScope s_Walk_init) s.heap.objs.size f cdv))) :
    PSs (cxOf CX0 P w g.K mg base N_Walk_init "Walk.__init__" (defScope s_Walk_init) f cdv A outer s H E).nox (defBody s_Walk_init) (t_Walk_init g) :=
    (pss_cons (ps_fld (pv 0) (pv 1) rfl)
    (pss_cons (ps_fld (pv 0) (pv 2) rfl)
    (pss_one (ps_fld (pv 0) pe_dnewK rfl))))
def t_next_state (g : G) (w : World) : TS :=
    (tSeq (tAsg (tOp (rIxL g.K) (tFld g.K (tVar 0) "moves") (tVar 1)) (gName 3))
    (tRet (tNGet w (tVar 3) (tVar 2) (tNGet w (tVar 3) (tC .non) (tVar 1)))))
theorem d_next_state {P : Program} {w : World} {mg : Str → Option Value} {base : Heap} {g : G} {A : Around} {outer : List Env} {s : Shared} {H : Hp} {E : XK} {f : Addr} {cdv : Value} (T : Txt g mg)
    (hr : Room 0 (A.deeper (envOfC "Walk.next_state" (defScope s_next_state) s.heap.objs.size f cdv))) :
    PSs (cxOf CX0 P w g.K mg base N_next_state "Walk.next_state" (defScope s_next_state) f cdv A outer s H E).nox (defBody s_next_state) (t_next_state g w) :=
    (pss_cons (ps_set (i := 3) sc_next_state.nd rfl (Or.inl rfl) (pe_ix ix_list (pe_fld (pv 0) rfl) (pv 1) (fun _ _ => rfl)))
    (pss_one (ps_ret (pe_nget (units9 hr) (pv 3) (pv 2) (pe_nget (units9 hr) (pv 3) pe_non (pv 1) ⟨rfl, rfl, rfl, rfl⟩) ⟨rfl, rfl, rfl, rfl⟩))))
def t_once (g : G) (w : World) : TS :=
    (tSeq (tIfS (tB (tCB (rIsi g.K) (tCons (tVar 2) (tCons (tC (.ty "tuple")) tNil)))) (tSeq (tAsg (tMeth g.walk "next_state" (spNextState g w) [] E0 (tVar 0) (tCons (tVar 1) (tCons (tVar 2) tNil))) (gName 3))
    (tRet (tTup (tCons (tVar 3) (tCons (tCB rInt1 (tCons (tOp rEqS (tVar 3) (tFld g.K (tVar 0) "counted")) tNil)) tNil))))) tNext)
    (tSeq tNever
    tNever))
theorem d_once {P : Program} {w : World} {mg : Str → Option Value} {base : Heap} {g : G} {A : Around} {outer : List Env} {s : Shared} {H : Hp} {E : XK} {f : Addr} {cdv : Value} (T : Txt g mg)
    (hr : Room 1 (A.deeper (envOfC "Walk.once" (defScope s_once) s.heap.objs.size f cdv)))
    (h_next_state : Mtl P w g.K mg base 1 g.walk "next_state" (spNextState g w)) :
    PSs (cxOf CX0 P w g.K mg base N_once "Walk.once" (defScope s_once) f cdv A outer s H E).nox (defBody s_once) (t_once g w) :=
    (pss_cons (ps_if (pt_val (pe_callB call_isi (by rfl) T.n_isinstance (by decide +kernel) (pa_cons (pv 2) (pa_cons (pe_bltn (v := .ty "tuple") (by rfl) T.n_tuple (by decide +kernel) rfl) pa_nil)))) (pss_cons (ps_set (i := 3) sc_once.nd rfl (Or.inl rfl) (pe_mtl h_next_state hr (by omega) (pv 0) (pa_cons (pv 1) (pa_cons (pv 2) pa_nil))))
    (pss_one (ps_ret (pe_tup (pa_cons (pv 3) (pa_cons (pe_callTy call_int1 (by rfl) T.n_int (by decide +kernel) (pa_cons (pe_cmpR op_eqS (pv 3) (pe_fld (pv 0) rfl) (nomark _)) pa_nil)) pa_nil)))))) pss_nil)
    (pss_cons ps_never
    (pss_one ps_never)))
def t_passages (g : G) (w : World) : TS :=
    (tSeq (tAsg (tMake g.pass (spPassInit g) [] E0 (tCons (tVar 1) tNil)) (gName 4))
    (tSeq (tWhile (tAnd (tTest (tOp rLtI (tMeth g.pass "done" (spDone g) [] E0 (tVar 4) tNil) (tVar 3))) (tNot (tB (tMeth g.pass "returns" (spReturns g) [] E0 (tVar 4) tNil)))) (tSeq (tAsg (tMeth g.walk "once" (spOnce g w) [] E0 (tVar 0) (tCons (tOp (rIxL g.K) (tFld g.K (tVar 4) "states") (tUn (rU fun i => .int (-i)) (tC (.int 1)))) (tCons (tVar 2) tNil))) (gTup g.K 2 (gCons (gName 5) (gCons (gName 6) gNil))))
    (tDrop (tMeth g.pass "note" (spNote g) [] E0 (tVar 4) (tCons (tVar 5) (tCons (tVar 6) tNil))))))
    (tRet (tVar 4))))
theorem d_passages {P : Program} {w : World} {mg : Str → Option Value} {base : Heap} {g : G} {A : Around} {outer : List Env} {s : Shared} {H : Hp} {E : XK} {f : Addr} {cdv : Value} (T : Txt g mg)
    (hr : Room 2 (A.deeper (envOfC "Walk.passages" (defScope s_passages) s.heap.objs.size f cdv)))
    (h_returns : Mtl P w g.K mg base 1 g.pass "returns" (spReturns g))
    (h_done : Mtl P w g.K mg base 1 g.pass "done" (spDone g))
    (h_note : Mtl P w g.K mg base 1 g.pass "note" (spNote g))
    (h_once : Mtl P w g.K mg base 2 g.walk "once" (spOnce g w))
    (h_Passages : Mkl P w g.K mg base 1 "Passages" g.pass (spPassInit g) []) :
    PSs (cxOf CX0 P w g.K mg base N_passages "Walk.passages" (defScope s_passages) f cdv A outer s H E).nox (defBody s_passages) (t_passages g w) :=
    (pss_cons (ps_set (i := 4) sc_passages.nd rfl (Or.inl rfl) (pe_mkl h_Passages hr (by omega) rfl (pa_cons (pv 1) pa_nil)))
    (pss_cons (ps_while PassesOwn.never (PW.pt (pw_and (pt_cmpR op_ltI (pe_mtl0 h_done hr (by omega) (pv 4)) (pv 3) (nomark _)) (pw_and1 (pt_not (pt_val (pe_mtl0 h_returns hr (by omega) (pv 4))))))) (pss_cons (ps_asg (pe_mtl h_once hr (by omega) (pv 0) (pa_cons (pe_ix ix_list (pe_fld (pv 4) rfl) (pe_un un_neg pe_int) (fun _ _ => rfl)) (pa_cons (pv 2) pa_nil))) (pg_tup rfl (pgs_cons (pg_name (i := 5) sc_passages.nd rfl (Or.inl rfl)) (pgs_cons (pg_name (i := 6) sc_passages.nd rfl (Or.inl rfl)) pgs_nil))))
    (pss_one (ps_expr (pe_mtl h_note hr (by omega) (pv 4) (pa_cons (pv 5) (pa_cons (pv 6) pa_nil)))))))
    (pss_one (ps_ret (pv 4)))))
def t_go_from (g : G) (w : World) : TS :=
    (tSeq (tAsg (tC (.int 0)) (gName 4))
    (tSeq (tWhile (tTest (tOp rGtI (tVar 3) (tC (.int 0)))) (tSeq (tAsg (tCall (spFirstUnit g) [] E0 (tCons (tVar 2) tNil)) (gTup g.K 3 (gCons (gName 5) (gCons (gName 6) (gCons (gName 7) gNil)))))
    (tSeq (tAsg (tCB rMin2 (tCons (tVar 6) (tCons (tOp rDivI (tVar 3) (tCall (spWidth g) [] E0 (tCons (tVar 5) tNil))) tNil))) (gName 8))
    (tIfS (tTest (tOp rEqS (tVar 8) (tC (.int 0)))) (tAsg (tCall (spOpened g) [] E0 (tCons (tVar 5) (tCons (tTup (tCons (tVar 5) (tCons (tOp rSubI (tVar 6) (tC (.int 1))) (tCons (tVar 7) tNil)))) tNil))) (gName 2)) (tSeq (tAsg (tMeth g.pass "end" (spEnd g) [] E0 (tMeth g.walk "passages" (spPassages g w) [] E0 (tVar 0) (tCons (tVar 1) (tCons (tVar 5) (tCons (tVar 8) tNil)))) (tCons (tVar 8) tNil)) (gTup g.K 2 (gCons (gName 1) (gCons (gName 9) gNil))))
    (tSeq (tAug 4 (tVar 9) (ipI fun i j => i + j))
    (tSeq (tAug 3 (tOp rMulI (tVar 8) (tCall (spWidth g) [] E0 (tCons (tVar 5) tNil))) (ipI fun i j => i - j))
    (tAsg (tTup (tCons (tVar 5) (tCons (tOp rSubI (tVar 6) (tVar 8)) (tCons (tVar 7) tNil)))) (gName 2)))))))))
    (tRet (tTup (tCons (tVar 1) (tCons (tVar 4) tNil))))))
theorem d_go_from {P : Program} {w : World} {mg : Str → Option Value} {base : Heap} {g : G} {A : Around} {outer : List Env} {s : Shared} {H : Hp} {E : XK} {f : Addr} {cdv : Value} (T : Txt g mg)
    (hr : Room 3 (A.deeper (envOfC "Walk.go_from" (defScope s_go_from) s.heap.objs.size f cdv)))
    (h_opened : Cl P w g.K mg base 1 "opened" (spOpened g) [])
    (h_width : Cl P w g.K mg base 1 "width" (spWidth g) [])
    (h_end : Mtl P w g.K mg base 3 g.pass "end" (spEnd g))
    (h_passages : Mtl P w g.K mg base 3 g.walk "passages" (spPassages g w))
    (h_first_unit : Cl P w g.K mg base 2 "first_unit" (spFirstUnit g) []) :
    PSs (cxOf CX0 P w g.K mg base N_go_from "Walk.go_from" (defScope s_go_from) f cdv A outer s H E).nox (defBody s_go_from) (t_go_from g w) :=
    (pss_cons (ps_set (i := 4) sc_go_from.nd rfl (Or.inl rfl) pe_int)
    (pss_cons (ps_while PassesOwn.never (pt_cmpR op_gtI (pv 3) pe_int (nomark _)) (pss_cons (ps_asg (pe_cl h_first_unit hr (by omega) rfl (pa_cons (pv 2) pa_nil)) (pg_tup rfl (pgs_cons (pg_name (i := 5) sc_go_from.nd rfl (Or.inl rfl)) (pgs_cons (pg_name (i := 6) sc_go_from.nd rfl (Or.inl rfl)) (pgs_cons (pg_name (i := 7) sc_go_from.nd rfl (Or.inl rfl)) pgs_nil)))))
    (pss_cons (ps_set (i := 8) sc_go_from.nd rfl (Or.inl rfl) (pe_callB (cr_min2 rfl) (by rfl) T.n_min (by decide +kernel) (pa_cons (pv 6) (pa_cons (pe_op op_divI (pv 3) (pe_cl h_width hr (by omega) rfl (pa_cons (pv 5) pa_nil))) pa_nil))))
    (pss_one (ps_if (pt_cmpR op_eqS (pv 8) pe_int (nomark _)) (pss_one (ps_set (i := 2) sc_go_from.nd rfl (Or.inl rfl) (pe_cl h_opened hr (by omega) rfl (pa_cons (pv 5) (pa_cons (pe_tup (pa_cons (pv 5) (pa_cons (pe_op op_subI (pv 6) pe_int) (pa_cons (pv 7) pa_nil)))) pa_nil))))) (pss_cons (ps_asg (pe_mtl h_end hr (by omega) (pe_mtl h_passages hr (by omega) (pv 0) (pa_cons (pv 1) (pa_cons (pv 5) (pa_cons (pv 8) pa_nil)))) (pa_cons (pv 8) pa_nil)) (pg_tup rfl (pgs_cons (pg_name (i := 1) sc_go_from.nd rfl (Or.inl rfl)) (pgs_cons (pg_name (i := 9) sc_go_from.nd rfl (Or.inl rfl)) pgs_nil))))
    (pss_cons (ps_aug (i := 4) sc_go_from.nd rfl (Or.inl rfl) (pv 9) ip_add)
    (pss_cons (ps_aug (i := 3) sc_go_from.nd rfl (Or.inl rfl) (pe_op op_mulI (pv 8) (pe_cl h_width hr (by omega) rfl (pa_cons (pv 5) pa_nil))) ip_sub)
    (pss_one (ps_set (i := 2) sc_go_from.nd rfl (Or.inl rfl) (pe_tup (pa_cons (pv 5) (pa_cons (pe_op op_subI (pv 6) (pv 8)) (pa_cons (pv 7) pa_nil))))))))))))))
    (pss_one (ps_ret (pe_tup (pa_cons (pv 1) (pa_cons (pv 4) pa_nil)))))))
def t_Passages_init (g : G) : TS :=
    (tSeq (sFld g.K (tVar 0) (tLst (tCons (tVar 1) tNil)) "states")
    (sFld g.K (tVar 0) (tLst (tCons (tC (.int 0)) tNil)) "sums"))
theorem d_Passages_init {P : Program} {w : World} {mg : Str → Option Value} {base : Heap} {g : G} {A : Around} {outer : List Env} {s : Shared} {H : Hp} {E : XK} {f : Addr} {cdv : Value} (T : Txt g mg)
    (hr : Room 0 (A.deeper (envOfC "Passages.__init__" (defScope s_Passages_init) s.heap.objs.size f cdv))) :
    PSs (cxOf CX0 P w g.K mg base N_Passages_init "Passages.__init__" (defScope s_Passages_init) f cdv A outer s H E).nox (defBody s_Passages_init) (t_Passages_init g) :=
    (pss_cons (ps_fld (pv 0) (pe_lst (pa_cons (pv 1) pa_nil)) rfl)
    (pss_one (ps_fld (pv 0) (pe_lst (pa_cons pe_int pa_nil)) rfl)))
def t_note (g : G) : TS :=
    (tSeq (tDrop (tBM g.K "list" rAppend (tFld g.K (tVar 0) "states") (tCons (tVar 1) tNil)))
    (tDrop (tBM g.K "list" rAppend (tFld g.K (tVar 0) "sums") (tCons (tOp rAddI (tOp (rIxL g.K) (tFld g.K (tVar 0) "sums") (tUn (rU fun i => .int (-i)) (tC (.int 1)))) (tVar 2)) tNil))))
theorem d_note {P : Program} {w : World} {mg : Str → Option Value} {base : Heap} {g : G} {A : Around} {outer : List Env} {s : Shared} {H : Hp} {E : XK} {f : Addr} {cdv : Value} (T : Txt g mg)
    (hr : Room 0 (A.deeper (envOfC "Passages.note" (defScope s_note) s.heap.objs.size f cdv))) :
    PSs (cxOf CX0 P w g.K mg base N_note "Passages.note" (defScope s_note) f cdv A outer s H E).nox (defBody s_note) (t_note g) :=
    (pss_cons (ps_expr (pe_bm PySem.F.plainAttrs_list PySem.F.slot_list_append PySem.F.type_list_append mt_append (pe_fld (pv 0) rfl) (pa_cons (pv 1) pa_nil)))
    (pss_one (ps_expr (pe_bm PySem.F.plainAttrs_list PySem.F.slot_list_append PySem.F.type_list_append mt_append (pe_fld (pv 0) rfl) (pa_cons (pe_op op_addI (pe_ix ix_list (pe_fld (pv 0) rfl) (pe_un un_neg pe_int) (fun _ _ => rfl)) (pv 2)) pa_nil)))))
def t_done (g : G) : TS :=
    (tRet (tOp rSubI (tCB (rLenS g.K) (tCons (tFld g.K (tVar 0) "states") tNil)) (tC (.int 1))))
theorem d_done {P : Program} {w : World} {mg : Str → Option Value} {base : Heap} {g : G} {A : Around} {outer : List Env} {s : Shared} {H : Hp} {E : XK} {f : Addr} {cdv : Value} (T : Txt g mg)
    (hr : Room 0 (A.deeper (envOfC "Passages.done" (defScope s_done) s.heap.objs.size f cdv))) :
    PSs (cxOf CX0 P w g.K mg base N_done "Passages.done" (defScope s_done) f cdv A outer s H E).nox (defBody s_done) (t_done g) :=
    (pss_one (ps_ret (pe_op op_subI (pe_callB call_len_seq (by rfl) T.n_len PySem.boot_len (pa_cons (pe_fld (pv 0) rfl) pa_nil)) pe_int)))
def t_returns (g : G) : TS :=
    (tRet (tOp (rIn g.K false) (tOp (rIxL g.K) (tFld g.K (tVar 0) "states") (tUn (rU fun i => .int (-i)) (tC (.int 1)))) (tSl (rSlL g.K) (tFld g.K (tVar 0) "states") tNoPart (tPart (tUn (rU fun i => .int (-i)) (tC (.int 1)))))))
theorem d_returns {P : Program} {w : World} {mg : Str → Option Value} {base : Heap} {g : G} {A : Around} {outer : List Env} {s : Shared} {H : Hp} {E : XK} {f : Addr} {cdv : Value} (T : Txt g mg)
    (hr : Room 0 (A.deeper (envOfC "Passages.returns" (defScope s_returns) s.heap.objs.size f cdv))) :
    PSs (cxOf CX0 P w g.K mg base N_returns "Passages.returns" (defScope s_returns) f cdv A outer s H E).nox (defBody s_returns) (t_returns g) :=
    (pss_one (ps_ret (pe_cmpR op_in_seq (pe_ix ix_list (pe_fld (pv 0) rfl) (pe_un un_neg pe_int) (fun _ _ => rfl)) (pe_slice sl_list (pe_fld (pv 0) rfl) po_none (po_some (pe_un un_neg pe_int))) (by rfl))))
def t_folded (g : G) : TS :=
    (tSeq (tIfS (tTest (tOp rLeI (tVar 1) (tMeth g.pass "done" (spDone g) [] E0 (tVar 0) tNil))) (tRet (tTup (tCons (tC (.int 0)) (tCons (tVar 1) tNil)))) tNext)
    (tSeq (tAsg (tBM g.K "list" (rIndex g.K) (tFld g.K (tVar 0) "states") (tCons (tOp (rIxL g.K) (tFld g.K (tVar 0) "states") (tUn (rU fun i => .int (-i)) (tC (.int 1)))) tNil)) (gName 2))
    (tSeq (tAsg (tOp rSubI (tMeth g.pass "done" (spDone g) [] E0 (tVar 0) tNil) (tVar 2)) (gName 3))
    (tRet (tTup (tCons (tOp rDivI (tOp rSubI (tVar 1) (tVar 2)) (tVar 3)) (tCons (tOp rAddI (tVar 2) (tOp rModI (tOp rSubI (tVar 1) (tVar 2)) (tVar 3))) tNil)))))))
theorem d_folded {P : Program} {w : World} {mg : Str → Option Value} {base : Heap} {g : G} {A : Around} {outer : List Env} {s : Shared} {H : Hp} {E : XK} {f : Addr} {cdv : Value} (T : Txt g mg)
    (hr : Room 1 (A.deeper (envOfC "Passages.folded" (defScope s_folded) s.heap.objs.size f cdv)))
    (h_done : Mtl P w g.K mg base 1 g.pass "done" (spDone g)) :
    PSs (cxOf CX0 P w g.K mg base N_folded "Passages.folded" (defScope s_folded) f cdv A outer s H E).nox (defBody s_folded) (t_folded g) :=
    (pss_cons (ps_if (pt_cmpR op_leI (pv 1) (pe_mtl0 h_done hr (by omega) (pv 0)) (nomark _)) (pss_one (ps_ret (pe_tup (pa_cons pe_int (pa_cons (pv 1) pa_nil))))) pss_nil)
    (pss_cons (ps_set (i := 2) sc_folded.nd rfl (Or.inl rfl) (pe_bm PySem.F.plainAttrs_list PySem.F.slot_list_index PySem.F.type_list_index mt_index (pe_fld (pv 0) rfl) (pa_cons (pe_ix ix_list (pe_fld (pv 0) rfl) (pe_un un_neg pe_int) (fun _ _ => rfl)) pa_nil)))
    (pss_cons (ps_set (i := 3) sc_folded.nd rfl (Or.inl rfl) (pe_op op_subI (pe_mtl0 h_done hr (by omega) (pv 0)) (pv 2)))
    (pss_one (ps_ret (pe_tup (pa_cons (pe_op op_divI (pe_op op_subI (pv 1) (pv 2)) (pv 3)) (pa_cons (pe_op op_addI (pv 2) (pe_op op_modI (pe_op op_subI (pv 1) (pv 2)) (pv 3))) pa_nil))))))))
def t_end (g : G) : TS :=
    (tSeq (tAsg (tMeth g.pass "folded" (spFolded g) [] E0 (tVar 0) (tCons (tVar 1) tNil)) (gTup g.K 2 (gCons (gName 2) (gCons (gName 3) gNil))))
    (tSeq (tAsg (tBM g.K "list" (rIndex g.K) (tFld g.K (tVar 0) "states") (tCons (tOp (rIxL g.K) (tFld g.K (tVar 0) "states") (tUn (rU fun i => .int (-i)) (tC (.int 1)))) tNil)) (gName 4))
    (tRet (tTup (tCons (tOp (rIxL g.K) (tFld g.K (tVar 0) "states") (tVar 3)) (tCons (tOp rAddI (tOp (rIxL g.K) (tFld g.K (tVar 0) "sums") (tVar 3)) (tOp rMulI (tVar 2) (tOp rSubI (tOp (rIxL g.K) (tFld g.K (tVar 0) "sums") (tUn (rU fun i => .int (-i)) (tC (.int 1)))) (tOp (rIxL g.K) (tFld g.K (tVar 0) "sums") (tVar 4))))) tNil))))))
theorem d_end {P : Program} {w : World} {mg : Str → Option Value} {base : Heap} {g : G} {A : Around} {outer : List Env} {s : Shared} {H : Hp} {E : XK} {f : Addr} {cdv : Value} (T : Txt g mg)
    (hr : Room 2 (A.deeper (envOfC "Passages.end" (defScope s_end) s.heap.objs.size f cdv)))
    (h_folded : Mtl P w g.K mg base 2 g.pass "folded" (spFolded g)) :
    PSs (cxOf CX0 P w g.K mg base N_end "Passages.end" (defScope s_end) f cdv A outer s H E).nox (defBody s_end) (t_end g) :=
    (pss_cons (ps_asg (pe_mtl h_folded hr (by omega) (pv 0) (pa_cons (pv 1) pa_nil)) (pg_tup rfl (pgs_cons (pg_name (i := 2) sc_end.nd rfl (Or.inl rfl)) (pgs_cons (pg_name (i := 3) sc_end.nd rfl (Or.inl rfl)) pgs_nil))))
    (pss_cons (ps_set (i := 4) sc_end.nd rfl (Or.inl rfl) (pe_bm PySem.F.plainAttrs_list PySem.F.slot_list_index PySem.F.type_list_index mt_index (pe_fld (pv 0) rfl) (pa_cons (pe_ix ix_list (pe_fld (pv 0) rfl) (pe_un un_neg pe_int) (fun _ _ => rfl)) pa_nil)))
    (pss_one (ps_ret (pe_tup (pa_cons (pe_ix ix_list (pe_fld (pv 0) rfl) (pv 3) (fun _ _ => rfl)) (pa_cons (pe_op op_addI (pe_ix ix_list (pe_fld (pv 0) rfl) (pv 3) (fun _ _ => rfl)) (pe_op op_mulI (pv 2) (pe_op op_subI (pe_ix ix_list (pe_fld (pv 0) rfl) (pe_un un_neg pe_int) (fun _ _ => rfl)) (pe_ix ix_list (pe_fld (pv 0) rfl) (pv 4) (fun _ _ => rfl))))) pa_nil)))))))
def t_check_row (g : G) : TS :=
    (tIfS (tOr (tNot (tB (tCB (rIsi g.K) (tCons (tVar 0) (tCons (tC (.ty "list")) tNil))))) (tOr (tNot (tTest (tChain rLeI rLeI (tC (.int 1)) (tCB (rLenS g.K) (tCons (tVar 0) tNil)) (tC (.int 8))))) (tNot (tB (tCB (rAll g.K) (tCons (tLc (iList g.K (tVar 0)) (gName 1) tYes (tCall spIsEntry [] E0 (tCons (tVar 1) tNil)) [1]) tNil)))))) tNever tNext)
theorem d_check_row {P : Program} {w : World} {mg : Str → Option Value} {base : Heap} {g : G} {A : Around} {outer : List Env} {s : Shared} {H : Hp} {E : XK} {f : Addr} {cdv : Value} (T : Txt g mg)
    (hr : Room 2 (A.deeper (envOfC "check_row" (defScope s_check_row) s.heap.objs.size f cdv)))
    (h_is_entry : Cl P w g.K mg base 2 "is_entry" spIsEntry []) :
    PSs (cxOf CX0 P w g.K mg base N_check_row "check_row" (defScope s_check_row) f cdv A outer s H E).nox (defBody s_check_row) (t_check_row g) :=
    (pss_one (ps_if (PW.pt (pw_or (pt_not (pt_val (pe_callB call_isi (by rfl) T.n_isinstance (by decide +kernel) (pa_cons (pv 0) (pa_cons (pe_bltn (v := .ty "list") (by rfl) T.n_list (by decide +kernel) rfl) pa_nil))))) (pw_or (pt_not (pt_chain op_leI op_leI pe_int (pe_callB call_len_seq (by rfl) T.n_len PySem.boot_len (pa_cons (pv 0) pa_nil)) (pe_gc rfl T.c_MOST_ROW))) (pw_or1 (pt_not (pt_val (pe_callB (cr_all rfl) (by rfl) T.n_all (by decide +kernel) (pa_cons (pe_lc (own := [("entry", 1)]) (g := gName 1) (tt := tYes) rfl sc_check_row.nd (pi_list (pv 0)) (blkOk_by (N := N_check_row) (sc := defScope s_check_row) (by decide +kernel)) (fun _ _ _ _ _ => pg_name (i := 1) sc_check_row.nd rfl (Or.inl rfl)) (fun _ _ _ _ _ => pts_nil) (fun _ _ _ _ _ => (pe_cl h_is_entry hr (by omega) rfl (pa_cons (pv 1) pa_nil)))) pa_nil)))))))) (pss_one ps_never) pss_nil))
def t_matched (g : G) : TS :=
    (tSeq (tFor (iRng3 (tCons (tCB rMin2 (tCons (tCB (rLenS g.K) (tCons (tVar 0) tNil)) (tCons (tCB (rLenS g.K) (tCons (tVar 1) tNil)) tNil))) (tCons (tC (.int 0)) (tCons (tUn (rU fun i => .int (-i)) (tC (.int 1))) tNil)))) (gName 2) (tIfS (tTest (tOp (rEqD g.K) (tSl (rSlL g.K) (tVar 0) tNoPart (tPart (tVar 2))) (tSl (rSlL g.K) (tVar 1) (tPart (tOp rSubI (tCB (rLenS g.K) (tCons (tVar 1) tNil)) (tVar 2))) tNoPart))) (tRet (tVar 2)) tNext))
    (tRet (tC (.int 0))))
theorem d_matched {P : Program} {w : World} {mg : Str → Option Value} {base : Heap} {g : G} {A : Around} {outer : List Env} {s : Shared} {H : Hp} {E : XK} {f : Addr} {cdv : Value} (T : Txt g mg)
    (hr : Room 0 (A.deeper (envOfC "matched" (defScope s_matched) s.heap.objs.size f cdv))) :
    PSs (cxOf CX0 P w g.K mg base N_matched "matched" (defScope s_matched) f cdv A outer s H E).nox (defBody s_matched) (t_matched g) :=
    (pss_cons (ps_for PassesOwn.never rfl (pi_range3 rfl T.n_range (pa_cons (pe_callB (cr_min2 rfl) (by rfl) T.n_min (by decide +kernel) (pa_cons (pe_callB call_len_seq (by rfl) T.n_len PySem.boot_len (pa_cons (pv 0) pa_nil)) (pa_cons (pe_callB call_len_seq (by rfl) T.n_len PySem.boot_len (pa_cons (pv 1) pa_nil)) pa_nil))) (pa_cons pe_int (pa_cons (pe_un un_neg pe_int) pa_nil)))) (pg_name (i := 2) sc_matched.nd rfl (Or.inl rfl)) (pss_one (ps_if (pt_cmpR (op_eqD hr.units) (pe_slice sl_list (pv 0) po_none (po_some (pv 2))) (pe_slice sl_list (pv 1) (po_some (pe_op op_subI (pe_callB call_len_seq (by rfl) T.n_len PySem.boot_len (pa_cons (pv 1) pa_nil)) (pv 2))) po_none) (nomark _)) (pss_one (ps_ret (pv 2))) pss_nil)))
    (pss_one (ps_ret pe_int)))
def t_row_walk (g : G) (w : World) : TS :=
    (tSeq (tAsg (tLst tNil) (gName 1))
    (tSeq (tFor (iRng1 (tCons (tOp rAddI (tCB (rLenS g.K) (tCons (tVar 0) tNil)) (tC (.int 1))) tNil)) (gName 2) (tSeq (tAsg (tDcN w (iList g.K (tVar 0)) (gName 4) tYes (tVar 4) (tCall spMatched [] E0 (tCons (tVar 0) (tCons (tOp rCat (tSl (rSlL g.K) (tVar 0) tNoPart (tPart (tVar 2))) (tLst (tCons (tVar 4) tNil))) tNil))) [4]) (gName 3))
    (tSeq (tAsg (tC (.int 0)) (gSub (tVar 3) (tC .non) (rSetN w)))
    (tDrop (tBM g.K "list" rAppend (tVar 1) (tCons (tVar 3) tNil))))))
    (tRet (tMake g.walk (spWalkInit g) [] E0 (tCons (tVar 1) (tCons (tCB (rLenS g.K) (tCons (tVar 0) tNil)) tNil))))))
theorem d_row_walk {P : Program} {w : World} {mg : Str → Option Value} {base : Heap} {g : G} {A : Around} {outer : List Env} {s : Shared} {H : Hp} {E : XK} {f : Addr} {cdv : Value} (T : Txt g mg)
    (hr : Room 2 (A.deeper (envOfC "row_walk" (defScope s_row_walk) s.heap.objs.size f cdv)))
    (h_Walk : Mkl P w g.K mg base 1 "Walk" g.walk (spWalkInit g) [])
    (h_matched : Cl P w g.K mg base 1 "matched" spMatched []) :
    PSs (cxOf CX0 P w g.K mg base N_row_walk "row_walk" (defScope s_row_walk) f cdv A outer s H E).nox (defBody s_row_walk) (t_row_walk g w) :=
    (pss_cons (ps_set (i := 1) sc_row_walk.nd rfl (Or.inl rfl) (pe_lst pa_nil))
    (pss_cons (ps_for PassesOwn.never rfl (pi_range1 rfl T.n_range (pa_cons (pe_op op_addI (pe_callB call_len_seq (by rfl) T.n_len PySem.boot_len (pa_cons (pv 0) pa_nil)) pe_int) pa_nil)) (pg_name (i := 2) sc_row_walk.nd rfl (Or.inr rfl)) (pss_cons (ps_setDcn (i := 3) (own := [("entry", 4)]) (g := gName 4) (tt := tYes) (units9 hr) rfl sc_row_walk.nd rfl rfl (sw_dict rfl rfl rfl (by decide +kernel)) (pi_list (pv 0)) (blkOk_by (N := N_row_walk) (sc := defScope s_row_walk) (by decide +kernel)) (fun _ _ _ _ _ => pg_name (i := 4) sc_row_walk.nd rfl (Or.inl rfl)) (fun _ _ _ _ _ => pts_nil) (fun _ _ _ _ _ => (pv 4)) (fun _ _ _ _ _ => (pe_cl h_matched hr (by omega) rfl (pa_cons (pv 0) (pa_cons (pe_op op_cat (pe_slice sl_list (pv 0) po_none (po_some (pv 2))) (pe_lst (pa_cons (pv 4) pa_nil))) pa_nil)))))
    (pss_cons (ps_asg pe_int (pg_sub (pv 3) pe_non (set_dictN (units9 hr))))
    (pss_one (ps_expr (pe_bm PySem.F.plainAttrs_list PySem.F.slot_list_append PySem.F.type_list_append mt_append (pv 1) (pa_cons (pv 3) pa_nil)))))))
    (pss_one (ps_ret (pe_mkl h_Walk hr (by omega) rfl (pa_cons (pv 1) (pa_cons (pe_callB call_len_seq (by rfl) T.n_len PySem.boot_len (pa_cons (pv 0) pa_nil)) pa_nil)))))))
def t_count_row (g : G) (w : World) : TS :=
    (tSeq (tDrop (tCall spCheckRow [] E0 (tCons (tVar 1) tNil)))
    (tSeq (tDrop (tCall spCheckIndex [] E0 (tCons (tVar 2) (tCons (tC (.int 0)) (tCons (tMeth g.word "length" (spLength g) [] E0 (tVar 0) tNil) tNil)))))
    (tRet (tOp (rIxT g.K) (tMeth g.walk "go_from" (spGoFrom g w) [] E0 (tCall (spRowWalk g w) [] E0 (tCons (tVar 1) tNil)) (tCons (tC (.int 0)) (tCons (tTup (tCons (tFld g.K (tVar 0) "part") (tCons (tC (.int 1)) (tCons (tC .non) tNil)))) (tCons (tVar 2) tNil)))) (tC (.int 1))))))
theorem d_count_row {P : Program} {w : World} {mg : Str → Option Value} {base : Heap} {g : G} {A : Around} {outer : List Env} {s : Shared} {H : Hp} {E : XK} {f : Addr} {cdv : Value} (T : Txt g mg)
    (hr : Room 4 (A.deeper (envOfC "count_row" (defScope s_count_row) s.heap.objs.size f cdv)))
    (h_go_from : Mtl P w g.K mg base 4 g.walk "go_from" (spGoFrom g w))
    (h_row_walk : Cl P w g.K mg base 3 "row_walk" (spRowWalk g w) [])
    (h_length : Mtl P w g.K mg base 1 g.word "length" (spLength g))
    (h_check_number : Cl P w g.K mg base 3 "check_number" spCheckIndex [])
    (h_check_row : Cl P w g.K mg base 3 "check_row" spCheckRow []) :
    PSs (cxOf CX0 P w g.K mg base N_count_row "count_row" (defScope s_count_row) f cdv A outer s H E).nox (defBody s_count_row) (t_count_row g w) :=
    (pss_cons (ps_expr (pe_cl h_check_row hr (by omega) rfl (pa_cons (pv 1) pa_nil)))
    (pss_cons (ps_expr (pe_cl h_check_number hr (by omega) rfl (pa_cons (pv 2) (pa_cons pe_int (pa_cons (pe_mtl0 h_length hr (by omega) (pv 0)) pa_nil)))))
    (pss_one (ps_ret (pe_ix ix_tup (pe_mtl h_go_from hr (by omega) (pe_cl h_row_walk hr (by omega) rfl (pa_cons (pv 1) pa_nil)) (pa_cons pe_int (pa_cons (pe_tup (pa_cons (pe_fld (pv 0) rfl) (pa_cons pe_int (pa_cons pe_non pa_nil)))) (pa_cons (pv 2) pa_nil)))) pe_int (fun _ _ => rfl))))))
def t_stands (g : G) : TS :=
    (tRet (tLc (iRng1 (tCons (tOp rAddI (tOp rSubI (tCB (rLenS g.K) (tCons (tVar 1) tNil)) (tCB (rLenS g.K) (tCons (tVar 0) tNil))) (tC (.int 1))) tNil)) (gName 2) (tTest (tOp (rEqD g.K) (tSl (rSlL g.K) (tVar 1) (tPart (tVar 2)) (tPart (tOp rAddI (tVar 2) (tCB (rLenS g.K) (tCons (tVar 0) tNil))))) (tVar 0))) (tVar 2) [2]))
theorem d_stands {P : Program} {w : World} {mg : Str → Option Value} {base : Heap} {g : G} {A : Around} {outer : List Env} {s : Shared} {H : Hp} {E : XK} {f : Addr} {cdv : Value} (T : Txt g mg)
    (hr : Room 0 (A.deeper (envOfC "_law_stands" (defScope s_stands) s.heap.objs.size f cdv))) :
    PSs (cxOf CX0 P w g.K mg base N_stands "_law_stands" (defScope s_stands) f cdv A outer s H E).nox (defBody s_stands) (t_stands g) :=
    (pss_one (ps_ret (pe_lc (own := [("_law_k", 2)]) (g := gName 2) (tt := (tTest (tOp (rEqD g.K) (tSl (rSlL g.K) (tVar 1) (tPart (tVar 2)) (tPart (tOp rAddI (tVar 2) (tCB (rLenS g.K) (tCons (tVar 0) tNil))))) (tVar 0)))) rfl sc_stands.nd (pi_range1 rfl T.n_range (pa_cons (pe_op op_addI (pe_op op_subI (pe_callB call_len_seq (by rfl) T.n_len PySem.boot_len (pa_cons (pv 1) pa_nil)) (pe_callB call_len_seq (by rfl) T.n_len PySem.boot_len (pa_cons (pv 0) pa_nil))) pe_int) pa_nil)) (blkOk_by (N := N_stands) (sc := defScope s_stands) (by decide +kernel)) (fun _ _ _ _ _ => pg_name (i := 2) sc_stands.nd rfl (Or.inl rfl)) (fun _ _ _ _ _ => (pts_one (pt_cmpR (op_eqD hr.units) (pe_slice sl_list (pv 1) (po_some (pv 2)) (po_some (pe_op op_addI (pv 2) (pe_callB call_len_seq (by rfl) T.n_len PySem.boot_len (pa_cons (pv 0) pa_nil))))) (pv 0) (nomark _)))) (fun _ _ _ _ _ => (pv 2)))))
def t_otherwise (g : G) : TS :=
    (tSeq (tAsg (tCB (rSorted g.K) (tCons (tLst (tCons (tOp rModI (tCB rInt1 (tCons (tOp (rIxL g.K) (tVar 2) (tC (.int 0))) tNil)) (tOp rAddI (tCB (rLenS g.K) (tCons (tVar 1) tNil)) (tC (.int 1)))) (tCons (tOp rModI (tCB rInt1 (tCons (tOp (rIxL g.K) (tVar 2) (tC (.int 1))) tNil)) (tOp rAddI (tCB (rLenS g.K) (tCons (tVar 1) tNil)) (tC (.int 1)))) tNil))) tNil)) (gLst g.K 2 (gCons (gName 3) (gCons (gName 4) gNil))))
    (tSeq (tAsg (tLst (tCons (tOp (rOwn2 g.word (spWordAdd g) E0) (tMeth g.word "cut" (spCut g) [] E0 (tVar 0) (tCons (tC (.int 0)) (tCons (tVar 3) tNil))) (tMeth g.word "cut" (spCut g) [] E0 (tVar 0) (tCons (tVar 3) (tCons (tCB (rLenS g.K) (tCons (tVar 1) tNil)) tNil)))) tNil)) (gName 5))
    (tSeq (tDrop (tBM g.K "list" rAppend (tVar 5) (tCons (tOp (rOwn2 g.word (spWordAdd g) E0) (tMeth g.word "cut" (spCut g) [] E0 (tVar 0) (tCons (tC (.int 0)) (tCons (tVar 3) tNil))) (tOp (rOwn2 g.word (spWordAdd g) E0) (tMeth g.word "cut" (spCut g) [] E0 (tVar 0) (tCons (tVar 3) (tCons (tVar 4) tNil))) (tMeth g.word "cut" (spCut g) [] E0 (tVar 0) (tCons (tVar 4) (tCons (tCB (rLenS g.K) (tCons (tVar 1) tNil)) tNil))))) tNil)))
    (tSeq (tAsg (tMake g.word (spWordInit g) [] E0 (tCons (tLst tNil) tNil)) (gName 6))
    (tSeq (tFor (iList g.K (tVar 1)) (gName 7) (tAsg (tOp (rOwn2 g.word (spWordAdd g) E0) (tVar 6) (tMake g.word (spWordInit g) [] E0 (tCons (tLst (tCons (tVar 7) tNil)) tNil))) (gName 6)))
    (tSeq (tAsg (tMake g.word (spWordInit g) [] E0 (tCons (tLst tNil) tNil)) (gName 8))
    (tSeq (tFor (iList g.K (tRevL g.K (tVar 1))) (gName 7) (tAsg (tOp (rOwn2 g.word (spWordAdd g) E0) (tMake g.word (spWordInit g) [] E0 (tCons (tLst (tCons (tVar 7) tNil)) tNil)) (tVar 8)) (gName 8)))
    (tRet (tOp rCat (tVar 5) (tLst (tCons (tVar 6) (tCons (tVar 8) (tCons (tOp (rOwn2 g.word (spWordAdd g) E0) (tOp (rOwn2 g.word (spWordAdd g) E0) (tMake g.word (spWordInit g) [] E0 (tCons (tLst tNil) tNil)) (tOp (rOwnI g.word (spWordMul g) E0) (tVar 0) (tC (.int 1)))) (tOp (rOwnI g.word (spWordMul g) E0) (tMake g.word (spWordInit g) [] E0 (tCons (tLst tNil) tNil)) (tC (.int 9)))) tNil)))))))))))))
theorem d_otherwise {P : Program} {w : World} {mg : Str → Option Value} {base : Heap} {g : G} {A : Around} {outer : List Env} {s : Shared} {H : Hp} {E : XK} {f : Addr} {cdv : Value} (T : Txt g mg)
    (hr : Room 10 (A.deeper (envOfC "_law_otherwise" (defScope s_otherwise) s.heap.objs.size f cdv)))
    (h_Word_add : Mtl P w g.K mg base 6 g.word (PySem.dunder (Operator.info .Add).2) (spWordAdd g))
    (h_Word : Mkl P w g.K mg base 4 "Word" g.word (spWordInit g) [])
    (h_Word_mul : Mtl P w g.K mg base 6 g.word (PySem.dunder (Operator.info .Mult).2) (spWordMul g))
    (h_cut : Mtl P w g.K mg base 6 g.word "cut" (spCut g)) :
    PSs (cxOf CX0 P w g.K mg base N_otherwise "_law_otherwise" (defScope s_otherwise) f cdv A outer s H E).nox (defBody s_otherwise) (t_otherwise g) :=
    (pss_cons (ps_asg (pe_callB cr_sorted (by rfl) T.n_sorted (by decide +kernel) (pa_cons (pe_lst (pa_cons (pe_op op_modI (pe_callTy call_int1 (by rfl) T.n_int (by decide +kernel) (pa_cons (pe_ix ix_list (pv 2) pe_int (fun _ _ => rfl)) pa_nil)) (pe_op op_addI (pe_callB call_len_seq (by rfl) T.n_len PySem.boot_len (pa_cons (pv 1) pa_nil)) pe_int)) (pa_cons (pe_op op_modI (pe_callTy call_int1 (by rfl) T.n_int (by decide +kernel) (pa_cons (pe_ix ix_list (pv 2) pe_int (fun _ _ => rfl)) pa_nil)) (pe_op op_addI (pe_callB call_len_seq (by rfl) T.n_len PySem.boot_len (pa_cons (pv 1) pa_nil)) pe_int)) pa_nil))) pa_nil)) (pg_lst rfl (pgs_cons (pg_name (i := 3) sc_otherwise.nd rfl (Or.inl rfl)) (pgs_cons (pg_name (i := 4) sc_otherwise.nd rfl (Or.inl rfl)) pgs_nil))))
    (pss_cons (ps_set (i := 5) sc_otherwise.nd rfl (Or.inl rfl) (pe_lst (pa_cons (pe_op (op_word2 (op := .Add) h_Word_add hr (by omega)) (pe_mtl h_cut hr (by omega) (pv 0) (pa_cons pe_int (pa_cons (pv 3) pa_nil))) (pe_mtl h_cut hr (by omega) (pv 0) (pa_cons (pv 3) (pa_cons (pe_callB call_len_seq (by rfl) T.n_len PySem.boot_len (pa_cons (pv 1) pa_nil)) pa_nil)))) pa_nil)))
    (pss_cons (ps_expr (pe_bm PySem.F.plainAttrs_list PySem.F.slot_list_append PySem.F.type_list_append mt_append (pv 5) (pa_cons (pe_op (op_word2 (op := .Add) h_Word_add hr (by omega)) (pe_mtl h_cut hr (by omega) (pv 0) (pa_cons pe_int (pa_cons (pv 3) pa_nil))) (pe_op (op_word2 (op := .Add) h_Word_add hr (by omega)) (pe_mtl h_cut hr (by omega) (pv 0) (pa_cons (pv 3) (pa_cons (pv 4) pa_nil))) (pe_mtl h_cut hr (by omega) (pv 0) (pa_cons (pv 4) (pa_cons (pe_callB call_len_seq (by rfl) T.n_len PySem.boot_len (pa_cons (pv 1) pa_nil)) pa_nil))))) pa_nil)))
    (pss_cons (ps_set (i := 6) sc_otherwise.nd rfl (Or.inl rfl) (pe_mkl h_Word hr (by omega) rfl (pa_cons (pe_lst pa_nil) pa_nil)))
    (pss_cons (ps_for PassesOwn.never rfl (pi_list (pv 1)) (pg_name (i := 7) sc_otherwise.nd rfl (Or.inl rfl)) (pss_one (ps_set (i := 6) sc_otherwise.nd rfl (Or.inl rfl) (pe_op (op_word2 (op := .Add) h_Word_add hr (by omega)) (pv 6) (pe_mkl h_Word hr (by omega) rfl (pa_cons (pe_lst (pa_cons (pv 7) pa_nil)) pa_nil))))))
    (pss_cons (ps_set (i := 8) sc_otherwise.nd rfl (Or.inl rfl) (pe_mkl h_Word hr (by omega) rfl (pa_cons (pe_lst pa_nil) pa_nil)))
    (pss_cons (ps_for PassesOwn.never rfl (pi_list (pe_revL (pv 1))) (pg_name (i := 7) sc_otherwise.nd rfl (Or.inl rfl)) (pss_one (ps_set (i := 8) sc_otherwise.nd rfl (Or.inl rfl) (pe_op (op_word2 (op := .Add) h_Word_add hr (by omega)) (pe_mkl h_Word hr (by omega) rfl (pa_cons (pe_lst (pa_cons (pv 7) pa_nil)) pa_nil)) (pv 8)))))
    (pss_one (ps_ret (pe_op op_cat (pv 5) (pe_lst (pa_cons (pv 6) (pa_cons (pv 8) (pa_cons (pe_op (op_word2 (op := .Add) h_Word_add hr (by omega)) (pe_op (op_word2 (op := .Add) h_Word_add hr (by omega)) (pe_mkl h_Word hr (by omega) rfl (pa_cons (pe_lst pa_nil) pa_nil)) (pe_op (op_wordI (op := .Mult) h_Word_mul T.mulI hr (by omega)) (pv 0) pe_int)) (pe_op (op_wordI (op := .Mult) h_Word_mul T.mulI hr (by omega)) (pe_mkl h_Word hr (by omega) rfl (pa_cons (pe_lst pa_nil) pa_nil)) pe_int)) pa_nil))))))))))))))
def t_powers_right (g : G) (n : Nat) : TS :=
    (tSeq (tAsg (tMake g.word (spWordInit g) [] E0 (tCons (tVar 0) tNil)) (gName 2))
    (tSeq (tAsg (tTup (tCons (tOp rModI (tCB rInt1 (tCons (tOp (rIxL g.K) (tVar 1) (tC (.int 0))) tNil)) (tC (.int 5))) (tCons (tOp rModI (tCB rInt1 (tCons (tOp (rIxL g.K) (tVar 1) (tC (.int 1))) tNil)) (tC (.int 5))) tNil))) (gTup g.K 2 (gCons (gName 3) (gCons (gName 4) gNil))))
    (tSeq (tAsg (tLst (tCons (tOp (rOwnI g.word (spWordMul g) E0) (tOp (rOwnI g.word (spWordMul g) E0) (tVar 2) (tVar 3)) (tVar 4)) (tCons (tOp (rOwnI g.word (spWordMul g) E0) (tOp (rOwnI g.word (spWordMul g) E0) (tVar 2) (tVar 4)) (tVar 3)) (tCons (tOp (rOwnI g.word (spWordMul g) E0) (tOp (rOwnI g.word (spWordMul g) E0) (tVar 2) (tVar 3)) (tVar 4)) (tCons (tOp (rOwnI g.word (spWordMul g) E0) (tVar 2) (tOp rMulI (tVar 3) (tVar 4))) tNil))))) (gName 5))
    (Evl.tCut (tIfS (tTest (tOp rGtI (tVar 4) (tC (.int 0)))) (tDrop (tBM g.K "list" rAppend (tVar 5) (tCons (tOp (rOwn2 g.word (spWordAdd g) E0) (tOp (rOwnI g.word (spWordMul g) E0) (tVar 2) (tVar 3)) (tOp (rOwnI g.word (spWordMul g) E0) (tVar 2) (tOp rSubI (tOp rMulI (tVar 3) (tVar 4)) (tVar 3)))) tNil))) tNext)
    (Evl.tCut (tIfS (tTest (tOp rGtI (tVar 3) (tC (.int 1)))) (tDrop (tBM g.K "list" rAppend (tVar 5) (tCons (tOp (rOwn2 g.word (spWordAdd g) E0) (tOp (rOwnI g.word (spWordMul g) E0) (tOp (rOwn2 g.word (spWordAdd g) E0) (tVar 2) (tVar 2)) (tVar 4)) (tOp (rOwnI g.word (spWordMul g) E0) (tVar 2) (tOp rSubI (tOp rMulI (tVar 3) (tVar 4)) (tOp rMulI (tC (.int 2)) (tVar 4))))) tNil))) tNext)
    (tSeq (tIfS (tTest (tOp (rNeD g.K) (tLc (iList g.K (tVar 5)) (gName 7) (tTest (tOp (rNeO g.word (spWordEq g n) E0) (tVar 7) (tMake g.word (spWordInit g) [] E0 (tCons (tOp rRep (tVar 0) (tOp rMulI (tVar 3) (tVar 4))) tNil)))) (tVar 7) [7]) (tLst tNil))) (tRet (tC (.bl false))) tNext)
    (tSeq (tAsg (tOp (rOwnI g.word (spWordMul g) E0) (tVar 2) (tOp rAddI (tOp rMulI (tVar 3) (tVar 4)) (tC (.int 1)))) (gName 6))
    (tRet (tOrV (tOp (rEqD g.K) (tVar 0) (tLst tNil)) (tOp (rEqD g.K) (tLc (iList g.K (tVar 5)) (gName 7) (tTest (tOp (rOwn2 g.word (spWordEq g n) E0) (tVar 7) (tVar 6))) (tVar 7) [7]) (tLst tNil)))))))))))
theorem d_powers_right {P : Program} {w : World} {mg : Str → Option Value} {base : Heap} {g : G} {n : Nat} {A : Around} {outer : List Env} {s : Shared} {H : Hp} {E : XK} {f : Addr} {cdv : Value} (T : Txt g mg)
    (hr : Room (10 + 2 * n) (A.deeper (envOfC "_law_powers_right" (defScope s_powers_right) s.heap.objs.size f cdv)))
    (h_Word_eq : Mtl P w g.K mg base (9 + 2 * n) g.word "__eq__" (spWordEq g n))
    (h_Word_mul : Mtl P w g.K mg base 6 g.word (PySem.dunder (Operator.info .Mult).2) (spWordMul g))
    (h_Word : Mkl P w g.K mg base 4 "Word" g.word (spWordInit g) [])
    (h_Word_add : Mtl P w g.K mg base 6 g.word (PySem.dunder (Operator.info .Add).2) (spWordAdd g)) :
    PSs (cxOf CX0 P w g.K mg base N_powers_right "_law_powers_right" (defScope s_powers_right) f cdv A outer s H E).nox (defBody s_powers_right) (t_powers_right g n) :=
    (pss_cons (ps_set (i := 2) sc_powers_right.nd rfl (Or.inl rfl) (pe_mkl h_Word hr (by omega) rfl (pa_cons (pv 0) pa_nil)))
    (pss_cons (ps_asg (pe_tup (pa_cons (pe_op op_modI (pe_callTy call_int1 (by rfl) T.n_int (by decide +kernel) (pa_cons (pe_ix ix_list (pv 1) pe_int (fun _ _ => rfl)) pa_nil)) pe_int) (pa_cons (pe_op op_modI (pe_callTy call_int1 (by rfl) T.n_int (by decide +kernel) (pa_cons (pe_ix ix_list (pv 1) pe_int (fun _ _ => rfl)) pa_nil)) pe_int) pa_nil))) (pg_tup rfl (pgs_cons (pg_name (i := 3) sc_powers_right.nd rfl (Or.inr rfl)) (pgs_cons (pg_name (i := 4) sc_powers_right.nd rfl (Or.inr rfl)) pgs_nil))))
    (pss_cons (ps_set (i := 5) sc_powers_right.nd rfl (Or.inl rfl) (pe_lst (pa_cons (pe_op (op_wordI (op := .Mult) h_Word_mul T.mulI hr (by omega)) (pe_op (op_wordI (op := .Mult) h_Word_mul T.mulI hr (by omega)) (pv 2) (pv 3)) (pv 4)) (pa_cons (pe_op (op_wordI (op := .Mult) h_Word_mul T.mulI hr (by omega)) (pe_op (op_wordI (op := .Mult) h_Word_mul T.mulI hr (by omega)) (pv 2) (pv 4)) (pv 3)) (pa_cons (pe_op (op_wordI (op := .Mult) h_Word_mul T.mulI hr (by omega)) (pe_op (op_wordI (op := .Mult) h_Word_mul T.mulI hr (by omega)) (pv 2) (pv 3)) (pv 4)) (pa_cons (pe_op (op_wordI (op := .Mult) h_Word_mul T.mulI hr (by omega)) (pv 2) (pe_op op_mulI (pv 3) (pv 4))) pa_nil))))))
    (Evl.pss_cut (ps_if (pt_cmpR op_gtI (pv 4) pe_int (nomark _)) (pss_one (ps_expr (pe_bm PySem.F.plainAttrs_list PySem.F.slot_list_append PySem.F.type_list_append mt_append (pv 5) (pa_cons (pe_op (op_word2 (op := .Add) h_Word_add hr (by omega)) (pe_op (op_wordI (op := .Mult) h_Word_mul T.mulI hr (by omega)) (pv 2) (pv 3)) (pe_op (op_wordI (op := .Mult) h_Word_mul T.mulI hr (by omega)) (pv 2) (pe_op op_subI (pe_op op_mulI (pv 3) (pv 4)) (pv 3)))) pa_nil)))) pss_nil)
    (Evl.pss_cut (ps_if (pt_cmpR op_gtI (pv 3) pe_int (nomark _)) (pss_one (ps_expr (pe_bm PySem.F.plainAttrs_list PySem.F.slot_list_append PySem.F.type_list_append mt_append (pv 5) (pa_cons (pe_op (op_word2 (op := .Add) h_Word_add hr (by omega)) (pe_op (op_wordI (op := .Mult) h_Word_mul T.mulI hr (by omega)) (pe_op (op_word2 (op := .Add) h_Word_add hr (by omega)) (pv 2) (pv 2)) (pv 4)) (pe_op (op_wordI (op := .Mult) h_Word_mul T.mulI hr (by omega)) (pv 2) (pe_op op_subI (pe_op op_mulI (pv 3) (pv 4)) (pe_op op_mulI pe_int (pv 4))))) pa_nil)))) pss_nil)
    (pss_cons (ps_if (pt_cmpR (op_neD hr.units) (pe_lc (own := [("_law_word", 7)]) (g := gName 7) (tt := (tTest (tOp (rNeO g.word (spWordEq g n) E0) (tVar 7) (tMake g.word (spWordInit g) [] E0 (tCons (tOp rRep (tVar 0) (tOp rMulI (tVar 3) (tVar 4))) tNil))))) rfl sc_powers_right.nd (pi_list (pv 5)) (blkOk_by (N := N_powers_right) (sc := defScope s_powers_right) (by decide +kernel)) (fun _ _ _ _ _ => pg_name (i := 7) sc_powers_right.nd rfl (Or.inl rfl)) (fun _ _ _ _ _ => (pts_one (pt_cmpR (op_neO h_Word_eq T.word_ne T.word_ob hr (by omega)) (pv 7) (pe_mkl h_Word hr (by omega) rfl (pa_cons (pe_op op_rep (pv 0) (pe_op op_mulI (pv 3) (pv 4))) pa_nil)) (nomark _)))) (fun _ _ _ _ _ => (pv 7))) (pe_lst pa_nil) (nomark _)) (pss_one (ps_ret pe_bl)) pss_nil)
    (pss_cons (ps_set (i := 6) sc_powers_right.nd rfl (Or.inr rfl) (pe_op (op_wordI (op := .Mult) h_Word_mul T.mulI hr (by omega)) (pv 2) (pe_op op_addI (pe_op op_mulI (pv 3) (pv 4)) pe_int)))
    (pss_one (ps_ret (pe_or (pe_cmpR (op_eqD hr.units) (pv 0) (pe_lst pa_nil) (nomark _)) (pe_one (pe_cmpR (op_eqD hr.units) (pe_lc (own := [("_law_word", 7)]) (g := gName 7) (tt := (tTest (tOp (rOwn2 g.word (spWordEq g n) E0) (tVar 7) (tVar 6)))) rfl sc_powers_right.nd (pi_list (pv 5)) (blkOk_by (N := N_powers_right) (sc := defScope s_powers_right) (by decide +kernel)) (fun _ _ _ _ _ => pg_name (i := 7) sc_powers_right.nd rfl (Or.inl rfl)) (fun _ _ _ _ _ => (pts_one (pt_cmpR (op_eqO h_Word_eq hr (by omega)) (pv 7) (pv 6) (nomark _)))) (fun _ _ _ _ _ => (pv 7))) (pe_lst pa_nil) (nomark _)))))))))))))
def t_long_right (g : G) (n : Nat) : TS :=
    (tSeq (tAsg (tLc (iRng1 (tCons (tC (.int 2000)) tNil)) (gName 4) tYes (tCall spEntry [] E0 (tCons (tOp rAddI (tOp rDivI (tOp (rIxL g.K) (tVar 0) (tOp rModI (tCB rInt1 (tCons (tVar 4) tNil)) (tC (.int 13)))) (tOp rAddI (tC (.int 1)) (tOp rModI (tCB rInt1 (tCons (tVar 4) tNil)) (tC (.int 7))))) (tOp rDivI (tVar 4) (tC (.int 97)))) tNil)) [4]) (gName 1))
    (tSeq (tPar 2 3 (tCons (tMake g.word (spWordInit g) [] E0 (tCons (tLst tNil) tNil)) (tCons (tMake g.word (spWordInit g) [] E0 (tCons (tLst tNil) tNil)) tNil)))
    (tSeq (tFor (iRng1 (tCons (tC (.int 400)) tNil)) (gName 4) (tSeq (tAsg (tOp (rOwn2 g.word (spWordAdd g) E0) (tVar 2) (tMake g.word (spWordInit g) [] E0 (tCons (tSl (rSlL g.K) (tVar 1) (tPart (tOp rMulI (tC (.int 5)) (tVar 4))) (tPart (tOp rAddI (tOp rMulI (tC (.int 5)) (tVar 4)) (tC (.int 5))))) tNil))) (gName 2))
    (tAsg (tOp (rOwn2 g.word (spWordAdd g) E0) (tMake g.word (spWordInit g) [] E0 (tCons (tSl (rSlL g.K) (tVar 1) (tPart (tOp rSubI (tC (.int 1995)) (tOp rMulI (tC (.int 5)) (tVar 4)))) (tPart (tOp rSubI (tC (.int 2000)) (tOp rMulI (tC (.int 5)) (tVar 4))))) tNil)) (tVar 3)) (gName 3))))
    (tSeq (tIfS (tOr (tTest (tOp (rNeO g.word (spWordEq g n) E0) (tVar 2) (tVar 3))) (tOr (tTest (tOp (rNeO g.word (spWordEq g n) E0) (tVar 3) (tMake g.word (spWordInit g) [] E0 (tCons (tVar 1) tNil)))) (tTest (tOp rNotN0 (tCall (spFirstDiff g n) [] E0 (tCons (tOp (rOwn2 g.word (spWordAdd g) E0) (tVar 3) (tVar 2)) (tCons (tOp (rOwn2 g.word (spWordAdd g) E0) (tVar 2) (tVar 3)) tNil))) (tC .non))))) (tRet (tC (.bl false))) tNext)
    (tSeq (tIfS (tOr (tTest (tOp (rNeD g.K) (tOp (rOwnI g.word (spGetItem g) E0) (tVar 3) (tC (.int 1313))) (tOp (rIxL g.K) (tVar 1) (tC (.int 1313))))) (tTest (tOp (rNeO g.word (spWordEq g n) E0) (tMeth g.word "cut" (spCut g) [] E0 (tVar 2) (tCons (tC (.int 700)) (tCons (tC (.int 1900)) tNil))) (tMeth g.word "cut" (spCut g) [] E0 (tVar 3) (tCons (tC (.int 700)) (tCons (tC (.int 1900)) tNil)))))) (tRet (tC (.bl false))) tNext)
    (tSeq (tAsg (tSl (rSlL g.K) (tVar 1) (tPart (tC (.int 500))) (tPart (tC (.int 502)))) (gName 5))
    (tRet (tChain rEqS rEqS (tCall (spCountRow g) [] E0 (tCons (tVar 3) (tCons (tVar 5) (tCons (tC (.int 2000)) tNil)))) (tCall (spCountRow g) [] E0 (tCons (tVar 2) (tCons (tVar 5) (tCons (tC (.int 2000)) tNil)))) (tCB (rLenS g.K) (tCons (tCall spStands [] E0 (tCons (tVar 5) (tCons (tVar 1) tNil))) tNil))))))))))
theorem d_long_right {P : Program} {w : World} {mg : Str → Option Value} {base : Heap} {g : G} {n : Nat} {A : Around} {outer : List Env} {s : Shared} {H : Hp} {E : XK} {f : Addr} {cdv : Value} (T : Txt g mg)
    (hr : Room (10 + 2 * n) (A.deeper (envOfC "_law_long_right" (defScope s_long_right) s.heap.objs.size f cdv)))
    (h_count_row : Cl P w g.K mg base 5 "count_row" (spCountRow g) [])
    (h_stands : Cl P w g.K mg base 1 "_law_stands" spStands [])
    (h_Word_eq : Mtl P w g.K mg base (9 + 2 * n) g.word "__eq__" (spWordEq g n))
    (h_cut : Mtl P w g.K mg base 6 g.word "cut" (spCut g))
    (h_getitem : Gtl P w g.K mg base 5 g.word (spGetItem g))
    (h_Word_add : Mtl P w g.K mg base 6 g.word (PySem.dunder (Operator.info .Add).2) (spWordAdd g))
    (h_first_difference : Cl P w g.K mg base (10 + 2 * n) "first_difference" (spFirstDiff g n) [])
    (h_Word : Mkl P w g.K mg base 4 "Word" g.word (spWordInit g) [])
    (h_entry : Cl P w g.K mg base 1 "_law_entry" spEntry []) :
    PSs (cxOf CX0 P w g.K mg base N_long_right "_law_long_right" (defScope s_long_right) f cdv A outer s H E).nox (defBody s_long_right) (t_long_right g n) :=
    (pss_cons (ps_setLc (i := 1) (own := [("_law_k", 4)]) (g := gName 4) (tt := tYes) rfl sc_long_right.nd rfl rfl (sw_true rfl rfl rfl (by decide +kernel)) (pi_range1 rfl T.n_range (pa_cons pe_int pa_nil)) (blkOk_by (N := N_long_right) (sc := defScope s_long_right) (by decide +kernel)) (fun _ _ _ _ _ => pg_name (i := 4) sc_long_right.nd rfl (Or.inl rfl)) (fun _ _ _ _ _ => pts_nil) (fun _ _ _ _ _ => (pe_cl h_entry hr (by omega) rfl (pa_cons (pe_op op_addI (pe_op op_divI (pe_ix ix_list (pv 0) (pe_op op_modI (pe_callTy call_int1 (by rfl) T.n_int (by decide +kernel) (pa_cons (pv 4) pa_nil)) pe_int) (fun _ _ => rfl)) (pe_op op_addI pe_int (pe_op op_modI (pe_callTy call_int1 (by rfl) T.n_int (by decide +kernel) (pa_cons (pv 4) pa_nil)) pe_int))) (pe_op op_divI (pv 4) pe_int)) pa_nil))))
    (pss_cons (ps_par (i := 2) (j := 3) rfl sc_long_right.nd rfl rfl (by decide) rfl rfl (pa_cons (pe_mkl h_Word hr (by omega) rfl (pa_cons (pe_lst pa_nil) pa_nil)) (pa_cons (pe_mkl h_Word hr (by omega) rfl (pa_cons (pe_lst pa_nil) pa_nil)) pa_nil)) (by rfl))
    (pss_cons (ps_for PassesOwn.never rfl (pi_range1 rfl T.n_range (pa_cons pe_int pa_nil)) (pg_name (i := 4) sc_long_right.nd rfl (Or.inl rfl)) (pss_cons (ps_set (i := 2) sc_long_right.nd rfl (Or.inl rfl) (pe_op (op_word2 (op := .Add) h_Word_add hr (by omega)) (pv 2) (pe_mkl h_Word hr (by omega) rfl (pa_cons (pe_slice sl_list (pv 1) (po_some (pe_op op_mulI pe_int (pv 4))) (po_some (pe_op op_addI (pe_op op_mulI pe_int (pv 4)) pe_int))) pa_nil))))
    (pss_one (ps_set (i := 3) sc_long_right.nd rfl (Or.inl rfl) (pe_op (op_word2 (op := .Add) h_Word_add hr (by omega)) (pe_mkl h_Word hr (by omega) rfl (pa_cons (pe_slice sl_list (pv 1) (po_some (pe_op op_subI pe_int (pe_op op_mulI pe_int (pv 4)))) (po_some (pe_op op_subI pe_int (pe_op op_mulI pe_int (pv 4))))) pa_nil)) (pv 3))))))
    (pss_cons (ps_if (PW.pt (pw_or (pt_cmpR (op_neO h_Word_eq T.word_ne T.word_ob hr (by omega)) (pv 2) (pv 3) (nomark _)) (pw_or (pt_cmpR (op_neO h_Word_eq T.word_ne T.word_ob hr (by omega)) (pv 3) (pe_mkl h_Word hr (by omega) rfl (pa_cons (pv 1) pa_nil)) (nomark _)) (pw_or1 (pt_cmpR op_notN (pe_cl h_first_difference hr (by omega) rfl (pa_cons (pe_op (op_word2 (op := .Add) h_Word_add hr (by omega)) (pv 3) (pv 2)) (pa_cons (pe_op (op_word2 (op := .Add) h_Word_add hr (by omega)) (pv 2) (pv 3)) pa_nil))) pe_non (nomark _)))))) (pss_one (ps_ret pe_bl)) pss_nil)
    (pss_cons (ps_if (PW.pt (pw_or (pt_cmpR (op_neD hr.units) (pe_ixO h_getitem hr (by omega) (pv 3) pe_int (fun _ _ => by with_unfolding_all rfl)) (pe_ix ix_list (pv 1) pe_int (fun _ _ => rfl)) (nomark _)) (pw_or1 (pt_cmpR (op_neO h_Word_eq T.word_ne T.word_ob hr (by omega)) (pe_mtl h_cut hr (by omega) (pv 2) (pa_cons pe_int (pa_cons pe_int pa_nil))) (pe_mtl h_cut hr (by omega) (pv 3) (pa_cons pe_int (pa_cons pe_int pa_nil))) (nomark _))))) (pss_one (ps_ret pe_bl)) pss_nil)
    (pss_cons (ps_set (i := 5) sc_long_right.nd rfl (Or.inl rfl) (pe_slice sl_list (pv 1) (po_some pe_int) (po_some pe_int)))
    (pss_one (ps_ret (pe_chain op_eqS op_eqS (pe_cl h_count_row hr (by omega) rfl (pa_cons (pv 3) (pa_cons (pv 5) (pa_cons pe_int pa_nil)))) (pe_cl h_count_row hr (by omega) rfl (pa_cons (pv 2) (pa_cons (pv 5) (pa_cons pe_int pa_nil)))) (pe_callB call_len_seq (by rfl) T.n_len PySem.boot_len (pa_cons (pe_cl h_stands hr (by omega) rfl (pa_cons (pv 5) (pa_cons (pv 1) pa_nil))) pa_nil)))))))))))
def t_law (g : G) (n : Nat) : TS :=
    (tSeq (tIfS (tNot (tB (tCall (spLongRight g) [] E0 (tCons (tCall spDigits [] E0 (tCons (tCall (spCell g) [] E0 (tCons (tVar 0) (tCons (tC (.int 0)) tNil))) (tCons (tC (.int 13)) tNil))) tNil)))) (tRet (tC (.bl false))) tNext)
    (tSeq (tFor (iRng1 (tCons (tCB rMin2 (tCons (tC (.int 4)) (tCons (tOp rAddI (tC (.int 1)) (tCB (rLenS g.K) (tCons (tVar 0) tNil))) tNil))) tNil)) (gName 1) (tSeq (tAsg (tCall spDigits [] E0 (tCons (tCall (spCell g) [] E0 (tCons (tVar 0) (tCons (tVar 1) tNil))) (tCons (tC (.int 70)) tNil))) (gName 2))
    (tSeq (tAsg (tCall (spBuilt g 3) [] E0 (tCons (tVar 2) (tCons (tC (.int 3)) tNil))) (gTup g.K 2 (gCons (gName 3) (gCons (gName 4) gNil))))
    (tSeq (tFor (iList g.K (tCall (spOtherwise g) [] E0 (tCons (tVar 3) (tCons (tVar 4) (tCons (tSl (rSlL g.K) (tVar 2) (tPart (tC (.int 40))) tNoPart) tNil))))) (gName 5) (tSeq (tIfS (tOr (tTest (tOp (rNeO g.word (spWordEq g n) E0) (tVar 5) (tVar 3))) (tTest (tOp rNotN0 (tCall (spFirstDiff g n) [] E0 (tCons (tVar 3) (tCons (tVar 5) tNil))) (tC .non)))) (tRet (tC (.bl false))) tNext)
    (tIfS (tTest (tOp (rNeD g.K) (tMeth g.word "entries" (spEntries g) [] E0 (tVar 5) (tCons (tC (.int 0)) (tCons (tCB (rLenS g.K) (tCons (tVar 4) tNil)) tNil))) (tVar 4))) (tRet (tC (.bl false))) tNext)))
    (tSeq (tIfS (tNot (tB (tCall (spPowersRight g) [] E0 (tCons (tCall spRow [] E0 (tCons (tSl (rSlL g.K) (tVar 2) (tPart (tC (.int 50))) tNoPart) (tCons (tOp rModI (tCB rInt1 (tCons (tOp (rIxL g.K) (tVar 2) (tC (.int 50))) tNil)) (tC (.int 5))) tNil))) (tCons (tSl (rSlL g.K) (tVar 2) (tPart (tC (.int 56))) tNoPart) tNil))))) (tRet (tC (.bl false))) tNext)
    (tIfS (tTest (tOp (rNeD g.K) (tVar 4) (tLst tNil))) (tSeq (tAsg (tOp rModI (tCB rInt1 (tCons (tOp (rIxL g.K) (tVar 2) (tC (.int 58))) tNil)) (tCB (rLenS g.K) (tCons (tVar 4) tNil))) (gName 6))
    (tSeq (tAsg (tOp (rOwn2 g.word (spWordAdd g) E0) (tOp (rOwn2 g.word (spWordAdd g) E0) (tMeth g.word "cut" (spCut g) [] E0 (tVar 3) (tCons (tC (.int 0)) (tCons (tVar 6) tNil))) (tMake g.word (spWordInit g) [] E0 (tCons (tLst (tCons (tTup (tCons (tC (.str "final")) (tCons (tC (.str "zz")) tNil))) tNil)) tNil))) (tMeth g.word "cut" (spCut g) [] E0 (tVar 3) (tCons (tOp rAddI (tVar 6) (tC (.int 1))) (tCons (tCB (rLenS g.K) (tCons (tVar 4) tNil)) tNil)))) (gName 7))
    (tIfS (tOr (tTest (tOp (rOwn2 g.word (spWordEq g n) E0) (tVar 7) (tVar 3))) (tOr (tTest (tOp rNeS (tCall (spFirstDiff g n) [] E0 (tCons (tVar 7) (tCons (tVar 3) tNil))) (tVar 6))) (tTest (tOp rNeS (tCall (spFirstDiff g n) [] E0 (tCons (tVar 3) (tCons (tVar 7) tNil))) (tVar 6))))) (tRet (tC (.bl false))) tNext))) tNext))))))
    (tRet (tC (.bl true)))))
theorem d_law {P : Program} {w : World} {mg : Str → Option Value} {base : Heap} {g : G} {n : Nat} {A : Around} {outer : List Env} {s : Shared} {H : Hp} {E : XK} {f : Addr} {cdv : Value} (T : Txt g mg)
    (hr : Room (11 + 2 * n) (A.deeper (envOfC "law" (defScope s_law) s.heap.objs.size f cdv)))
    (h_first_difference : Cl P w g.K mg base (10 + 2 * n) "first_difference" (spFirstDiff g n) [])
    (h_Word_eq : Mtl P w g.K mg base (9 + 2 * n) g.word "__eq__" (spWordEq g n))
    (h_Word_add : Mtl P w g.K mg base 6 g.word (PySem.dunder (Operator.info .Add).2) (spWordAdd g))
    (h_cut : Mtl P w g.K mg base 6 g.word "cut" (spCut g))
    (h_Word : Mkl P w g.K mg base 4 "Word" g.word (spWordInit g) [])
    (h_row : Cl P w g.K mg base 2 "_law_row" spRow [])
    (h_powers_right : Cl P w g.K mg base (11 + 2 * n) "_law_powers_right" (spPowersRight g) [])
    (h_otherwise : Cl P w g.K mg base 11 "_law_otherwise" (spOtherwise g) [])
    (h_entries : Mtl P w g.K mg base 4 g.word "entries" (spEntries g))
    (h_built : Cl P w g.K mg base 10 "_law_built" (spBuilt g 3) [])
    (h_cell : Cl P w g.K mg base 1 "_law_cell" (spCell g) [])
    (h_digits : Cl P w g.K mg base 1 "_law_digits" spDigits [])
    (h_long_right : Cl P w g.K mg base (11 + 2 * n) "_law_long_right" (spLongRight g) []) :
    PSs (cxOf CX0 P w g.K mg base N_law "law" (defScope s_law) f cdv A outer s H E).nox (defBody s_law) (t_law g n) :=
    (pss_cons (ps_if (pt_not (pt_val (pe_cl h_long_right hr (by omega) rfl (pa_cons (pe_cl h_digits hr (by omega) rfl (pa_cons (pe_cl h_cell hr (by omega) rfl (pa_cons (pv 0) (pa_cons pe_int pa_nil))) (pa_cons pe_int pa_nil))) pa_nil)))) (pss_one (ps_ret pe_bl)) pss_nil)
    (pss_cons (ps_for PassesOwn.never rfl (pi_range1 rfl T.n_range (pa_cons (pe_callB (cr_min2 rfl) (by rfl) T.n_min (by decide +kernel) (pa_cons pe_int (pa_cons (pe_op op_addI pe_int (pe_callB call_len_seq (by rfl) T.n_len PySem.boot_len (pa_cons (pv 0) pa_nil))) pa_nil))) pa_nil)) (pg_name (i := 1) sc_law.nd rfl (Or.inl rfl)) (pss_cons (ps_set (i := 2) sc_law.nd rfl (Or.inl rfl) (pe_cl h_digits hr (by omega) rfl (pa_cons (pe_cl h_cell hr (by omega) rfl (pa_cons (pv 0) (pa_cons (pv 1) pa_nil))) (pa_cons pe_int pa_nil))))
    (pss_cons (ps_asg (pe_cl h_built hr (by omega) rfl (pa_cons (pv 2) (pa_cons pe_int pa_nil))) (pg_tup rfl (pgs_cons (pg_name (i := 3) sc_law.nd rfl (Or.inl rfl)) (pgs_cons (pg_name (i := 4) sc_law.nd rfl (Or.inl rfl)) pgs_nil))))
    (pss_cons (ps_for PassesOwn.never rfl (pi_list (pe_cl h_otherwise hr (by omega) rfl (pa_cons (pv 3) (pa_cons (pv 4) (pa_cons (pe_slice sl_list (pv 2) (po_some pe_int) po_none) pa_nil))))) (pg_name (i := 5) sc_law.nd rfl (Or.inl rfl)) (pss_cons (ps_if (PW.pt (pw_or (pt_cmpR (op_neO h_Word_eq T.word_ne T.word_ob hr (by omega)) (pv 5) (pv 3) (nomark _)) (pw_or1 (pt_cmpR op_notN (pe_cl h_first_difference hr (by omega) rfl (pa_cons (pv 3) (pa_cons (pv 5) pa_nil))) pe_non (nomark _))))) (pss_one (ps_ret pe_bl)) pss_nil)
    (pss_one (ps_if (pt_cmpR (op_neD hr.units) (pe_mtl h_entries hr (by omega) (pv 5) (pa_cons pe_int (pa_cons (pe_callB call_len_seq (by rfl) T.n_len PySem.boot_len (pa_cons (pv 4) pa_nil)) pa_nil))) (pv 4) (nomark _)) (pss_one (ps_ret pe_bl)) pss_nil))))
    (pss_cons (ps_if (pt_not (pt_val (pe_cl h_powers_right hr (by omega) rfl (pa_cons (pe_cl h_row hr (by omega) rfl (pa_cons (pe_slice sl_list (pv 2) (po_some pe_int) po_none) (pa_cons (pe_op op_modI (pe_callTy call_int1 (by rfl) T.n_int (by decide +kernel) (pa_cons (pe_ix ix_list (pv 2) pe_int (fun _ _ => rfl)) pa_nil)) pe_int) pa_nil))) (pa_cons (pe_slice sl_list (pv 2) (po_some pe_int) po_none) pa_nil))))) (pss_one (ps_ret pe_bl)) pss_nil)
    (pss_one (ps_if (pt_cmpR (op_neD hr.units) (pv 4) (pe_lst pa_nil) (nomark _)) (pss_cons (ps_set (i := 6) sc_law.nd rfl (Or.inl rfl) (pe_op op_modI (pe_callTy call_int1 (by rfl) T.n_int (by decide +kernel) (pa_cons (pe_ix ix_list (pv 2) pe_int (fun _ _ => rfl)) pa_nil)) (pe_callB call_len_seq (by rfl) T.n_len PySem.boot_len (pa_cons (pv 4) pa_nil))))
    (pss_cons (ps_set (i := 7) sc_law.nd rfl (Or.inl rfl) (pe_op (op_word2 (op := .Add) h_Word_add hr (by omega)) (pe_op (op_word2 (op := .Add) h_Word_add hr (by omega)) (pe_mtl h_cut hr (by omega) (pv 3) (pa_cons pe_int (pa_cons (pv 6) pa_nil))) (pe_mkl h_Word hr (by omega) rfl (pa_cons (pe_lst (pa_cons (pe_tup (pa_cons pe_str (pa_cons pe_str pa_nil))) pa_nil)) pa_nil))) (pe_mtl h_cut hr (by omega) (pv 3) (pa_cons (pe_op op_addI (pv 6) pe_int) (pa_cons (pe_callB call_len_seq (by rfl) T.n_len PySem.boot_len (pa_cons (pv 4) pa_nil)) pa_nil)))))
    (pss_one (ps_if (PW.pt (pw_or (pt_cmpR (op_eqO h_Word_eq hr (by omega)) (pv 7) (pv 3) (nomark _)) (pw_or (pt_cmpR op_neS (pe_cl h_first_difference hr (by omega) rfl (pa_cons (pv 7) (pa_cons (pv 3) pa_nil))) (pv 6) (nomark _)) (pw_or1 (pt_cmpR op_neS (pe_cl h_first_difference hr (by omega) rfl (pa_cons (pv 3) (pa_cons (pv 7) pa_nil))) (pv 6) (nomark _)))))) (pss_one (ps_ret pe_bl)) pss_nil)))) pss_nil)))))))
    (pss_one (ps_ret pe_bl))))
end RH
set_option exponentiation.threshold 256
set_option Elab.async false
set_option linter.all false
set_option maxRecDepth 100000
set_option maxHeartbeats 4000000
namespace RH
open PySem PySem.Spec PyProof.Rows L2
/-- the ends of a def's body -/
abbrev EndQ (Q : VK) : Ends := { nx := fun _ H' => Q .non H', rt := Q }
theorem sameNew {H : Hp} {p : Addr} {o : HO} (h : H p = none) : Same H (upd H p o) := fun b u e => by
  rw [upd_ne (ne_of_none e h)]; exact e
theorem samePut {H H' : Hp} {p : Addr} {o : HO} (s : Same H H') (h : H p = none) : Same H (upd H' p o) := fun b u e => by
  rw [upd_ne (ne_of_none e h)]; exact s b u e
theorem sT {K : PySem.W.Frag} {H : Hp} {a : Addr} {xs : List V} (h : H a = some (.tup xs)) : SqT K H a xs := Or.inl (Or.inl h)
theorem sL {K : PySem.W.Frag} {H : Hp} {a : Addr} {xs : List V} (h : H a = some (.lst xs)) : SqL K H a xs := Or.inl (Or.inl h)
section
variable {g : G} {mg : Str → Option Value} {σ : L2.St} {H : Hp} {i : Nat}
/-- isinstance(x, T), x a name -/
theorem q_isi {Q : VK} {v : V} {T : String} {t : Value} {b : Bool} (hv : σ[i]? = some (some v)) (ty : TyX g.K H v t) (hk : PySem.W.kitOne g.K t (.type T) = some b) (q : Q (.bl b) H) :
    tCB (rIsi g.K) (tCons (tVar i) (tCons (tC (.ty T)) tNil)) σ H Q := ⟨v, hv, v, .ty T, t, .type T, b, rfl, .ty T, ty, hk, q⟩
theorem ty_int (n : Int) : TyX g.K H (.int n) (.type "int") := .base (.int n)
theorem kit_ii : PySem.W.kitOne g.K (.type "int") (.type "int") = some true := kit_ty (by decide +kernel)
theorem kit_ib : PySem.W.kitOne g.K (.type "int") (.type "bool") = some false := kit_ty (by decide +kernel)
theorem kit_tt : PySem.W.kitOne g.K (.type "tuple") (.type "tuple") = some true := kit_ty (by decide +kernel)
theorem kit_ss : PySem.W.kitOne g.K (.type "str") (.type "str") = some true := kit_ty (by decide +kernel)
theorem kit_ns : PySem.W.kitOne g.K (.type "NoneType") (.type "str") = some false := kit_ty (by decide +kernel)
theorem kit_ll : PySem.W.kitOne g.K (.type "list") (.type "list") = some true := kit_ty (by decide +kernel)
theorem ty_ent {e : Ent} {v : V} (h : EntV H e v) : TyX g.K H v (.type "tuple") := by
  obtain ⟨_, a, rfl, h⟩ := h
  exact .base (.tup h)
theorem ty_part (T : Txt g mg) {v : V} {w : List Ent} {d z : Nat} (h : PR g.part H v w d z) : TyX g.K H v (.ref g.part) := by
  obtain ⟨a, dx, l, lv, rv, t, tf, rfl, e⟩ := h.ins
  exact .base (.ins e T.part T.part_cl T.cls_get T.cls_tk T.part_ob)
/-- isinstance(unit, tuple) -/
theorem q_isU (T : Txt g mg) {Q : Bool → Hp → Prop} {v : V} {u : UD} (hv : σ[i]? = some (some v)) (h : UnV g.part H u v) (q : Q u.s.isNone H) :
    tB (tCB (rIsi g.K) (tCons (tVar i) (tCons (tC (.ty "tuple")) tNil))) σ H Q := by
  unfold UnV at h
  split at h
  · rename_i hs
    rw [hs] at q
    obtain ⟨_, e, _, he⟩ := h
    exact q_isi hv (ty_ent he) kit_tt ⟨true, rfl, q⟩
  · rename_i hs
    rw [hs] at q
    exact q_isi hv (ty_part T h.2) T.part_tup ⟨false, rfl, q⟩
/-- the same of any expression -/
theorem q_isT (T : Txt g mg) {te : TE} {Q : Bool → Hp → Prop} {v : V} {u : UD} (hv : ∀ R : VK, R v H → te σ H R) (h : UnV g.part H u v) (q : Q u.s.isNone H) :
    tB (tCB (rIsi g.K) (tCons te (tCons (tC (.ty "tuple")) tNil))) σ H Q := by
  unfold UnV at h
  split at h
  · rename_i hs
    rw [hs] at q
    obtain ⟨_, e, _, he⟩ := h
    exact hv _ ⟨v, .ty "tuple", _, _, true, rfl, .ty "tuple", ty_ent he, kit_tt, true, rfl, q⟩
  · rename_i hs
    rw [hs] at q
    exact hv _ ⟨v, .ty "tuple", _, _, false, rfl, .ty "tuple", ty_part T h.2, T.part_tup, false, rfl, q⟩
end
section
variable {g : G} {mg : Str → Option Value} {vs : List V} {H : Hp} {Q : VK} {E : XK}
theorem p_is_integer (h : spIsInteger vs H Q E) : t_is_integer g (EndQ Q) (start N_is_integer vs) H := by
  obtain ⟨i, rfl, q⟩ := h
  refine q_isi (v := .int i) rfl (ty_int i) kit_ii ⟨true, rfl, iteT ?_⟩
  exact q_isi (v := .int i) rfl (ty_int i) kit_ib ⟨false, rfl, q⟩
theorem p_is_between (h : spIsBetween vs H Q E) : t_is_between g (EndQ Q) (start N_is_between vs) H := by
  obtain ⟨i, lo, hi, rfl, q⟩ := h
  refine ⟨_, rfl, i, rfl, true, rfl, iteT ?_⟩
  refine ⟨_, rfl, _, rfl, iLe ⟨_, rfl, ?_⟩⟩
  by_cases h1 : lo ≤ i
  · rw [decide_eq_true h1] at q ⊢
    exact iteT ⟨_, rfl, iLe q⟩
  · rw [decide_eq_false h1] at q ⊢
    exact iteF q
theorem pf_letters (l lv rv t tf w : V) : (pf l lv rv t tf w).lookup ("letters" : Str) = some l := by rfl
theorem pf_left (l lv rv t tf w : V) : (pf l lv rv t tf w).lookup ("left" : Str) = some lv := by rfl
theorem pf_right (l lv rv t tf w : V) : (pf l lv rv t tf w).lookup ("right" : Str) = some rv := by rfl
theorem pf_times (l lv rv t tf w : V) : (pf l lv rv t tf w).lookup ("times" : Str) = some t := by rfl
theorem pf_turned (l lv rv t tf w : V) : (pf l lv rv t tf w).lookup ("turned_from" : Str) = some tf := by rfl
theorem pf_wide (l lv rv t tf w : V) : (pf l lv rv t tf w).lookup ("wide" : Str) = some w := by rfl
/-- e.wide of a part -/
theorem q_wide (T : Txt g mg) {ta : TE} {σ : L2.St} {v : V} {w : List Ent} {d z : Nat} (h : PR g.part H v w d z) (hv : ∀ R : VK, R v H → ta σ H R) (q : Q (.int (w.length : Nat)) H) : tFld g.K ta "wide" σ H Q := by
  obtain ⟨a, dx, l, lv, rv, t, tf, rfl, e⟩ := h.ins
  exact hv _ ⟨a, _, dx, _, _, rfl, e, T.part, T.p_wide, pf_wide .., q⟩
theorem p_width (T : Txt g mg) (h : spWidth g vs H Q E) : t_width g (EndQ Q) (start N_width vs) H := by
  obtain ⟨v, u, rfl, hu, q⟩ := h
  refine q_isU T (u := u) rfl hu ?_
  unfold UnV at hu
  split at hu
  · rename_i hs
    obtain ⟨_, e, he, _⟩ := hu
    rw [hs]
    refine iteT ?_
    rw [he] at q
    exact q
  · rename_i hs
    rw [hs]
    exact iteF (q_wide T hu.2 (fun R r => ⟨_, rfl, r⟩) q)
end
end RH
set_option exponentiation.threshold 256
set_option Elab.async false
set_option linter.all false
set_option maxRecDepth 100000
set_option maxHeartbeats 4000000
namespace RH
open PySem PySem.Spec PyProof.Rows L2
theorem upd_self {H : Hp} {a : Addr} {o : HO} (h : H a = some o) : upd H a o = H := by
  funext b
  unfold upd
  split
  · rename_i e; rw [e, h]
  · rfl
theorem q_setf {K : PySem.W.Frag} {C a dx : Addr} {fs : List (Str × V)} {f : Str} {tv : TE} {σ : L2.St} {H : Hp} {i : Nat} {y : V} {D : Ends} (hi : σ[i]? = some (some (.ref a))) (c : Cls K C) (n : NoAttr K C f) (hl : fs.length < 1000)
    (hv : ∀ R : VK, R y (upd H a (.ins C dx fs)) → tv σ (upd H a (.ins C dx fs)) R) (q : D.nx σ (upd H a (.ins C dx (putF f y fs)))) : sFld K (tVar i) tv f D σ (upd H a (.ins C dx fs)) :=
  hv _ ⟨_, hi, a, C, dx, fs, rfl, upd_same, c, n, hl, by rw [upd_upd]; exact q⟩
section
variable {g : G} {mg : Str → Option Value} {vs : List V} {H : Hp} {Q : VK} {E : XK}
theorem dec_ref (a : Addr) : decide (V.ref a = V.non) = false := decide_eq_false (fun h => nomatch h)
theorem p_Part_init (T : Txt g mg) (h : spPartInit g vs H Q E) : t_Part_init g (EndQ Q) (start N_Part_init vs) H := by
  obtain ⟨a, dx, row, lv, rv, t, tf, n, rfl, ha, hw, q⟩ := h
  rw [← upd_self ha]
  refine (show sFld g.K (tVar 0) (tVar 1) "letters" _ _ _ from q_setf (y := row) rfl T.part T.p_letters (by show (0 : Nat) < 1000; decide) (fun R r => ⟨_, rfl, r⟩) ?_)
  refine (show sFld g.K (tVar 0) (tVar 2) "left" _ _ _ from q_setf (y := lv) rfl T.part T.p_left (by show (1 : Nat) < 1000; decide) (fun R r => ⟨_, rfl, r⟩) ?_)
  refine (show sFld g.K (tVar 0) (tVar 3) "right" _ _ _ from q_setf (y := rv) rfl T.part T.p_right (by show (2 : Nat) < 1000; decide) (fun R r => ⟨_, rfl, r⟩) ?_)
  refine (show sFld g.K (tVar 0) (tVar 4) "times" _ _ _ from q_setf (y := t) rfl T.part T.p_times (by show (3 : Nat) < 1000; decide) (fun R r => ⟨_, rfl, r⟩) ?_)
  refine (show sFld g.K (tVar 0) (tVar 5) "turned_from" _ _ _ from q_setf (y := tf) rfl T.part T.p_turned (by show (4 : Nat) < 1000; decide) (fun R r => ⟨_, rfl, r⟩) ?_)
  rcases hw with ⟨rfl, p, ys, rfl, hp, rfl⟩ | ⟨b, db, fs, m, k, rfl, rfl, rfl, hb, hm, hc, rfl⟩ | ⟨b, db, fs, m, c, dc, gs, k, rfl, rfl, hb, hm, hcc, hk, rfl⟩
  · refine ⟨_, rfl, rfl, true, rfl, iteT ?_⟩
    have hp' : ∀ o, upd H a o p = some (.tup ys) := fun o => by rw [upd_ne (ne_of hp ha (by intro z; cases z))]; exact hp
    exact (show sFld g.K (tVar 0) _ "wide" _ _ _ from q_setf (y := .int (ys.length : Nat)) rfl T.part T.p_wide (by show (5 : Nat) < 1000; decide) (fun R r => ⟨_, rfl, p, ys, rfl, .inr (sT (hp' _)), r⟩) q)
  · have hb' : ∀ o, upd H a o b = some (.ins g.part db fs) := fun o => by
      rw [upd_ne (ne_of hb ha (by rintro z; injection z with _ _ z; subst z; cases hm))]; exact hb
    refine ⟨_, rfl, rfl, false, by rw [dec_ref], iteF ?_⟩
    refine ⟨_, rfl, rfl, true, rfl, iteT ?_⟩
    exact (show sFld g.K (tVar 0) _ "wide" _ _ _ from q_setf (y := .int (m * k)) rfl T.part T.p_wide (by show (5 : Nat) < 1000; decide) (fun R r => ⟨_, rfl, b, _, db, fs, _, rfl, hb' _, T.part, T.p_wide, hm, _, rfl, iMul hc r⟩) q)
  · have hb' : ∀ o, upd H a o b = some (.ins g.part db fs) := fun o => by
      rw [upd_ne (ne_of hb ha (by rintro z; injection z with _ _ z; subst z; cases hm))]; exact hb
    have hc' : ∀ o, upd H a o c = some (.ins g.part dc gs) := fun o => by
      rw [upd_ne (ne_of hcc ha (by rintro z; injection z with _ _ z; subst z; cases hk))]; exact hcc
    refine ⟨_, rfl, rfl, false, by rw [dec_ref], iteF ?_⟩
    refine ⟨_, rfl, rfl, false, by rw [dec_ref], iteF ?_⟩
    exact (show sFld g.K (tVar 0) _ "wide" _ _ _ from q_setf (y := .int (m + k)) rfl T.part T.p_wide (by show (5 : Nat) < 1000; decide) (fun R r => ⟨_, rfl, b, _, db, fs, _, rfl, hb' _, T.part, T.p_wide, hm, _, rfl, c, _, dc, gs, _, rfl, hc' _, T.part, T.p_wide, hk, iAdd r⟩) q)
/-- Part(..): what the new one holds -/
theorem q_Part {ta : TA} {dvs : List V} {σ : L2.St} {row lv rv t tf : V} {n : Int} (ha : ∀ R : List V → Hp → Prop, (∀ vs, vs ++ dvs = [row, lv, rv, t, tf] → R vs H) → ta σ H R) (hw : WideOk g H row lv rv t n)
    (q : ∀ x dx H', Same H H' → H' x = some (.ins g.part dx (pf row lv rv t tf (.int n))) → Q (.ref x) H') : tMake g.part (spPartInit g) dvs E0 ta σ H Q := by
  refine ha _ fun vs e x dx nx nd ne => ?_
  have s1 : Same H (upd (upd H dx (.own x)) x (.ins g.part dx [])) := samePut (sameNew nd) nx
  refine ⟨x, dx, row, lv, rv, t, tf, n, by rw [e], upd_same, ?_, rfl, q x dx _ ?_ upd_same⟩
  · rcases hw with ⟨h1, p, ys, h2, hp, h3⟩ | ⟨b, db, fs, m, k, h1, h2, h3, hb, hm, hc, h4⟩ | ⟨b, db, fs, m, c, dc, gs, k, h1, h2, hb, hm, hcc, hk, h4⟩
    · exact .inl ⟨h1, p, ys, h2, s1 _ _ hp, h3⟩
    · exact .inr (.inl ⟨b, db, fs, m, k, h1, h2, h3, s1 _ _ hb, hm, hc, h4⟩)
    · exact .inr (.inr ⟨b, db, fs, m, c, dc, gs, k, h1, h2, s1 _ _ hb, hm, s1 _ _ hcc, hk, h4⟩)
  · exact samePut s1 nx
def eu (e : Ent) : UD := ⟨[e], 1, none⟩
theorem den_eu : ∀ row : List Ent, den (row.map eu) = row
  | [] => rfl
  | e :: r => by
    show rp 1 [e] ++ den (r.map eu) = e :: r
    rw [rp_one, den_eu r]; rfl
theorem usz_eu : ∀ row : List Ent, usz (row.map eu) = 2 * row.length
  | [] => rfl
  | e :: r => by
    show 2 + 0 + usz (r.map eu) = 2 * (r.length + 1)
    rw [usz_eu r]; omega
theorem small3 : (3 : Nat) ≤ sizeLine := by decide
theorem p_opened (T : Txt g mg) (h : spOpened g vs H Q E) : t_opened g (EndQ Q) (start N_opened vs) H := by
  obtain ⟨v, r, w, d, z, us, rfl, hp, hr, q⟩ := h
  cases hp with
  | @leaf a dx l es row wb t tf bv k d zb ha hl he ht hb =>
    refine ⟨_, rfl, a, _, dx, _, _, rfl, ha, T.part, T.p_right, pf_right .., rfl, _, rfl, iteF ?_⟩
    refine ⟨_, rfl, a, _, dx, _, _, rfl, ha, T.part, T.p_left, pf_left .., rfl, _, rfl, iteF ?_⟩
    refine ⟨_, rfl, a, _, dx, _, _, rfl, ha, T.part, T.p_letters, pf_letters .., l, es, rfl, sT hl, fun p np => ⟨p, rfl, ⟨_, sT upd_same⟩, ?_⟩⟩
    have s0 : Same H (upd H p (.tup es.reverse)) := sameNew np
    have hlen : es.length = w.length := he.len
    refine for_tup (K := g.K) (a := p) (xs := es.reverse) (fun i σ H' => Same (upd H p (.tup es.reverse)) H' ∧ ∃ r' en, σ = [some (.ref a), some r', en] ∧ UR g.part H' ((w.drop (w.length - i)).map eu ++ us) r')
      ⟨Same.refl _, r, none, rfl, ?_⟩ (fun i σ H' _ x => sT (x.1 _ _ upd_same)) ?_ ?_
    · rw [Nat.sub_zero, List.drop_length]
      exact hr.mono s0
    · rintro i x σ H' hx ⟨sm, r', en, rfl, hu⟩
      have hi : i < es.length := by
        have := (List.getElem?_eq_some_iff.mp hx).1
        rwa [List.length_reverse] at this
      have hx2 : es[es.length - 1 - i]? = some x := by
        rw [List.getElem?_reverse hi] at hx; exact hx
      obtain ⟨e, he1, he2⟩ := he.get hx2
      refine ⟨_, rfl, _, rfl, small3, fun p2 np2 => ?_⟩
      refine ⟨sm.trans (sameNew np2), .ref p2, some x, rfl, ?_⟩
      have e1 : w.drop (w.length - (i + 1)) = e :: w.drop (w.length - i) := by
        rw [hlen] at he1 hi
        have hk : w.length - (i + 1) < w.length := by omega
        rw [List.drop_eq_getElem_cons hk, show w.length - (i + 1) + 1 = w.length - i by omega]
        congr 1
        have := (List.getElem?_eq_some_iff.mp he1).2
        rw [← this]
        congr 1
        omega
      rw [e1]
      exact ⟨p2, x, r', rfl, upd_same, ⟨Nat.le_refl 1, e, rfl, he2.mono ((s0.trans sm).trans (sameNew np2))⟩, hu.mono (sameNew np2)⟩
    · rintro σ H' ⟨sm, r', en, rfl, hu⟩
      rw [List.length_reverse, hlen, Nat.sub_self, List.drop_zero] at hu
      refine ⟨_, rfl, q H' r' (w.map eu) (s0.trans sm) hu ⟨den_eu w, by rw [usz_eu]; omega, fun c hc => ?_, fun c hc => ?_⟩⟩
      · obtain ⟨e, _, rfl⟩ := List.mem_map.mp hc
        exact Nat.zero_le _
      · obtain ⟨e, he3, rfl⟩ := List.mem_map.mp hc
        have : 0 < w.length := List.length_pos_of_mem he3
        exact ⟨this, this⟩
  | @rep a dx l lv tf bv w wb n k d z zb ha hl hn hw hp ht hb =>
    refine ⟨_, rfl, a, _, dx, _, _, rfl, ha, T.part, T.p_right, pf_right .., rfl, _, rfl, iteF ?_⟩
    refine ⟨_, rfl, a, _, dx, _, _, rfl, ha, T.part, T.p_left, pf_left .., rfl, _, rfl, ?_⟩
    obtain ⟨b, rfl⟩ := hp.ref
    rw [dec_ref]
    refine iteT ?_
    refine ⟨_, rfl, a, _, dx, _, _, rfl, ha, T.part, T.p_left, pf_left .., _, rfl, a, _, dx, _, _, rfl, ha, T.part, T.p_times, pf_times .., _, rfl, small3, fun p np => ?_⟩
    refine q _ (.ref p) [⟨w, n, some (d, z)⟩] (sameNew np) ⟨p, _, _, rfl, upd_same, ⟨hw, hp.mono (sameNew np)⟩, hr.mono (sameNew np)⟩ ⟨?_, ?_, ?_, ?_⟩
    · show rp n w ++ [] = rp n w
      rw [List.append_nil]
    · show 2 + z + 0 ≤ z + 3
      omega
    · intro c hc
      cases List.mem_singleton.mp hc
      show (if n ≤ 1 then d else d + 1) ≤ d + 1
      split <;> omega
    · intro c hc
      cases List.mem_singleton.mp hc
      have h1 : 0 < w.length := List.length_pos_iff.mpr hw
      rw [rp_len]
      refine ⟨?_, ?_⟩
      · show w.length ≤ n * w.length
        exact Nat.le_mul_of_pos_left _ hn
      · show n ≤ n * w.length
        exact Nat.le_mul_of_pos_right _ h1
  | @cat a dx l lv rv t tf bv w1 w2 wb k d z1 z2 zb ha hl h1 h2 hp hq ht hb =>
    refine ⟨_, rfl, a, _, dx, _, _, rfl, ha, T.part, T.p_right, pf_right .., rfl, _, rfl, ?_⟩
    obtain ⟨b, rfl⟩ := hp.ref
    obtain ⟨c, rfl⟩ := hq.ref
    rw [dec_ref]
    refine iteT ?_
    refine ⟨_, rfl, a, _, dx, _, _, rfl, ha, T.part, T.p_left, pf_left .., _, rfl, a, _, dx, _, _, rfl, ha, T.part, T.p_right, pf_right .., _, rfl, small3, fun p np => ?_⟩
    refine ⟨small3, fun p2 np2 => ?_⟩
    have s1 : Same H (upd H p (.tup [.ref c, .int 1, r])) := sameNew np
    have s2 := s1.trans (sameNew (o := .tup [.ref b, .int 1, .ref p]) np2)
    refine q _ (.ref p2) [⟨w1, 1, some (d, z1)⟩, ⟨w2, 1, some (d, z2)⟩] s2 ⟨p2, _, _, rfl, upd_same, ⟨h1, hp.mono s2⟩, p, _, _, rfl, ?_, ⟨h2, hq.mono s2⟩, hr.mono s2⟩ ⟨?_, ?_, ?_, ?_⟩
    · rw [upd_ne (ne_of_none (upd_same (H := H)) np2)]
      exact upd_same
    · show rp 1 w1 ++ (rp 1 w2 ++ []) = w1 ++ w2
      rw [rp_one, rp_one, List.append_nil]
    · show 2 + z1 + (2 + z2 + 0) ≤ z1 + z2 + 5
      omega
    · intro c hc
      rcases List.mem_cons.mp hc with rfl | hc
      · exact Nat.le_refl d
      · cases List.mem_singleton.mp hc
        exact Nat.le_refl d
    · have l1 : 0 < w1.length := List.length_pos_iff.mpr h1
      have l2 : 0 < w2.length := List.length_pos_iff.mpr h2
      intro c hc
      rw [List.length_append]
      rcases List.mem_cons.mp hc with rfl | hc
      · exact ⟨by show w1.length ≤ _; omega, by show 1 ≤ _; omega⟩
      · cases List.mem_singleton.mp hc
        exact ⟨by show w2.length ≤ _; omega, by show 1 ≤ _; omega⟩
end
end RH
set_option exponentiation.threshold 256
set_option Elab.async false
set_option linter.all false
set_option maxRecDepth 100000
set_option maxHeartbeats 4000000
set_option exponentiation.threshold 100
namespace RH
open PySem PySem.Spec PyProof.Rows L2
section
variable {g : G} {mg : Str → Option Value} {vs : List V} {H : Hp} {Q : VK} {E : XK}
theorem dec_int {m n : Int} : decide (V.int m = V.int n) = decide (m = n) := by
  by_cases h : m = n
  · rw [decide_eq_true h, decide_eq_true (by rw [h])]
  · rw [decide_eq_false h, decide_eq_false (fun q => h (by injection q))]
theorem dec_nil (w : List Ent) : decide (V.int (w.length : Nat) = V.int 0) = decide (w = []) := by
  rw [dec_int]
  by_cases h : w = []
  · subst h; rfl
  · have : 0 < w.length := List.length_pos_iff.mpr h
    rw [decide_eq_false h, decide_eq_false (by omega)]
/-- e.wide == 0 -/
theorem q_wideZ (T : Txt g mg) {ta : TE} {σ : L2.St} {v : V} {w : List Ent} {d z : Nat} {R : Bool → Hp → Prop} (h : PR g.part H v w d z) (hv : ∀ R : VK, R v H → ta σ H R) (q : R (decide (w = [])) H) :
    tTest (tOp rEqS (tFld g.K ta "wide") (tC (.int 0))) σ H R := by
  refine q_wide (Q := fun x H1 => rEqS x (.int 0) H1 fun x H' => ∃ k, x = .bl k ∧ R k H') T h hv (sEq rfl ⟨_, rfl, ?_⟩)
  rw [dec_nil]
  exact q
/-- a Part at the end of its making -/
theorem q_PartT {row lv rv t tf : V} {n : Int} {vs dvs : List V} (e : vs ++ dvs = [row, lv, rv, t, tf]) (hw : WideOk g H row lv rv t n) (q : ∀ x dx H', Same H H' → H' x = some (.ins g.part dx (pf row lv rv t tf (.int n))) → Q (.ref x) H') :
    ∀ x dx, H x = none → H dx = none → dx ≠ x → spPartInit g (.ref x :: (vs ++ dvs)) (upd (upd H dx (.own x)) x (.ins g.part dx [])) (fun v H2 => v = .non ∧ Q (.ref x) H2) E0 := by
  have k := q_Part (ta := fun _ H R => R vs H) (dvs := dvs) (σ := []) (fun R r => r vs e) hw q
  exact k
/-- the same with what follows left open -/
theorem q_PartR {row lv rv t tf : V} {n : Int} {vs dvs : List V} {R : VK} {x dx : Addr} (e : vs ++ dvs = [row, lv, rv, t, tf]) (hw : WideOk g H row lv rv t n) (nx : H x = none) (nd : H dx = none) (ne : dx ≠ x)
    (q : ∀ H', Same H H' → H' x = some (.ins g.part dx (pf row lv rv t tf (.int n))) → R .non H') : spPartInit g (.ref x :: (vs ++ dvs)) (upd (upd H dx (.own x)) x (.ins g.part dx [])) R E0 := by
  have s1 : Same H (upd (upd H dx (.own x)) x (.ins g.part dx [])) := samePut (sameNew nd) nx
  refine ⟨x, dx, row, lv, rv, t, tf, n, by rw [e], upd_same, ?_, q _ (samePut s1 nx) upd_same⟩
  rcases hw with ⟨h1, p, ys, h2, hp, h3⟩ | ⟨b, db, fs, m, k, h1, h2, h3, hb, hm, hc, h4⟩ | ⟨b, db, fs, m, c, dc, gs, k, h1, h2, hb, hm, hcc, hk, h4⟩
  · exact .inl ⟨h1, p, ys, h2, s1 _ _ hp, h3⟩
  · exact .inr (.inl ⟨b, db, fs, m, k, h1, h2, h3, s1 _ _ hb, hm, hc, h4⟩)
  · exact .inr (.inr ⟨b, db, fs, m, c, dc, gs, k, h1, h2, s1 _ _ hb, hm, s1 _ _ hcc, hk, h4⟩)
theorem wide_leaf {H : Hp} {p : Addr} {ys : List V} (h : H p = some (.tup ys)) {rv t : V} : WideOk g H (.ref p) .non rv t (ys.length : Nat) := .inl ⟨rfl, p, ys, rfl, h, rfl⟩
theorem lim_log {n k : Nat} (h : n < 2 ^ k) (hk : 0 < k) : n.log2 < k := by
  by_cases h0 : n = 0
  · subst h0; exact hk
  · exact (Nat.log2_lt h0).mpr h
theorem nat_log {n k : Nat} (h : n < 2 ^ k) (hk : 0 < k) : ((n : Nat) : Int).natAbs.log2 < k := by
  rw [Int.natAbs_natCast]; exact lim_log h hk
/-- products of numbers of letters -/
theorem mulW {m n : Nat} (hm : m < 2 ^ 100000) (hn : n < 2 ^ 100000) : CMulW (m : Nat) (n : Nat) := by
  have a := nat_log hm (by decide)
  have b := nat_log hn (by decide)
  show ((m : Nat) : Int).natAbs.log2 + ((n : Nat) : Int).natAbs.log2 < 1000000
  omega
theorem lim_pow (k e : Nat) (he : e ≤ 90000) {n : Nat} (h : n < 2 ^ e * LIM) : n < 2 ^ 100000 := by
  refine Nat.lt_of_lt_of_le h ?_
  unfold LIM
  rw [← Nat.pow_add]
  exact Nat.pow_le_pow_right (by decide) (by omega)
theorem lim1 {n : Nat} (h : n < LIM) : n < 2 ^ 100000 := lim_pow 0 0 (by decide) (by rw [Nat.pow_zero, Nat.one_mul]; exact h)
theorem lim2 {n : Nat} (h : n < 8 * LIM * LIM) : n < 2 ^ 100000 := by
  refine lim_pow 0 8003 (by decide) ?_
  have e : 8 * LIM * LIM = 2 ^ 8003 * LIM := by
    unfold LIM
    rw [show (2 : Nat) ^ 8003 = 8 * 2 ^ 8000 by rw [show 8003 = 3 + 8000 from rfl, Nat.pow_add]]
  rw [← e]
  exact h
theorem wide_rep {H : Hp} {row lv t tf : V} {w : List Ent} {d z n : Nat} (h : PR g.part H lv w d z) (hn : n * w.length < 8 * LIM * LIM) (hp : 1 ≤ n) (hw : w ≠ []) : WideOk g H row lv .non (.int (n : Nat)) (((n * w.length : Nat)) : Int) := by
  obtain ⟨a, dx, l, lv', rv, t', tf', rfl, e⟩ := h.ins
  have l1 : 0 < w.length := List.length_pos_iff.mpr hw
  have n1 : n ≤ n * w.length := Nat.le_mul_of_pos_right _ l1
  have n2 : w.length ≤ n * w.length := Nat.le_mul_of_pos_left _ hp
  refine .inr (.inl ⟨a, dx, _, (w.length : Nat), (n : Nat), rfl, rfl, rfl, e, pf_wide .., mulW (lim2 (by omega)) (lim2 (by omega)), ?_⟩)
  rw [Int.natCast_mul, Int.mul_comm]
theorem wide_cat {H : Hp} {row lv rv t tf : V} {w1 w2 : List Ent} {d1 z1 d2 z2 : Nat} (h1 : PR g.part H lv w1 d1 z1) (h2 : PR g.part H rv w2 d2 z2) : WideOk g H row lv rv t ((w1.length + w2.length : Nat) : Int) := by
  obtain ⟨a, dx, l, lv', rv', t', tf', rfl, e⟩ := h1.ins
  obtain ⟨b, dy, m, lw, rw', u', uf', rfl, e'⟩ := h2.ins
  exact .inr (.inr ⟨a, dx, _, _, b, dy, _, _, rfl, rfl, e, pf_wide .., e', pf_wide .., by rw [Int.natCast_add]⟩)
theorem turn0 {H : Hp} {bv : V} {k : Nat} {w wb : List Ent} : TurnOk H .non bv k w wb := .inl rfl
/-- a new leaf -/
theorem mkLeaf {H : Hp} {x dx p : Addr} {ys : List V} {row : List Ent} {t : V} {d : Nat} (hx : H x = some (.ins g.part dx (pf (.ref p) .non .non t .non (.int (ys.length : Nat))))) (hp : H p = some (.tup ys)) (he : EntsV H row ys) : PR g.part H (.ref x) row d (2 * row.length + 1) := by
  rw [he.len] at hx
  exact .leaf (bv := .non) (wb := []) (k := 0) (zb := 0) hx hp he turn0 fun z => absurd rfl z
theorem mkRep {H : Hp} {x dx p : Addr} {lv : V} {w : List Ent} {n d z : Nat} (hx : H x = some (.ins g.part dx (pf (.ref p) lv .non (.int (n : Nat)) .non (.int (((n * w.length : Nat)) : Int))))) (hp : H p = some (.tup [])) (hn : 1 ≤ n) (hw : w ≠ []) (h : PR g.part H lv w d z) : PR g.part H (.ref x) (rp n w) (d + 1) (z + 3) :=
  .rep (bv := .non) (wb := []) (k := 0) (zb := 0) hx hp hn hw h turn0 fun z => absurd rfl z
theorem mkCat {H : Hp} {x dx p : Addr} {lv rv t : V} {w1 w2 : List Ent} {d z1 z2 : Nat} (hx : H x = some (.ins g.part dx (pf (.ref p) lv rv t .non (.int ((w1.length + w2.length : Nat) : Int))))) (hp : H p = some (.tup [])) (h1 : w1 ≠ []) (h2 : w2 ≠ []) (k1 : PR g.part H lv w1 d z1) (k2 : PR g.part H rv w2 d z2) : PR g.part H (.ref x) (w1 ++ w2) d (z1 + z2 + 5) :=
  .cat (bv := .non) (wb := []) (k := 0) (zb := 0) hx hp h1 h2 k1 k2 turn0 fun z => absurd rfl z
theorem small0 : (0 : Nat) ≤ sizeLine := Nat.zero_le _
/-- the last lines of joined: Part((), one, other, 1) -/
theorem joinedEnd {v1 v2 : V} {x : Option V} {w1 w2 : List Ent} {d z1 z2 : Nat} (h1 : PR g.part H v1 w1 d z1) (h2 : PR g.part H v2 w2 d z2) (n1 : w1 ≠ []) (n2 : w2 ≠ []) (q : ∀ H' v z, Same H H' → PR g.part H' v (w1 ++ w2) d z → Q v H') :
    tRet (tMake g.part (spPartInit g) [.non] E0 (tCons (tTup tNil) (tCons (tVar 0) (tCons (tVar 1) (tCons (tC (.int 1)) tNil))))) (EndQ Q) [some v1, some v2, x, none] H := by
  refine ⟨small0, fun p np => ⟨_, rfl, _, rfl, ?_⟩⟩
  have s1 : Same H (upd H p (.tup [])) := sameNew np
  refine q_PartT (by rfl) (wide_cat (tf := .non) (h1.mono s1) (h2.mono s1)) fun y dy H' s2 hy => ?_
  exact q H' _ _ (s1.trans s2) (mkCat hy (s2 _ _ upd_same) n1 n2 (h1.mono (s1.trans s2)) (h2.mono (s1.trans s2)))
theorem p_joined (T : Txt g mg) (h : spJoined g vs H Q E) : t_joined g (EndQ Q) (start N_joined vs) H := by
  obtain ⟨v1, v2, w1, w2, d, z1, z2, rfl, h1, h2, q⟩ := h
  refine q_wideZ T h1 (fun R r => ⟨_, rfl, r⟩) ?_
  by_cases n1 : w1 = []
  · rw [decide_eq_true n1]
    refine iteT (iteT (q_wideZ T h1 (fun R r => ⟨_, rfl, r⟩) ?_))
    rw [decide_eq_true n1]
    refine iteT ⟨_, rfl, q H _ z2 (Same.refl H) ?_⟩
    rw [n1]
    exact h2
  rw [decide_eq_false n1]
  refine iteF (q_wideZ T h2 (fun R r => ⟨_, rfl, r⟩) ?_)
  by_cases n2 : w2 = []
  · rw [decide_eq_true n2]
    refine iteT (q_wideZ T h1 (fun R r => ⟨_, rfl, r⟩) ?_)
    rw [decide_eq_false n1]
    refine iteF ⟨_, rfl, q H _ z1 (Same.refl H) ?_⟩
    rw [n2, List.append_nil]
    exact h1
  rw [decide_eq_false n2]
  refine iteF ?_
  -- the other one's fields
  obtain ⟨c, dc, lc, ec, lvc, rvc, tc, tfc, rfl, hc, hlc, hcs⟩ : ∃ c dc lc ec lvc rvc tc tfc, v2 = .ref c ∧ H c = some (.ins g.part dc (pf (.ref lc) lvc rvc tc tfc (.int (w2.length : Nat)))) ∧ H lc = some (.tup ec) ∧ (lvc = .non → EntsV H w2 ec) := by
    cases h2 with
    | leaf ha hl he => exact ⟨_, _, _, _, _, _, _, _, rfl, ha, hl, fun _ => he⟩
    | rep ha hl _ _ hp => obtain ⟨b, rfl⟩ := hp.ref; exact ⟨_, _, _, _, .ref b, _, _, _, rfl, by rw [rp_len]; exact ha, hl, fun z => nomatch z⟩
    | cat ha hl _ _ hp => obtain ⟨b, rfl⟩ := hp.ref; exact ⟨_, _, _, _, .ref b, _, _, _, rfl, by rw [List.length_append]; exact ha, hl, fun z => nomatch z⟩
  -- what happens when last is a leaf at b (its letters at lb, eb)
  cases id h1 with
  | @leaf a dx l es row wb t tf bv k d zb ha hl he ht hb =>
    refine ⟨_, rfl, a, _, dx, _, _, rfl, ha, T.part, T.p_right, pf_right .., rfl, _, rfl, iteT ⟨_, rfl, ?_⟩⟩
    refine ⟨_, rfl, a, _, dx, _, _, rfl, ha, T.part, T.p_left, pf_left .., rfl, _, rfl, iteT ?_⟩
    refine ⟨_, rfl, c, _, dc, _, _, rfl, hc, T.part, T.p_left, pf_left .., rfl, _, rfl, ?_⟩
    by_cases hv : lvc = .non
    · rw [decide_eq_true hv]
      have he2 := hcs hv
      refine iteT ⟨_, rfl, a, _, dx, _, _, rfl, ha, T.part, T.p_letters, pf_letters .., l, es, rfl, .inr (sT hl), _, rfl, c, _, dc, _, _, rfl, hc, T.part, T.p_letters, pf_letters .., lc, ec, rfl, .inr (sT hlc), iAdd (iLe ⟨_, rfl, ?_⟩)⟩
      refine ite2 (fun hle => ?_) (fun _ => joinedEnd h1 h2 n1 n2 q)
      have hle := of_decide_eq_true hle
      have x1 : es ≠ [] := fun z => n1 (List.eq_nil_of_length_eq_zero (by rw [← he.len, z]; rfl))
      have x2 : ec ≠ [] := fun z => n2 (List.eq_nil_of_length_eq_zero (by rw [← he2.len, z]; rfl))
      refine ⟨_, rfl, a, _, dx, _, _, rfl, ha, T.part, T.p_letters, pf_letters .., _, rfl, c, _, dc, _, _, rfl, hc, T.part, T.p_letters, pf_letters .., l, lc, es, ec, rfl, rfl, sT hl, sT hlc, ?_, fun z => absurd z x1, fun _ z => absurd z x2, fun _ _ p np => ?_⟩
      · have : es.length + ec.length ≤ 60 := by omega
        exact Nat.le_trans this (by decide)
      have s1 : Same H (upd H p (.tup (es ++ ec))) := sameNew np
      intro y dy nx0 nd0 ne0
      refine q_PartR (vs := [.ref p, .non, .non, .int 1]) (dvs := [.non]) rfl (wide_leaf upd_same) nx0 nd0 ne0 fun H' s2 hy => ⟨rfl, ?_⟩
      refine ⟨_, rfl, a, _, dx, _, _, rfl, s2 _ _ (s1 _ _ ha), T.part, T.p_right, pf_right .., rfl, _, rfl, iteT ⟨_, rfl, ?_⟩⟩
      exact q H' _ _ (s1.trans s2) (mkLeaf hy (s2 _ _ upd_same) ((he.append he2).mono (s1.trans s2)))
    · rw [decide_eq_false hv]
      exact iteF (iteF (joinedEnd h1 h2 n1 n2 q))
  | @rep a dx l lv tf bv w wb n k d z zb ha hl hn hw hp ht hb =>
    obtain ⟨b, rfl⟩ := hp.ref
    refine ⟨_, rfl, a, _, dx, _, _, rfl, ha, T.part, T.p_right, pf_right .., rfl, _, rfl, iteT ⟨_, rfl, ?_⟩⟩
    refine ⟨_, rfl, a, _, dx, _, _, rfl, ha, T.part, T.p_left, pf_left .., rfl, _, rfl, ?_⟩
    rw [dec_ref]
    exact iteF (iteF (joinedEnd h1 h2 n1 n2 q))
  | @cat a dx l lv rv t tf bv w1 w2' wb k d z1 z2' zb ha hl m1 m2 hp hq ht hb =>
    obtain ⟨b, rfl⟩ := hq.ref
    refine ⟨_, rfl, a, _, dx, _, _, rfl, ha, T.part, T.p_right, pf_right .., rfl, _, rfl, ?_⟩
    rw [dec_ref]
    refine iteF ⟨_, rfl, a, _, dx, _, _, rfl, ha, T.part, T.p_right, pf_right .., ?_⟩
    cases id hq with
    | @leaf _ db lb eb _ wb' tb tfb bvb kb _ zbb hab hlb heb htb hbb =>
      refine ⟨_, rfl, b, _, db, _, _, rfl, hab, T.part, T.p_left, pf_left .., rfl, _, rfl, iteT ?_⟩
      refine ⟨_, rfl, c, _, dc, _, _, rfl, hc, T.part, T.p_left, pf_left .., rfl, _, rfl, ?_⟩
      by_cases hv : lvc = .non
      · rw [decide_eq_true hv]
        have he2 := hcs hv
        refine iteT ⟨_, rfl, b, _, db, _, _, rfl, hab, T.part, T.p_letters, pf_letters .., lb, eb, rfl, .inr (sT hlb), _, rfl, c, _, dc, _, _, rfl, hc, T.part, T.p_letters, pf_letters .., lc, ec, rfl, .inr (sT hlc), iAdd (iLe ⟨_, rfl, ?_⟩)⟩
        refine ite2 (fun hle => ?_) (fun _ => joinedEnd h1 h2 n1 n2 q)
        have hle := of_decide_eq_true hle
        have x1 : eb ≠ [] := fun z => m2 (List.eq_nil_of_length_eq_zero (by rw [← heb.len, z]; rfl))
        have x2 : ec ≠ [] := fun z => n2 (List.eq_nil_of_length_eq_zero (by rw [← he2.len, z]; rfl))
        refine ⟨_, rfl, b, _, db, _, _, rfl, hab, T.part, T.p_letters, pf_letters .., _, rfl, c, _, dc, _, _, rfl, hc, T.part, T.p_letters, pf_letters .., lb, lc, eb, ec, rfl, rfl, sT hlb, sT hlc, ?_, fun z => absurd z x1, fun _ z => absurd z x2, fun _ _ p np => ?_⟩
        · have : eb.length + ec.length ≤ 60 := by omega
          exact Nat.le_trans this (by decide)
        have s1 : Same H (upd H p (.tup (eb ++ ec))) := sameNew np
        intro y dy nx0 nd0 ne0
        refine q_PartR (vs := [.ref p, .non, .non, .int 1]) (dvs := [.non]) rfl (wide_leaf upd_same) nx0 nd0 ne0 fun H' s2 hy => ⟨rfl, ?_⟩
        have s3 := s1.trans s2
        have hnew : PR g.part H' (.ref y) (w2' ++ w2) d (2 * (w2' ++ w2).length + 1) := mkLeaf hy (s2 _ _ upd_same) ((heb.append he2).mono s3)
        refine ⟨_, rfl, a, _, dx, _, _, rfl, s3 _ _ ha, T.part, T.p_right, pf_right .., rfl, _, rfl, ?_⟩
        rw [dec_ref]
        refine iteF ⟨small0, fun p2 np2 => ⟨_, rfl, a, _, dx, _, _, rfl, sameNew np2 _ _ (s3 _ _ ha), T.part, T.p_left, pf_left .., _, rfl, ?_⟩⟩
        have s4 : Same H' (upd H' p2 (.tup [])) := sameNew np2
        refine q_PartT (by rfl) (wide_cat (tf := .non) (hp.mono (s3.trans s4)) (hnew.mono s4)) fun y2 dy2 H2 s5 hy2 => ?_
        refine q H2 _ (z1 + (2 * (w2' ++ w2).length + 1) + 5) ((s3.trans s4).trans s5) ?_
        rw [List.append_assoc]
        exact mkCat hy2 (s5 _ _ upd_same) m1 (fun z => n2 (List.append_eq_nil_iff.mp z).2) (hp.mono ((s3.trans s4).trans s5)) (hnew.mono (s4.trans s5))
      · rw [decide_eq_false hv]
        exact iteF (iteF (joinedEnd h1 h2 n1 n2 q))
    | @rep _ db lb lvb tfb bvb wr wb' nb kb _ zr zbb hab hlb hnb hwb hpb htb hbb =>
      obtain ⟨b2, rfl⟩ := hpb.ref
      refine ⟨_, rfl, b, _, db, _, _, rfl, hab, T.part, T.p_left, pf_left .., rfl, _, rfl, ?_⟩
      rw [dec_ref]
      exact iteF (iteF (joinedEnd h1 h2 n1 n2 q))
    | @cat _ db lb lvb rvb tb tfb bvb wr1 wr2 wb' kb _ zr1 zr2 zbb hab hlb _ _ hpb hqb htb hbb =>
      obtain ⟨b2, rfl⟩ := hpb.ref
      refine ⟨_, rfl, b, _, db, _, _, rfl, hab, T.part, T.p_left, pf_left .., rfl, _, rfl, ?_⟩
      rw [dec_ref]
      exact iteF (iteF (joinedEnd h1 h2 n1 n2 q))
end
end RH
set_option exponentiation.threshold 256
set_option Elab.async false
set_option linter.all false
set_option maxRecDepth 100000
set_option maxHeartbeats 4000000
set_option exponentiation.threshold 100
namespace RH
open PySem PySem.Spec PyProof.Rows L2
section
variable {g : G} {mg : Str → Option Value} {vs : List V} {H : Hp} {Q : VK} {E : XK}
theorem dec_nat {m n : Nat} : decide (V.int (m : Nat) = V.int (n : Nat)) = decide (m = n) := by
  rw [dec_int]
  by_cases h : m = n
  · subst h; rw [decide_eq_true rfl, decide_eq_true rfl]
  · rw [decide_eq_false h, decide_eq_false (by omega)]
theorem p_repeated (T : Txt g mg) (h : spRepeated g vs H Q E) : t_repeated g (EndQ Q) (start N_repeated vs) H := by
  obtain ⟨v, w, d, z, n, D, rfl, hp, hb, hD, hD2, q⟩ := h
  have hnil : (n = 0 ∨ w = []) → tRet (tMake g.part (spPartInit g) [.non] E0 (tCons (tTup tNil) (tCons (tC .non) (tCons (tC .non) (tCons (tC (.int 1)) tNil))))) (EndQ Q) (start N_repeated [v, .int (n : Nat)]) H := fun hz => by
    refine ⟨small0, fun p np => ?_⟩
    have s1 : Same H (upd H p (.tup [])) := sameNew np
    refine q_PartT (vs := [.ref p, .non, .non, .int 1]) (dvs := [.non]) rfl (wide_leaf upd_same) fun y dy H' s2 hy => ?_
    refine q H' _ (2 * ([] : List Ent).length + 1) (s1.trans s2) ?_
    have e : rp n w = [] := by
      rcases hz with hz | hz
      · rw [hz, rp_zero]
      · rw [hz, rp_nil]
    rw [e]
    exact mkLeaf hy (s2 _ _ upd_same) trivial
  refine ⟨_, rfl, sEq rfl ⟨_, rfl, ?_⟩⟩
  rw [show decide (V.int (n : Nat) = V.int 0) = decide (n = 0) from dec_nat (n := 0)]
  by_cases hn : n = 0
  · rw [decide_eq_true hn]
    exact iteT (iteT (hnil (.inl hn)))
  rw [decide_eq_false hn]
  refine iteF (q_wideZ T hp (fun R r => ⟨_, rfl, r⟩) ?_)
  by_cases hw : w = []
  · rw [decide_eq_true hw]
    exact iteT (hnil (.inr hw))
  rw [decide_eq_false hw]
  refine iteF ?_
  have hl : 0 < w.length := List.length_pos_iff.mpr hw
  have n1 : n ≤ n * w.length := Nat.le_mul_of_pos_right _ hl
  have n2 : w.length ≤ n * w.length := Nat.le_mul_of_pos_left _ (by omega)
  -- the last line
  have hend : tRet (tIf (tTest (tOp rEqS (tVar 1) (tC (.int 1)))) (tVar 0) (tMake g.part (spPartInit g) [.non] E0 (tCons (tTup tNil) (tCons (tVar 0) (tCons (tC .non) (tCons (tVar 1) tNil)))))) (EndQ Q) (start N_repeated [v, .int (n : Nat)]) H := by
    refine ⟨_, rfl, sEq rfl ⟨_, rfl, ?_⟩⟩
    rw [show decide (V.int (n : Nat) = V.int 1) = decide (n = 1) from dec_nat (n := 1)]
    by_cases h1 : n = 1
    · rw [decide_eq_true h1]
      refine iteT ⟨_, rfl, q H _ z (Same.refl H) ?_⟩
      rw [h1, rp_one]
      exact hp.up hD
    · rw [decide_eq_false h1]
      refine iteF ⟨small0, fun p np => ⟨_, rfl, _, rfl, ?_⟩⟩
      have s1 : Same H (upd H p (.tup [])) := sameNew np
      refine q_PartT (vs := [.ref p, v, .non, .int (n : Nat)]) (dvs := [.non]) (by rfl) (wide_rep (t := .non) (tf := .non) (hp.mono s1) hb (by omega) hw) fun y dy H' s2 hy => ?_
      exact q H' _ _ (s1.trans s2) ((mkRep hy (s2 _ _ upd_same) (by omega) hw (hp.mono (s1.trans s2))).up (hD2 (by omega)))
  cases id hp with
  | @leaf a dx l es row wb t tf bv k d zb ha hll he ht hbb =>
    exact ⟨_, rfl, a, _, dx, _, _, rfl, ha, T.part, T.p_left, pf_left .., rfl, _, rfl, iteF (iteF hend)⟩
  | @rep a dx l lv tf bv w0 wb m k d z zb ha hll hm hw0 hp0 ht hbb =>
    obtain ⟨b, rfl⟩ := hp0.ref
    refine ⟨_, rfl, a, _, dx, _, _, rfl, ha, T.part, T.p_left, pf_left .., rfl, _, rfl, ?_⟩
    rw [dec_ref]
    refine iteT ⟨_, rfl, a, _, dx, _, _, rfl, ha, T.part, T.p_right, pf_right .., rfl, _, rfl, iteT ?_⟩
    have hl0 : 0 < w0.length := List.length_pos_iff.mpr hw0
    have em : (rp m w0).length = m * w0.length := rp_len m w0
    have m1 : m ≤ m * w0.length := Nat.le_mul_of_pos_right _ hl0
    have ea : n * (rp m w0).length = (m * n) * w0.length := by rw [em, ← Nat.mul_assoc, Nat.mul_comm n m]
    refine ⟨small0, fun p np => ⟨_, rfl, a, _, dx, _, _, rfl, sameNew np _ _ ha, T.part, T.p_left, pf_left .., _, rfl, a, _, dx, _, _, rfl, sameNew np _ _ ha, T.part, T.p_times, pf_times .., _, rfl, iMul (mulW (lim2 (by omega)) (lim2 (by omega))) ?_⟩⟩
    have s1 : Same H (upd H p (.tup [])) := sameNew np
    have et : (m : Int) * (n : Int) = ((m * n : Nat) : Int) := (Int.natCast_mul m n).symm
    refine q_PartT (vs := [.ref p, .ref b, .non, .int ((m * n : Nat) : Int)]) (dvs := [.non]) (by rfl) (wide_rep (t := .non) (tf := .non) (hp0.mono s1) (by rw [← ea]; exact hb) (Nat.mul_pos hm (by omega)) hw0) fun y dy H' s2 hy => ?_
    refine q H' _ (z + 3) (s1.trans s2) ?_
    rw [rp_mul]
    exact (mkRep hy (s2 _ _ upd_same) (Nat.mul_pos hm (by omega)) hw0 (hp0.mono (s1.trans s2))).up hD
  | @cat a dx l lv rv t tf bv w1 w2 wb k d z1 z2 zb ha hll m1 m2 hp1 hq1 ht hbb =>
    obtain ⟨b, rfl⟩ := hp1.ref
    obtain ⟨c, rfl⟩ := hq1.ref
    refine ⟨_, rfl, a, _, dx, _, _, rfl, ha, T.part, T.p_left, pf_left .., rfl, _, rfl, ?_⟩
    rw [dec_ref]
    refine iteT ⟨_, rfl, a, _, dx, _, _, rfl, ha, T.part, T.p_right, pf_right .., rfl, _, rfl, ?_⟩
    rw [dec_ref]
    exact iteF hend
theorem den_zero {u : UD} {us : List UD} (h : u.t = 0) : den (u :: us) = den us := by
  show rp u.t u.w ++ den us = den us
  rw [h, rp_zero, List.nil_append]
theorem Rk.skip {R m : Nat} {u : UD} {us : List UD} (h : u.t = 0) (k : Rk R (u :: us) m) : Rk R us m := by
  have := k.tail
  rwa [h, Nat.zero_mul, Nat.sub_zero] at this
/-- a part that stands once is opened -/
theorem Rk.open {R m d z : Nat} {w : List Ent} {cs us : List UD} (o : Opn cs w d z) (k : Rk R (⟨w, 1, some (d, z)⟩ :: us) m) : Rk R (cs ++ us) m := by
  by_cases hm : m = 0
  · subst hm; exact Rk.zero
  · have h1 := k.head (Nat.pos_of_ne_zero hm)
    have h2 := k.tail
    have h3 : rkm ⟨w, 1, some (d, z)⟩ m = 2 * d := rfl
    rw [h3] at h1
    refine Rk.front (fun c hc => ?_) ?_
    · rw [rkx_udp]
      have := o.udp c hc
      omega
    · rw [o.den]
      have e : (1 * w.length) = w.length := Nat.one_mul _
      rw [show (⟨w, 1, some (d, z)⟩ : UD).t * (⟨w, 1, some (d, z)⟩ : UD).w.length = w.length from e] at h2
      exact h2
theorem Opn.small {cs : List UD} {w : List Ent} {d z : Nat} (o : Opn cs w d z) (h : w.length < LIM) : Sm cs := fun c hc => by
  have ⟨a, b⟩ := o.sm c hc
  exact ⟨by omega, by omega⟩
theorem Sm.tail {u : UD} {us : List UD} (h : Sm (u :: us)) : Sm us := fun x hx => h x (List.mem_cons_of_mem _ hx)
theorem Sm.head {u : UD} {us : List UD} (h : Sm (u :: us)) : Sm1 u := h u (List.mem_cons_self ..)
theorem Sm.append {a b : List UD} (ha : Sm a) (hb : Sm b) : Sm (a ++ b) := fun x hx => (List.mem_append.mp hx).elim (ha x) (hb x)
theorem Sm.cons {u : UD} {us : List UD} (ha : Sm1 u) (hb : Sm us) : Sm (u :: us) := fun x hx => (List.mem_cons.mp hx).elim (fun e => e ▸ ha) (hb x)
theorem p_first_unit (T : Txt g mg) (h : spFirstUnit g vs H Q E) : t_first_unit g (EndQ Q) (start N_first_unit vs) H := by
  obtain ⟨v, us, rfl, hu, q0, q1⟩ := h
  refine ⟨fun m σ H' => ∃ us' v' a b c, σ = [some v', a, b, c] ∧ Same H H' ∧ UR g.part H' us' v' ∧ den us' = den us ∧ (∀ R m, Rk R us m → Rk R us' m) ∧ (Sm us → Sm us') ∧ (∀ w ws, us = w :: ws → 1 ≤ w.t → (w.s = none ∨ 2 ≤ w.t) → us' = us) ∧ m = usz us',
    ⟨_, us, v, none, none, none, rfl, Same.refl H, hu, rfl, fun _ _ k => k, fun k => k, fun _ _ _ _ _ => rfl, rfl⟩, ?_⟩
  rintro m σ H1 ⟨us', v', a, b, c, rfl, s1, hu1, hd, hk, hs, hg, rfl⟩
  cases us' with
  | nil =>
    cases (show v' = .non from hu1)
    exact ⟨_, rfl, rfl, false, rfl, iteF (q0 hd.symm H1 s1)⟩
  | cons u us' =>
    obtain ⟨p, uv, r, rfl, hpp, huv, hr⟩ := hu1
    refine ⟨_, rfl, rfl, _, rfl, ?_⟩
    rw [dec_ref]
    refine iteT ⟨fun σ' H' => ∃ m', m' < usz (u :: us') ∧ ∃ us' v' a b c, σ' = [some v', a, b, c] ∧ Same H H' ∧ UR g.part H' us' v' ∧ den us' = den us ∧ (∀ R m, Rk R us m → Rk R us' m) ∧ (Sm us → Sm us') ∧ (∀ w ws, us = w :: ws → 1 ≤ w.t → (w.s = none ∨ 2 ≤ w.t) → us' = us) ∧ m' = usz us', fun _ _ x => x, ?_⟩
    refine ⟨_, rfl, p, _, rfl, sT hpp, rfl, _, _, rfl, _, _, rfl, _, _, rfl, rfl, ?_⟩
    refine ⟨_, rfl, sEq rfl ⟨_, rfl, ?_⟩⟩
    rw [show decide (V.int (u.t : Nat) = V.int 0) = decide (u.t = 0) from dec_nat (n := 0)]
    by_cases ht : u.t = 0
    · rw [decide_eq_true ht]
      refine iteT ⟨_, rfl, usz us', by show usz us' < 2 + uz u + usz us'; omega, us', r, _, _, _, rfl, s1, hr, by rw [← hd, den_zero ht], fun R m k => (hk R m k).skip ht, fun k => (hs k).tail, fun w ws e1 e2 e3 => ?_, rfl⟩
      have e4 := hg w ws e1 e2 e3
      rw [e1] at e4
      injection e4 with e5
      rw [e5] at ht
      omega
    · rw [decide_eq_false ht]
      refine iteF ⟨_, rfl, iGt ⟨_, rfl, ?_⟩⟩
      by_cases h1 : 1 < u.t
      · rw [decide_eq_true (show (1 : Int) < ((u.t : Nat) : Int) by omega)]
        refine iteT (iteT ⟨_, rfl, q1 H1 _ u us' s1 ⟨p, uv, r, rfl, hpp, huv, hr⟩ hd (by omega) (fun _ => h1) hk hs hg⟩)
      · rw [decide_eq_false (show ¬ (1 : Int) < ((u.t : Nat) : Int) by omega)]
        refine iteF (q_isU T (u := u) rfl huv ?_)
        cases hus : u.s with
        | none => exact iteT ⟨_, rfl, q1 H1 _ u us' s1 ⟨p, uv, r, rfl, hpp, huv, hr⟩ hd (by omega) (fun z => absurd hus z) hk hs hg⟩
        | some dz =>
          obtain ⟨d, z⟩ := dz
          have ht1 : u.t = 1 := by omega
          have hpr : u.w ≠ [] ∧ PR g.part H1 uv u.w d z := by
            unfold UnV at huv
            rw [hus] at huv
            exact huv
          have eu1 : u = ⟨u.w, 1, some (d, z)⟩ := by
            cases u; simp only at ht1 hus; subst ht1 hus; rfl
          refine iteF ⟨_, rfl, _, rfl, _, _, u.w, d, z, us', rfl, hpr.2, hr, fun H2 v2 cs s2 hu2 o => ?_⟩
          refine ⟨usz (cs ++ us'), ?_, cs ++ us', v2, _, _, _, rfl, s1.trans s2, hu2, ?_, fun R m k => ?_, fun k => ?_, fun w ws e1 e2 e3 => ?_, rfl⟩
          · have e : uz u = z := by unfold uz; rw [hus]
            rw [usz_append]
            show usz cs + usz us' < 2 + uz u + usz us'
            have := o.usz
            omega
          · rw [← hd, den_append, o.den]
            show u.w ++ den us' = rp u.t u.w ++ den us'
            rw [ht1, rp_one]
          · have k1 := hk R m k
            rw [eu1] at k1
            exact k1.open o
          · have k1 := hs k
            exact (o.small k1.head.w).append k1.tail
          · have e4 := hg w ws e1 e2 e3
            rw [e1] at e4
            injection e4 with e5
            rw [e5] at ht1 hus
            rcases e3 with e3 | e3
            · rw [hus] at e3; cases e3
            · omega
end
end RH
set_option exponentiation.threshold 256
set_option Elab.async false
set_option linter.all false
set_option maxRecDepth 100000
set_option maxHeartbeats 4000000
set_option exponentiation.threshold 100
namespace RH
open PySem PySem.Spec PyProof.Rows L2
theorem den_cons (u : UD) (us : List UD) : den (u :: us) = rp u.t u.w ++ den us := rfl
theorem den_len (u : UD) (us : List UD) : (den (u :: us)).length = u.t * u.w.length + (den us).length := by
  rw [den_cons, List.length_append, rp_len]
theorem drop_pass {u : UD} {us : List UD} {k : Nat} (h : u.t * u.w.length ≤ k) : (den (u :: us)).drop k = (den us).drop (k - u.t * u.w.length) := by
  rw [den_cons, List.drop_append, rp_len, List.drop_eq_nil_of_le (by rw [rp_len]; exact h), List.nil_append]
theorem drop_part {u : UD} {us : List UD} {q r : Nat} (h : q ≤ u.t) : (den (u :: us)).drop (q * u.w.length + r) = (den (⟨u.w, u.t - q, u.s⟩ :: us)).drop r := by
  rw [← List.drop_drop, den_cons, List.drop_append_of_le_length (by rw [rp_len]; exact Nat.mul_le_mul_right _ h), rp_drop h]
  rfl
theorem den_open {cs us : List UD} {w : List Ent} {d z n : Nat} {s : Option (Nat × Nat)} (o : Opn cs w d z) (hn : 1 ≤ n) : den (cs ++ ⟨w, n - 1, s⟩ :: us) = den (⟨w, n, s⟩ :: us) := by
  rw [den_append, o.den, den_cons, den_cons, ← List.append_assoc]
  congr 1
  show w ++ rp (n - 1) w = rp n w
  rw [← rp_succ, Nat.sub_add_cancel hn]
theorem udp_le {u : UD} {n : Nat} (h : n ≤ u.t) : udp ⟨u.w, n, u.s⟩ ≤ udp u := by
  unfold udp
  cases u.s with
  | none => exact Nat.le_refl _
  | some dz =>
    show (if n ≤ 1 then dz.1 else dz.1 + 1) ≤ (if u.t ≤ 1 then dz.1 else dz.1 + 1)
    split <;> split <;> omega
section
variable {g : G} {mg : Str → Option Value} {vs : List V} {H : Hp} {Q : VK} {E : XK}
theorem log_lim {n : Nat} (h : n < LIM) : ((n : Nat) : Int).natAbs.log2 < 9000 := by
  have := nat_log (k := 8000) h (by decide)
  omega
theorem divW {k w : Nat} (hp : 0 < w) (h : w < LIM) : CDivW (k : Nat) (w : Nat) := ⟨by omega, log_lim h⟩
theorem lim4 {n : Nat} (h : n < 4 * LIM) : n < 2 ^ 100000 := lim_pow 0 2 (by decide) (by rw [show (2 : Nat) ^ 2 = 4 from rfl]; exact h)
theorem mul_wt {H : Hp} {u : UD} {v : V} (hu : UnV g.part H u v) (s : Sm1 u) : CMulW (u.w.length : Nat) (u.t : Nat) := mulW (lim1 s.w) (lim4 s.t)
theorem stp_pass {u : UD} {us : List UD} {k : Nat} (h : u.t * u.w.length ≤ k) : stp (u :: us) k = 1 + stp us (k - u.t * u.w.length) := by
  show 1 + (if u.t * u.w.length ≤ k then _ else _) = _
  rw [if_pos h]
theorem stp_cut {u : UD} {us : List UD} {k : Nat} (h : ¬ u.t * u.w.length ≤ k) : stp (u :: us) k = 1 + (if k % u.w.length = 0 then 0 else uz u + 1) := by
  show 1 + (if u.t * u.w.length ≤ k then _ else _) = _
  rw [if_neg h]
theorem UnV.times {C : Addr} {H : Hp} {u : UD} {v : V} {n : Nat} (h : UnV C H u v) (hn : n ≤ u.t) : UnV C H ⟨u.w, n, u.s⟩ v := by
  unfold UnV at h ⊢
  cases hs : u.s with
  | none => rw [hs] at h; exact ⟨Nat.le_trans hn h.1, h.2⟩
  | some dz => obtain ⟨d, z⟩ := dz; rw [hs] at h; exact h
theorem UnV.part {C : Addr} {H : Hp} {u : UD} {v : V} {d z : Nat} (h : UnV C H u v) (hs : u.s = some (d, z)) : PR C H v u.w d z := by
  unfold UnV at h
  rw [hs] at h
  exact h.2
/-- a unit that is cut through is a part -/
theorem UnV.cut {C : Addr} {H : Hp} {u : UD} {v : V} {k : Nat} (h : UnV C H u v) (hk : 0 < k) (hc : ¬ u.t * u.w.length ≤ k) : ∃ d z, u.s = some (d, z) := by
  cases hs : u.s with
  | some dz => exact ⟨dz.1, dz.2, rfl⟩
  | none =>
    unfold UnV at h
    rw [hs] at h
    obtain ⟨h1, e, h2, _⟩ := h
    rw [h2] at hc
    exfalso
    apply hc
    show u.t * 1 ≤ k
    omega
theorem cast_sub {a b : Nat} (h : b ≤ a) : (a : Int) - (b : Int) = ((a - b : Nat) : Int) := (Int.ofNat_sub h).symm
theorem nAdd {a b : Nat} {R : VK} (q : R (.int ((a + b : Nat) : Int)) H) : rAddI (.int (a : Nat)) (.int (b : Nat)) H R := iAdd q
theorem nSub {a b : Nat} {R : VK} (h : b ≤ a) (q : R (.int ((a - b : Nat) : Int)) H) : rSubI (.int (a : Nat)) (.int (b : Nat)) H R := iSub (by
  rw [cast_sub h]
  exact q)
theorem nMul {a b : Nat} {R : VK} (ha : a < 2 ^ 100000) (hb : b < 2 ^ 100000) (q : R (.int ((a * b : Nat) : Int)) H) : rMulI (.int (a : Nat)) (.int (b : Nat)) H R := iMul (mulW ha hb) q
theorem nDiv {a b : Nat} {R : VK} (hp : 0 < b) (hb : b < LIM) (q : R (.int ((a / b : Nat) : Int)) H) : rDivI (.int (a : Nat)) (.int (b : Nat)) H R := iDiv (divW hp hb) q
theorem nMod {a b : Nat} {R : VK} (hp : 0 < b) (q : R (.int ((a % b : Nat) : Int)) H) : rModI (.int (a : Nat)) (.int (b : Nat)) H R := iMod (by omega : (0 : Int) < (b : Nat)) q
theorem dec_iff {p q : Prop} [Decidable p] [Decidable q] (h : p ↔ q) : decide p = decide q := by
  by_cases hp : p
  · rw [decide_eq_true hp, decide_eq_true (h.mp hp)]
  · rw [decide_eq_false hp, decide_eq_false (fun z => hp (h.mpr z))]
theorem nLe {a b : Nat} {R : VK} (q : R (.bl (decide (a ≤ b))) H) : rLeI (.int (a : Nat)) (.int (b : Nat)) H R := iLe (by
  rw [dec_iff (q := a ≤ b) Int.ofNat_le]
  exact q)
theorem nLt {a b : Nat} {R : VK} (q : R (.bl (decide (a < b))) H) : rLtI (.int (a : Nat)) (.int (b : Nat)) H R := iLt (by
  rw [dec_iff (q := a < b) Int.ofNat_lt]
  exact q)
theorem nGt {a b : Nat} {R : VK} (q : R (.bl (decide (b < a))) H) : rGtI (.int (a : Nat)) (.int (b : Nat)) H R := iGt (by
  rw [dec_iff (q := b < a) Int.ofNat_lt]
  exact q)
theorem nGe {a b : Nat} {R : VK} (q : R (.bl (decide (b ≤ a))) H) : rGeI (.int (a : Nat)) (.int (b : Nat)) H R := iGe (by
  rw [dec_iff (q := b ≤ a) Int.ofNat_le]
  exact q)
theorem nEq {a b : Nat} {R : VK} (q : R (.bl (decide (a = b))) H) : rEqS (.int (a : Nat)) (.int (b : Nat)) H R := sEq rfl (by
  rw [dec_nat]
  exact q)
theorem nNe {a b : Nat} {R : VK} (q : R (.bl (!decide (a = b))) H) : rNeS (.int (a : Nat)) (.int (b : Nat)) H R := sNe rfl (by
  rw [dec_nat]
  exact q)
/-- a test that is answered -/
theorem yes {b : Bool} {A B : Prop} (h : b = true) (q : A) : if b = true then A else B := by rw [if_pos h]; exact q
theorem no {b : Bool} {A B : Prop} (h : b = false) (q : B) : if b = true then A else B := by rw [h]; exact iteF q
theorem yesD {p : Prop} [Decidable p] {A B : Prop} (h : p) (q : A) : if decide p = true then A else B := yes (decide_eq_true h) q
theorem noD {p : Prop} [Decidable p] {A B : Prop} (h : ¬ p) (q : B) : if decide p = true then A else B := no (decide_eq_false h) q
/-- k letters of a row of units, whose first one has w letters and stands t times: whole ones and the rest -/
theorem whole_rest {k w t : Nat} (hw : 0 < w) (h : ¬ t * w ≤ k) : ∃ q r, k / w = q ∧ k - q * w = r ∧ k % w = r ∧ q < t ∧ r < w ∧ q * w + r = k ∧ q ≤ k := by
  refine ⟨k / w, k % w, rfl, ?_, rfl, ?_, Nat.mod_lt _ hw, ?_, Nat.div_le_self _ _⟩
  · have := Nat.div_add_mod k w
    rw [Nat.mul_comm] at this
    omega
  · rw [Nat.div_lt_iff_lt_mul hw]; omega
  · rw [Nat.mul_comm]; exact Nat.div_add_mod k w
theorem p_behind (T : Txt g mg) (h : spBehind g vs H Q E) : t_behind g (EndQ Q) (start N_behind vs) H := by
  obtain ⟨v, us, m, rfl, q1, q⟩ := h
  by_cases hm : m = 0
  · subst hm
    refine ⟨fun _ σ H' => σ = start N_behind [v, .int ((0 : Nat) : Int)] ∧ H' = H, ⟨0, rfl, rfl⟩, ?_⟩
    rintro _ σ H' ⟨rfl, rfl⟩
    exact ⟨_, rfl, nGt (a := 0) (b := 0) ⟨_, rfl, noD (by omega) ⟨_, rfl, q H' v us (Same.refl _) (fun _ => ⟨rfl, rfl⟩) (fun z => absurd z (by omega))⟩⟩⟩
  obtain ⟨hu, hle, hsm⟩ := q1 (Nat.pos_of_ne_zero hm)
  refine ⟨fun n σ H' => ∃ us' v' k a b c d, σ = [some v', some (.int (k : Nat)), a, b, c, d] ∧ Same H H' ∧ UR g.part H' us' v' ∧ k ≤ (den us').length ∧ (den us').drop k = (den us).drop m ∧ (∀ D, (∀ u ∈ us, udp u ≤ D) → ∀ u ∈ us', udp u ≤ D) ∧ Sm us' ∧ n = k + stp us' k,
    ⟨_, us, v, m, none, none, none, none, rfl, Same.refl H, hu, hle, rfl, fun _ k => k, hsm, rfl⟩, ?_⟩
  rintro n σ H1 ⟨us', v', k, a, b, c, d, rfl, s1, hu1, hk, hd, hD, hs, rfl⟩
  refine ⟨_, rfl, nGt (b := 0) ⟨_, rfl, ?_⟩⟩
  by_cases hk0 : k = 0
  · subst hk0
    exact noD (by omega) ⟨_, rfl, q H1 v' us' s1 (fun z => absurd z hm) fun _ => ⟨hu1, by rw [← hd, List.drop_zero], hD, hs⟩⟩
  have hkp : 0 < k := Nat.pos_of_ne_zero hk0
  refine yesD hkp ⟨fun σ' H' => ∃ n', n' < k + stp us' k ∧ ∃ us' v' k a b c d, σ' = [some v', some (.int (k : Nat)), a, b, c, d] ∧ Same H H' ∧ UR g.part H' us' v' ∧ k ≤ (den us').length ∧ (den us').drop k = (den us).drop m ∧ (∀ D, (∀ u ∈ us, udp u ≤ D) → ∀ u ∈ us', udp u ≤ D) ∧ Sm us' ∧ n' = k + stp us' k, fun _ _ x => x, ?_⟩
  cases us' with
  | nil => exact absurd hk (by show ¬ k ≤ 0; omega)
  | cons u us' =>
    obtain ⟨p, uv, r, rfl, hpp, huv, hr⟩ := hu1
    have hw := huv.pos
    have hs1 := hs.head
    have hwl := lim1 hs1.w
    have htl := lim4 hs1.t
    have hDt : ∀ D, (∀ u ∈ us, udp u ≤ D) → ∀ u ∈ us', udp u ≤ D := fun D x y hy => hD D x y (List.mem_cons_of_mem _ hy)
    have hDh : ∀ D, (∀ u ∈ us, udp u ≤ D) → udp u ≤ D := fun D x => hD D x u (List.mem_cons_self ..)
    refine ⟨_, rfl, p, _, rfl, sT hpp, rfl, _, _, rfl, _, _, rfl, _, _, rfl, rfl, ?_⟩
    refine ⟨_, rfl, _, u, rfl, huv, _, rfl, nMul hwl htl ⟨_, rfl, nLe ⟨_, rfl, ?_⟩⟩⟩
    by_cases hc : u.t * u.w.length ≤ k
    · refine yesD (by rw [Nat.mul_comm]; exact hc) ⟨_, rfl, _, rfl, _, u, rfl, huv, _, rfl, nMul hwl htl (nSub (by rw [Nat.mul_comm]; exact hc) ?_)⟩
      rw [Nat.mul_comm u.w.length u.t]
      refine ⟨_, rfl, (k - u.t * u.w.length) + stp us' (k - u.t * u.w.length), ?_, us', r, k - u.t * u.w.length, _, _, _, _, rfl, s1, hr, ?_, ?_, hDt, hs.tail, rfl⟩
      · rw [stp_pass hc]; omega
      · rw [den_len] at hk; omega
      · rw [← hd, drop_pass hc]
    · refine noD (by rw [Nat.mul_comm]; exact hc) ?_
      obtain ⟨dd, z, hus⟩ := huv.cut hkp hc
      obtain ⟨n, e, h1, h2, h3, h4, h5, h6, h7⟩ := whole_rest hw hc
      have hn4 : n < 2 ^ 100000 := lim4 (Nat.lt_trans h4 hs1.t)
      -- whole, many, units
      refine ⟨_, rfl, _, rfl, _, u, rfl, huv, nDiv hw hs1.w ?_⟩
      rw [h1]
      refine ⟨_, rfl, _, rfl, _, rfl, _, u, rfl, huv, nMul hn4 hwl (nSub (by omega) ?_)⟩
      rw [h2]
      refine ⟨_, rfl, _, rfl, _, rfl, nSub (Nat.le_of_lt h4) ⟨_, rfl, small3, fun p1 np1 => ⟨_, rfl, nGt (b := 0) ⟨_, rfl, ?_⟩⟩⟩⟩
      have s2 : Same H1 (upd H1 p1 (.tup [uv, .int ((u.t - n : Nat) : Int), r])) := sameNew np1
      have htake : (den (u :: us')).drop k = (den (⟨u.w, u.t - n, u.s⟩ :: us')).drop e := by
        rw [← drop_part (Nat.le_of_lt h4), h6]
      have stc := stp_cut (us := us') hc
      rw [h3] at stc
      by_cases he0 : e = 0
      · have hpos : 0 < (u.t - n) * u.w.length := Nat.mul_pos (by omega) hw
        refine noD (by omega) ⟨e + stp (⟨u.w, u.t - n, u.s⟩ :: us') e, ?_, ⟨u.w, u.t - n, u.s⟩ :: us', .ref p1, e, _, _, _, _, rfl, s1.trans s2, ⟨p1, uv, r, rfl, upd_same, (huv.times (Nat.sub_le _ _)).mono s2, hr.mono s2⟩, by omega, ?_, fun D x y hy => ?_, Sm.cons ⟨hs1.w, Nat.lt_of_le_of_lt (Nat.sub_le _ _) hs1.t⟩ hs.tail, rfl⟩
        · rw [stp_cut (u := ⟨u.w, u.t - n, u.s⟩) (by show ¬ (u.t - n) * u.w.length ≤ e; omega), stc, he0, if_pos (Nat.zero_mod _), if_pos rfl]
          omega
        · rw [← hd, htake]
        · rcases List.mem_cons.mp hy with rfl | hy
          · exact Nat.le_trans (udp_le (Nat.sub_le _ _)) (hDh D x)
          · exact hDt D x y hy
      · refine yesD (by omega) ⟨_, rfl, _, rfl, _, rfl, _, rfl, nSub (Nat.le_of_lt h4) (nSub (b := 1) (by omega) ⟨_, rfl, small3, fun p2 np2 => ?_⟩)⟩
        have s3 := s2.trans (sameNew (o := .tup [uv, .int ((u.t - n - 1 : Nat) : Int), r]) np2)
        refine ⟨_, _, u.w, dd, z, ⟨u.w, u.t - n - 1, u.s⟩ :: us', rfl, (huv.part hus).mono s3, ⟨p2, uv, r, rfl, upd_same, (huv.times (by omega)).mono s3, hr.mono s3⟩, fun H2 v2 cs s4 hu2 o => ?_⟩
        have hcs : (den cs).length = u.w.length := by rw [o.den]
        refine ⟨e + stp (cs ++ ⟨u.w, u.t - n - 1, u.s⟩ :: us') e, ?_, cs ++ ⟨u.w, u.t - n - 1, u.s⟩ :: us', v2, e, _, _, _, _, rfl, (s1.trans s3).trans s4, hu2, ?_, ?_, fun D x y hy => ?_, ?_, rfl⟩
        · have x1 := stp_in cs (⟨u.w, u.t - n - 1, u.s⟩ :: us') e (by rw [hcs]; exact h5)
          have x2 := o.usz
          have x3 : uz u = z := by unfold uz; rw [hus]
          rw [stc, if_neg he0, x3]
          omega
        · rw [den_append, List.length_append, hcs]; omega
        · rw [den_open o (by omega), ← hd, htake]
        · rcases List.mem_append.mp hy with hy | hy
          · have x1 := o.udp y hy
            have x2 := hDh D x
            have x3 : dd ≤ udp u := by unfold udp; rw [hus]; show dd ≤ if u.t ≤ 1 then dd else dd + 1; split <;> omega
            omega
          · rcases List.mem_cons.mp hy with rfl | hy
            · exact Nat.le_trans (udp_le (by omega)) (hDh D x)
            · exact hDt D x y hy
        · exact (o.small hs1.w).append (Sm.cons ⟨hs1.w, Nat.lt_of_le_of_lt (by show u.t - n - 1 ≤ u.t; omega) hs1.t⟩ hs.tail)
end
end RH
set_option exponentiation.threshold 256
set_option Elab.async false
set_option linter.all false
set_option maxRecDepth 100000
set_option maxHeartbeats 4000000
set_option exponentiation.threshold 100
namespace RH
open PySem PySem.Spec PyProof.Rows L2
theorem take_part {u : UD} {us : List UD} {c k : Nat} (hc : c ≤ u.t) (hk : c * u.w.length ≤ k) : (den (u :: us)).take k = rp c u.w ++ (den (⟨u.w, u.t - c, u.s⟩ :: us)).take (k - c * u.w.length) := by
  have e : den (u :: us) = rp c u.w ++ den (⟨u.w, u.t - c, u.s⟩ :: us) := by
    rw [den_cons, den_cons, ← List.append_assoc, ← rp_add, show c + (u.t - c) = u.t by omega]
  rw [e, List.take_append, rp_len, List.take_of_length_le (by rw [rp_len]; exact hk)]
section
variable {g : G} {mg : Str → Option Value} {vs : List V} {H : Hp} {Q : VK} {E : XK}
theorem small1 : (1 : Nat) ≤ sizeLine := by decide
theorem udp_part {u : UD} {d z : Nat} (h : u.s = some (d, z)) : d ≤ udp u ∧ (2 ≤ u.t → d + 1 ≤ udp u) := by
  unfold udp
  rw [h]
  show d ≤ (if u.t ≤ 1 then d else d + 1) ∧ (2 ≤ u.t → d + 1 ≤ if u.t ≤ 1 then d else d + 1)
  constructor
  · split <;> omega
  · intro h2; rw [if_neg (by omega)]; exact Nat.le_refl _
theorem lim_mul {a b : Nat} (ha : a < 4 * LIM) (hb : b < LIM) : a * b < 8 * LIM * LIM := by
  have h1 : a * b ≤ 4 * LIM * LIM := Nat.mul_le_mul (Nat.le_of_lt ha) (Nat.le_of_lt hb)
  have h2 : 0 < LIM * LIM := Nat.mul_pos (by omega) (by omega)
  have h3 : 8 * LIM * LIM = 2 * (4 * LIM * LIM) := by rw [← Nat.mul_assoc, ← Nat.mul_assoc]
  have h4 : 4 * LIM * LIM = 4 * (LIM * LIM) := Nat.mul_assoc ..
  omega
theorem p_part_of (T : Txt g mg) (h : spPartOf g vs H Q E) : t_part_of g (EndQ Q) (start N_part_of vs) H := by
  obtain ⟨v, us, m, D, rfl, hu, q⟩ := h
  -- found = Part((), None, None, 1)
  refine ⟨small0, fun p np => ?_⟩
  intro x dx nx nd ne
  refine q_PartR (vs := [.ref p, .non, .non, .int 1]) (dvs := [.non]) rfl (wide_leaf upd_same) nx nd ne fun H0 s0' hx => ⟨rfl, ?_⟩
  have s0 : Same H H0 := Same.trans (sameNew np) s0'
  have hf : PR g.part H0 (.ref x) [] D (2 * ([] : List Ent).length + 1) := mkLeaf hx (s0' _ _ upd_same) trivial
  refine ⟨fun n σ H' => ∃ us' v' k fv fw z a b c d e, σ = [some v', some (.int (k : Nat)), some fv, a, b, c, d, e] ∧ Same H H' ∧ (0 < k → UR g.part H' us' v' ∧ k ≤ (den us').length ∧ Sm us' ∧ ∀ u ∈ us', udp u ≤ D) ∧ PR g.part H' fv fw D z ∧
      fw ++ (den us').take k = (den us).take m ∧ n = k + stp us' k,
    ⟨_, us, v, m, .ref x, [], _, none, none, none, none, none, rfl, s0, fun hm => ?_, hf, rfl, rfl⟩, ?_⟩
  · obtain ⟨h1, h2, h3, h4⟩ := hu hm
    exact ⟨h1.mono s0, h2, h3, h4⟩
  rintro n σ H1 ⟨us', v', k, fv, fw, z, a, b, c, d, e, rfl, s1, hu1, hfv, hfw, rfl⟩
  refine ⟨_, rfl, nGt (b := 0) ⟨_, rfl, ?_⟩⟩
  by_cases hk0 : k = 0
  · subst hk0
    refine noD (by omega) ⟨_, rfl, q H1 fv z s1 ?_⟩
    rw [← hfw, List.take_zero, List.append_nil]
    exact hfv
  have hkp : 0 < k := Nat.pos_of_ne_zero hk0
  obtain ⟨hu1, hk, hs, hD⟩ := hu1 hkp
  refine yesD hkp ⟨fun σ' H' => ∃ n', n' < k + stp us' k ∧ ∃ us' v' k fv fw z a b c d e, σ' = [some v', some (.int (k : Nat)), some fv, a, b, c, d, e] ∧ Same H H' ∧ (0 < k → UR g.part H' us' v' ∧ k ≤ (den us').length ∧ Sm us' ∧ ∀ u ∈ us', udp u ≤ D) ∧ PR g.part H' fv fw D z ∧
      fw ++ (den us').take k = (den us).take m ∧ n' = k + stp us' k, fun _ _ x => x, ?_⟩
  cases us' with
  | nil => exact absurd hk (by show ¬ k ≤ 0; omega)
  | cons u us' =>
    obtain ⟨p, uv, r, rfl, hpp, huv, hr⟩ := hu1
    have hw := huv.pos
    have hs1 := hs.head
    have hwl := lim1 hs1.w
    have htl := lim4 hs1.t
    have hDt : ∀ u ∈ us', udp u ≤ D := fun y hy => hD y (List.mem_cons_of_mem _ hy)
    have hDh : udp u ≤ D := hD u (List.mem_cons_self ..)
    refine ⟨_, rfl, p, _, rfl, sT hpp, rfl, _, _, rfl, _, _, rfl, _, _, rfl, rfl, ?_⟩
    refine ⟨_, rfl, _, rfl, _, rfl, _, u, rfl, huv, nDiv hw hs1.w (nMin2 ?_)⟩
    refine ⟨_, rfl, nEq (b := 0) ⟨_, rfl, ?_⟩⟩
    by_cases ht : u.t = 0
    · refine yesD ht ⟨_, rfl, k + stp us' k, ?_, us', r, k, fv, fw, z, _, _, _, _, _, rfl, s1, fun _ => ⟨hr, ?_, hs.tail, hDt⟩, hfv, ?_, rfl⟩
      · have e1 := stp_pass (u := u) (us := us') (k := k) (by rw [ht, Nat.zero_mul]; exact Nat.zero_le _)
        rw [ht, Nat.zero_mul, Nat.sub_zero] at e1
        rw [e1]; omega
      · rw [den_zero ht] at hk; exact hk
      · rw [← hfw, den_zero ht]
    refine noD ht ⟨_, rfl, nEq (b := 0) ⟨_, rfl, ?_⟩⟩
    by_cases hc0 : min u.t (k / u.w.length) = 0
    · -- the unit is wider than what is left
      have hlt : k < u.w.length := by
        have : k / u.w.length = 0 := by omega
        exact (Nat.div_eq_zero_iff_lt hw).mp this
      have hle : u.w.length ≤ u.t * u.w.length := Nat.le_mul_of_pos_left _ (by omega)
      have hc : ¬ u.t * u.w.length ≤ k := by omega
      obtain ⟨dd, zz, hus⟩ := huv.cut hkp hc
      refine yesD hc0 ⟨_, rfl, _, rfl, _, rfl, nSub (b := 1) (by omega) ⟨_, rfl, small3, fun p2 np2 => ?_⟩⟩
      have s2 : Same H1 (upd H1 p2 (.tup [uv, .int ((u.t - 1 : Nat) : Int), r])) := sameNew np2
      refine ⟨_, _, u.w, dd, zz, ⟨u.w, u.t - 1, u.s⟩ :: us', rfl, (huv.part hus).mono s2, ⟨p2, uv, r, rfl, upd_same, (huv.times (Nat.sub_le _ _)).mono s2, hr.mono s2⟩, fun H2 v2 cs s3 hu2 o => ?_⟩
      have hcs : (den cs).length = u.w.length := by rw [o.den]
      refine ⟨k + stp (cs ++ ⟨u.w, u.t - 1, u.s⟩ :: us') k, ?_, cs ++ ⟨u.w, u.t - 1, u.s⟩ :: us', v2, k, fv, fw, z, _, _, _, _, _, rfl, (s1.trans s2).trans s3, fun _ => ⟨hu2, ?_, ?_, fun y hy => ?_⟩, hfv.mono (s2.trans s3), ?_, rfl⟩
      · have x1 := stp_in cs (⟨u.w, u.t - 1, u.s⟩ :: us') k (by rw [hcs]; exact hlt)
        have x2 := o.usz
        have x3 : uz u = zz := by unfold uz; rw [hus]
        rw [stp_cut hc, if_neg (by rw [Nat.mod_eq_of_lt hlt]; exact hk0), x3]
        omega
      · rw [den_append, List.length_append, hcs]; omega
      · exact (o.small hs1.w).append (Sm.cons ⟨hs1.w, Nat.lt_of_le_of_lt (by show u.t - 1 ≤ u.t; omega) hs1.t⟩ hs.tail)
      · rcases List.mem_append.mp hy with hy | hy
        · have x1 := o.udp y hy
          have x2 := (udp_part hus).1
          omega
        · rcases List.mem_cons.mp hy with rfl | hy
          · exact Nat.le_trans (udp_le (by omega)) hDh
          · exact hDt y hy
      · rw [den_open o (by omega)]
        exact hfw
    · -- whole ones
      obtain ⟨c, hce⟩ : ∃ c, min u.t (k / u.w.length) = c := ⟨_, rfl⟩
      have hct : c ≤ u.t := by omega
      have hck : c * u.w.length ≤ k := by
        have h1 : c * u.w.length ≤ (k / u.w.length) * u.w.length := Nat.mul_le_mul_right _ (by omega)
        have h2 := Nat.div_mul_le_self k u.w.length
        omega
      have hcp : 0 < c * u.w.length := Nat.mul_pos (by omega) hw
      rw [hce]
      -- the heart, for the part that some is
      have heart : ∀ H2 sv, Same H1 H2 → (∃ ds zs, PR g.part H2 sv u.w ds zs ∧ ds ≤ D ∧ (2 ≤ c → ds + 1 ≤ D)) →
          tSeq (tAsg (tCall (spJoined g) [] E0 (tCons (tVar 2) (tCons (tCall (spRepeated g) [] E0 (tCons (tVar 7) (tCons (tVar 6) tNil))) tNil))) (gName 2))
            (tSeq (tAsg (tOp rSubI (tVar 1) (tOp rMulI (tVar 6) (tCall (spWidth g) [] E0 (tCons (tVar 3) tNil)))) (gName 1)) (tAsg (tTup (tCons (tVar 3) (tCons (tOp rSubI (tVar 4) (tVar 6)) (tCons (tVar 5) tNil)))) (gName 0)))
            { nx := fun σ' H' => ∃ n', n' < k + stp (u :: us') k ∧ ∃ us' v' k fv fw z a b c d e, σ' = [some v', some (.int (k : Nat)), some fv, a, b, c, d, e] ∧ Same H H' ∧ (0 < k → UR g.part H' us' v' ∧ k ≤ (den us').length ∧ Sm us' ∧ ∀ u ∈ us', udp u ≤ D) ∧ PR g.part H' fv fw D z ∧
              fw ++ (den us').take k = (den us).take m ∧ n' = k + stp us' k, rt := Q, bk := fun _ _ => False, ct := fun _ _ => False }
            [some (.ref p), some (.int (k : Nat)), some fv, some uv, some (.int (u.t : Nat)), some r, some (.int (c : Nat)), some sv] H2 := by
        rintro H2 sv s2 ⟨ds, zs, hsv, hds, hds2⟩
        refine ⟨_, rfl, _, rfl, _, rfl, _, u.w, ds, zs, c, D, rfl, hsv, lim_mul (Nat.lt_of_le_of_lt hct hs1.t) hs1.w, hds, hds2, fun H3 rv zr s3 hrv => ?_⟩
        refine ⟨_, _, fw, rp c u.w, D, z, zr, rfl, hfv.mono (s2.trans s3), hrv, fun H4 fv2 zf s4 hfv2 => ?_⟩
        refine ⟨_, rfl, _, rfl, _, rfl, _, u, rfl, huv.mono ((s2.trans s3).trans s4), nMul (lim4 (Nat.lt_of_le_of_lt hct hs1.t)) hwl (nSub hck ?_)⟩
        refine ⟨_, rfl, _, rfl, _, rfl, nSub hct ⟨_, rfl, small3, fun p2 np2 => ?_⟩⟩
        have s5 := (s2.trans s3).trans s4
        have s6 := s5.trans (sameNew (o := .tup [uv, .int ((u.t - c : Nat) : Int), r]) np2)
        refine ⟨(k - c * u.w.length) + stp (⟨u.w, u.t - c, u.s⟩ :: us') (k - c * u.w.length), ?_, ⟨u.w, u.t - c, u.s⟩ :: us', .ref p2, k - c * u.w.length, fv2, fw ++ rp c u.w, zf, _, _, _, _, _, rfl, s1.trans s6,
          fun _ => ⟨⟨p2, uv, r, rfl, upd_same, (huv.times (Nat.sub_le _ _)).mono s6, hr.mono s6⟩, ?_, Sm.cons ⟨hs1.w, Nat.lt_of_le_of_lt (Nat.sub_le _ _) hs1.t⟩ hs.tail, fun y hy => ?_⟩, hfv2.mono (sameNew np2), ?_, rfl⟩
        · by_cases hct2 : c = u.t
          · have h1 : u.t * u.w.length ≤ k := by rw [← hct2]; exact hck
            have e0 : u.t - c = 0 := by omega
            rw [stp_pass h1, stp_pass (u := ⟨u.w, u.t - c, u.s⟩) (by show (u.t - c) * u.w.length ≤ _; rw [e0, Nat.zero_mul]; exact Nat.zero_le _)]
            show k - c * u.w.length + (1 + stp us' (k - c * u.w.length - (u.t - c) * u.w.length)) < _
            rw [e0, Nat.zero_mul, Nat.sub_zero, hct2]
            rw [hct2] at hcp
            omega
          · have hcd : c = k / u.w.length := by omega
            have hnot : ¬ u.t * u.w.length ≤ k := by
              have : k / u.w.length < u.t := by omega
              rw [Nat.div_lt_iff_lt_mul hw] at this
              omega
            have hkr : k - c * u.w.length = k % u.w.length := by
              have := Nat.div_add_mod k u.w.length
              rw [Nat.mul_comm, ← hcd] at this
              omega
            have hkl : k % u.w.length < u.w.length := Nat.mod_lt _ hw
            have h2 : u.w.length ≤ (u.t - c) * u.w.length := Nat.le_mul_of_pos_left _ (by omega)
            have e2 : stp (⟨u.w, u.t - c, u.s⟩ :: us') (k - c * u.w.length) = stp (u :: us') k := by
              rw [stp_cut hnot, stp_cut (u := ⟨u.w, u.t - c, u.s⟩) (by show ¬ (u.t - c) * u.w.length ≤ _; omega)]
              show 1 + (if (k - c * u.w.length) % u.w.length = 0 then 0 else uz ⟨u.w, u.t - c, u.s⟩ + 1) = _
              rw [hkr, Nat.mod_mod]
              rfl
            rw [e2]
            omega
        · have e3 := den_len u us'
          rw [den_len]
          show k - c * u.w.length ≤ (u.t - c) * u.w.length + (den us').length
          rw [Nat.sub_mul]
          have : c * u.w.length ≤ u.t * u.w.length := Nat.mul_le_mul_right _ hct
          omega
        · rcases List.mem_cons.mp hy with rfl | hy
          · exact Nat.le_trans (udp_le (Nat.sub_le _ _)) hDh
          · exact hDt y hy
        · rw [List.append_assoc, ← take_part hct hck]
          exact hfw
      refine noD (by omega) (q_isU T (u := u) rfl huv ?_)
      cases hus : u.s with
      | none =>
        have huv' := huv
        unfold UnV at huv'
        rw [hus] at huv'
        obtain ⟨ht1, e, hwe, hev⟩ := huv'
        refine iteT ⟨_, rfl, small1, fun p3 np3 => ?_⟩
        intro x3 dx3 nx3 nd3 ne3
        refine q_PartR (vs := [.ref p3, .non, .non, .int 1]) (dvs := [.non]) rfl (wide_leaf upd_same) nx3 nd3 ne3 fun H3 s3 hx3 => ⟨rfl, ?_⟩
        have s4 : Same H1 H3 := Same.trans (sameNew np3) s3
        refine heart H3 (.ref x3) s4 ⟨0, 2 * u.w.length + 1, ?_, Nat.zero_le _, fun h2 => by omega⟩
        exact mkLeaf hx3 (s3 _ _ upd_same) (by rw [hwe]; exact ⟨hev.mono s4, trivial⟩)
      | some dz =>
        obtain ⟨dd, zz⟩ := dz
        have hup := udp_part hus
        exact iteF ⟨_, rfl, heart H1 uv (Same.refl _) ⟨dd, zz, huv.part hus, by omega, fun h2 => by have := hup.2 (by omega); omega⟩⟩
end
end RH
set_option exponentiation.threshold 256
set_option Elab.async false
set_option linter.all false
set_option maxRecDepth 100000
set_option maxHeartbeats 4000000
set_option exponentiation.threshold 100
namespace RH
open PySem PySem.Spec PyProof.Rows L2
theorem PR.turn {C : Addr} {H : Hp} {v : V} {w : List Ent} {d z : Nat} (h : PR C H v w d z) : ∃ a dx l lv rv t tf bv k wb zb, v = .ref a ∧ H a = some (.ins C dx (pf l lv rv t tf (.int (w.length : Nat)))) ∧ TurnOk H tf bv k w wb ∧ (tf ≠ .non → PR C H bv wb d zb) := by
  cases h with
  | leaf ha hl he ht hb => exact ⟨_, _, _, _, _, _, _, _, _, _, _, rfl, ha, ht, hb⟩
  | rep ha hl hn hw hp ht hb => exact ⟨_, _, _, _, _, _, _, _, _, _, _, rfl, by rw [rp_len]; exact ha, ht, hb⟩
  | cat ha hl h1 h2 hp hq ht hb => exact ⟨_, _, _, _, _, _, _, _, _, _, _, rfl, by rw [List.length_append]; exact ha, ht, hb⟩
section
variable {g : G} {mg : Str → Option Value} {vs : List V} {H : Hp} {Q : VK} {E : XK}
theorem small2 : (2 : Nat) ≤ sizeLine := by decide
/-- one part, alone -/
theorem ur_one {H : Hp} {p : Addr} {v : V} {w : List Ent} {d z : Nat} (hp : H p = some (.tup [v, .int 1, .non])) (hw : w ≠ []) (h : PR g.part H v w d z) : UR g.part H [⟨w, 1, some (d, z)⟩] (.ref p) :=
  ⟨p, v, .non, rfl, hp, ⟨hw, h⟩, rfl⟩
theorem den_one (w : List Ent) (s : Option (Nat × Nat)) : den [⟨w, 1, s⟩] = w := by
  show rp 1 w ++ [] = w
  rw [rp_one, List.append_nil]
theorem sm_one {w : List Ent} {s : Option (Nat × Nat)} (h : w.length < LIM) : Sm [⟨w, 1, s⟩] := Sm.cons ⟨h, by show 1 < 4 * LIM; omega⟩ (fun x hx => by cases hx)
theorem udp_one {w : List Ent} {d z : Nat} : ∀ u ∈ [(⟨w, 1, some (d, z)⟩ : UD)], udp u ≤ d := fun u hu => by
  cases List.mem_singleton.mp hu
  exact Nat.le_refl d
/-- from base and shift on -/
theorem rotatedEnd (T : Txt g mg) {v bv x1 x4 : Option V} {b : V} {w wb : List Ent} {d zb s m : Nat} (hb : PR g.part H b wb d zb) (hs : s < wb.length) (hl : wb.length < LIM) (hrot : rot m w = rot s wb) (q : ∀ H' v' z', Same H H' → PR g.part H' v' (rot m w) d z' → Q v' H') :
    tSeq (tIfS (tTest (tOp rEqS (tVar 3) (tC (.int 0)))) (tRet (tVar 2)) tNext)
    (tSeq (tAsg (tCall (spJoined g) [] E0 (tCons (tCall (spPartOf g) [] E0 (tCons (tCall (spBehind g) [] E0 (tCons (tTup (tCons (tVar 2) (tCons (tC (.int 1)) (tCons (tC .non) tNil)))) (tCons (tVar 3) tNil))) (tCons (tOp rSubI (tFld g.K (tVar 2) "wide") (tVar 3)) tNil))) (tCons (tCall (spPartOf g) [] E0 (tCons (tTup (tCons (tVar 2) (tCons (tC (.int 1)) (tCons (tC .non) tNil)))) (tCons (tVar 3) tNil))) tNil))) (gName 4))
    (tRet (tMake g.part (spPartInit g) [] E0 (tCons (tFld g.K (tVar 4) "letters") (tCons (tFld g.K (tVar 4) "left") (tCons (tFld g.K (tVar 4) "right") (tCons (tFld g.K (tVar 4) "times") (tCons (tTup (tCons (tVar 2) (tCons (tVar 3) tNil))) tNil)))))))) (EndQ Q) [v, x1, some b, some (.int (s : Nat)), x4] H := by
  refine ⟨_, rfl, nEq (b := 0) ⟨_, rfl, ?_⟩⟩
  by_cases hs0 : s = 0
  · refine yesD hs0 ⟨_, rfl, q H b zb (Same.refl H) ?_⟩
    rw [hrot, hs0, rot_zero]
    exact hb
  refine noD hs0 ?_
  have hne : wb ≠ [] := fun z => by rw [z] at hs; exact absurd hs (Nat.not_lt_zero _)
  -- (base, 1, None)
  refine ⟨_, rfl, small3, fun p1 np1 => ?_⟩
  have s1 : Same H (upd H p1 (.tup [b, .int 1, .non])) := sameNew np1
  refine ⟨_, rfl, _, [⟨wb, 1, some (d, zb)⟩], s, rfl, fun _ => ⟨ur_one upd_same hne (hb.mono s1), by rw [den_one]; omega, sm_one hl⟩, fun H2 v2 us2 s2 _ hx => ?_⟩
  obtain ⟨hu2, hd2, hD2, hsm2⟩ := hx (Nat.pos_of_ne_zero hs0)
  rw [den_one] at hd2
  have hb2 := hb.mono (s1.trans s2)
  -- base.wide - shift
  refine q_wide T hb2 (fun R r => ⟨_, rfl, r⟩) ⟨_, rfl, nSub (Nat.le_of_lt hs) ?_⟩
  have e1 : (den us2).length = wb.length - s := by rw [hd2, List.length_drop]
  refine ⟨_, us2, wb.length - s, d, rfl, fun _ => ⟨hu2, by omega, hsm2, hD2 d udp_one⟩, fun H3 v3 z3 s3 hv3 => ?_⟩
  rw [List.take_of_length_le (by omega), hd2] at hv3
  -- the second one
  refine ⟨_, rfl, small3, fun p4 np4 => ⟨_, rfl, ?_⟩⟩
  have s4 : Same H3 (upd H3 p4 (.tup [b, .int 1, .non])) := sameNew np4
  refine ⟨_, [⟨wb, 1, some (d, zb)⟩], s, d, rfl, fun _ => ⟨ur_one upd_same hne (hb2.mono (s3.trans s4)), by rw [den_one]; omega, sm_one hl, udp_one⟩, fun H5 v5 z5 s5 hv5 => ?_⟩
  rw [den_one] at hv5
  refine ⟨_, _, wb.drop s, wb.take s, d, z3, z5, rfl, hv3.mono (s4.trans s5), hv5, fun H6 v6 z6 s6 hv6 => ?_⟩
  have s16 : Same H H6 := (((s1.trans s2).trans s3).trans (s4.trans s5)).trans s6
  have hb6 := hb.mono s16
  have hlen : (wb.drop s ++ wb.take s).length = wb.length := rot_len s wb
  have hrot' : wb.drop s ++ wb.take s = rot m w := by rw [hrot]; rfl
  have hturn : ∀ {H7 : Hp} {p7 : Addr}, H7 p7 = some (.tup [b, .int (s : Nat)]) → TurnOk H7 (.ref p7) b s (wb.drop s ++ wb.take s) wb := fun h => .inr ⟨_, rfl, h, Nat.pos_of_ne_zero hs0, hs, rfl⟩
  generalize hx : wb.drop s ++ wb.take s = wx at hv6 hlen hrot' hturn
  cases hv6 with
  | @leaf a dx l es row wb' t tf bv' k' d' zb' ha hll he ht hbb =>
    refine ⟨_, rfl, a, _, dx, _, _, rfl, ha, T.part, T.p_letters, pf_letters .., _, rfl, a, _, dx, _, _, rfl, ha, T.part, T.p_left, pf_left .., _, rfl, a, _, dx, _, _, rfl, ha, T.part, T.p_right, pf_right .., _, rfl, a, _, dx, _, _, rfl, ha, T.part, T.p_times, pf_times .., _, rfl, _, rfl, small2, fun p7 np7 => ?_⟩
    have s7 : Same H6 (upd H6 p7 (.tup [b, .int (s : Nat)])) := sameNew np7
    intro x8 dx8 nx8 nd8 ne8
    refine q_PartR (vs := [.ref l, .non, .non, t, .ref p7]) (dvs := []) rfl (wide_leaf (s7 _ _ hll)) nx8 nd8 ne8 fun H8 s8 hx8 => ⟨rfl, ?_⟩
    refine q H8 _ (2 * wx.length + 1) (s16.trans (s7.trans s8)) ?_
    rw [← hrot']
    rw [he.len] at hx8
    exact .leaf (bv := b) (k := s) (wb := wb) (zb := zb) hx8 (s8 _ _ (s7 _ _ hll)) (he.mono (s7.trans s8)) (hturn (s8 _ _ upd_same)) fun _ => hb6.mono (s7.trans s8)
  | @rep a dx l lv tf bv' w0 wb' n k' d' z0 zb' ha hll hn hw0 hp0 ht hbb =>
    refine ⟨_, rfl, a, _, dx, _, _, rfl, ha, T.part, T.p_letters, pf_letters .., _, rfl, a, _, dx, _, _, rfl, ha, T.part, T.p_left, pf_left .., _, rfl, a, _, dx, _, _, rfl, ha, T.part, T.p_right, pf_right .., _, rfl, a, _, dx, _, _, rfl, ha, T.part, T.p_times, pf_times .., _, rfl, _, rfl, small2, fun p7 np7 => ?_⟩
    have s7 : Same H6 (upd H6 p7 (.tup [b, .int (s : Nat)])) := sameNew np7
    intro x8 dx8 nx8 nd8 ne8
    rw [rp_len] at hlen
    refine q_PartR (vs := [.ref l, lv, .non, .int (n : Nat), .ref p7]) (dvs := []) rfl (wide_rep (t := .non) (tf := .non) (hp0.mono s7) (by have : LIM * 1 ≤ LIM * LIM := Nat.mul_le_mul_left _ (by omega); have e8 : 8 * LIM * LIM = 8 * (LIM * LIM) := Nat.mul_assoc ..; omega) hn hw0) nx8 nd8 ne8 fun H8 s8 hx8 => ⟨rfl, ?_⟩
    refine q H8 _ (z0 + 3) (s16.trans (s7.trans s8)) ?_
    rw [← hrot']
    exact .rep (bv := b) (k := s) (wb := wb) (zb := zb) hx8 (s8 _ _ (s7 _ _ hll)) hn hw0 (hp0.mono (s7.trans s8)) (hturn (s8 _ _ upd_same)) fun _ => hb6.mono (s7.trans s8)
  | @cat a dx l lv rv t tf bv' w1 w2 wb' k' d' z1 z2 zb' ha hll m1 m2 hp1 hq1 ht hbb =>
    refine ⟨_, rfl, a, _, dx, _, _, rfl, ha, T.part, T.p_letters, pf_letters .., _, rfl, a, _, dx, _, _, rfl, ha, T.part, T.p_left, pf_left .., _, rfl, a, _, dx, _, _, rfl, ha, T.part, T.p_right, pf_right .., _, rfl, a, _, dx, _, _, rfl, ha, T.part, T.p_times, pf_times .., _, rfl, _, rfl, small2, fun p7 np7 => ?_⟩
    have s7 : Same H6 (upd H6 p7 (.tup [b, .int (s : Nat)])) := sameNew np7
    intro x8 dx8 nx8 nd8 ne8
    refine q_PartR (vs := [.ref l, lv, rv, t, .ref p7]) (dvs := []) rfl (wide_cat (tf := .non) (hp1.mono s7) (hq1.mono s7)) nx8 nd8 ne8 fun H8 s8 hx8 => ⟨rfl, ?_⟩
    refine q H8 _ (z1 + z2 + 5) (s16.trans (s7.trans s8)) ?_
    rw [← hrot']
    exact .cat (bv := b) (k := s) (wb := wb) (zb := zb) hx8 (s8 _ _ (s7 _ _ hll)) m1 m2 (hp1.mono (s7.trans s8)) (hq1.mono (s7.trans s8)) (hturn (s8 _ _ upd_same)) fun _ => hb6.mono (s7.trans s8)
theorem p_rotated (T : Txt g mg) (h : spRotated g vs H Q E) : t_rotated g (EndQ Q) (start N_rotated vs) H := by
  obtain ⟨v, w, d, z, m, rfl, hp, hm, hmw, hl, q⟩ := h
  obtain ⟨a, dx, l, lv, rv, t, tf, bv, k, wb, zb, rfl, ha, ht, hb⟩ := hp.turn
  refine ⟨_, rfl, a, _, dx, _, _, rfl, ha, T.part, T.p_turned, pf_turned .., rfl, _, rfl, ?_⟩
  rcases ht with rfl | ⟨tt, rfl, htt, hk0, hkl, hw⟩
  · refine yes (decide_eq_true rfl) ⟨_, rfl, small2, fun p np => ?_⟩
    have s1 : Same H (upd H p (.tup [.ref a, .int 0])) := sameNew np
    refine ⟨p, _, rfl, sT upd_same, rfl, _, _, rfl, _, _, rfl, rfl, ?_⟩
    refine ⟨_, rfl, _, rfl, nAdd (a := 0) (q_wide T (hp.mono s1) (fun R r => ⟨_, rfl, r⟩) (nMod (by omega) ?_))⟩
    have e : (0 + m) % w.length = m := by rw [Nat.zero_add]; exact Nat.mod_eq_of_lt hmw
    rw [e]
    exact rotatedEnd T (bv := none) (m := m) (w := w) (hp.mono s1) hmw hl rfl fun H' v' z' s2 hv => q H' v' z' (s1.trans s2) hv
  · refine no (dec_ref tt) ⟨_, rfl, a, _, dx, _, _, rfl, ha, T.part, T.p_turned, pf_turned .., tt, _, rfl, sT htt, rfl, _, _, rfl, _, _, rfl, rfl, ?_⟩
    have hb' := hb (fun z => nomatch z)
    have e0 : w.length = wb.length := by rw [hw, rot_len]
    refine ⟨_, rfl, _, rfl, nAdd (q_wide T hb' (fun R r => ⟨_, rfl, r⟩) (nMod (by omega) ?_))⟩
    refine rotatedEnd T (bv := none) (m := m) (w := w) hb' (Nat.mod_lt _ (by omega)) (by omega) ?_ q
    rw [hw, rot_rot (Nat.le_of_lt hkl) (by omega)]
end
end RH
set_option exponentiation.threshold 256
set_option Elab.async false
set_option linter.all false
set_option maxRecDepth 100000
set_option maxHeartbeats 4000000
set_option exponentiation.threshold 100
namespace RH
open PySem PySem.Spec PyProof.Rows L2
/-- fewer of the first unit -/
theorem Rk.less {R x n : Nat} {u : UD} {us : List UD} (h : Rk R (u :: us) x) (hn : n < u.t) : Rk R (⟨u.w, u.t - n, u.s⟩ :: us) (x - n * u.w.length) := by
  by_cases hx : x - n * u.w.length = 0
  · rw [hx]; exact Rk.zero
  · have h1 := h.head (by omega)
    refine Rk.cons (Nat.le_trans ?_ h1) ?_
    · cases hs : u.s with
      | none => unfold rkm; rw [hs]; exact Nat.le_refl _
      | some dz =>
        unfold rkm
        rw [hs]
        show (if u.t - n = 0 then 0 else if u.t - n = 1 then 2 * dz.1 else if x - n * u.w.length ≤ u.w.length then 2 * dz.1 + 1 else 2 * dz.1 + 2) ≤ (if u.t = 0 then 0 else if u.t = 1 then 2 * dz.1 else if x ≤ u.w.length then 2 * dz.1 + 1 else 2 * dz.1 + 2)
        rw [if_neg (show ¬ u.t - n = 0 by omega), if_neg (show ¬ u.t = 0 by omega)]
        split <;> split <;> (try split) <;> (try split) <;> omega
    · have h2 := h.tail
      show Rk R us (x - n * u.w.length - (u.t - n) * u.w.length)
      rw [Nat.sub_sub, ← Nat.add_mul, show n + (u.t - n) = u.t by omega]
      exact h2
/-- the first unit is turned by e letters -/
theorem Rk.turn {R y e d z z1 z2 t : Nat} {w : List Ent} {us : List UD} (h : Rk R (⟨w, t, some (d, z)⟩ :: us) y) (ht : 2 ≤ t) (he : e < w.length) (he0 : 0 < e) : Rk R (⟨rot e w, t - 1, some (d, z1)⟩ :: ⟨w.drop e, 1, some (d, z2)⟩ :: us) (y - e) := by
  by_cases hy : y - e = 0
  · rw [hy]; exact Rk.zero
  · have h1 := h.head (by omega)
    have h2 := h.tail
    have e1 : rkm ⟨w, t, some (d, z)⟩ y = if y ≤ w.length then 2 * d + 1 else 2 * d + 2 := by
      show (if t = 0 then 0 else if t = 1 then 2 * d else if y ≤ w.length then 2 * d + 1 else 2 * d + 2) = _
      rw [if_neg (by omega), if_neg (by omega)]
    rw [e1] at h1
    have hR : 2 * d + 1 ≤ R := by
      split at h1 <;> omega
    refine Rk.cons ?_ (Rk.cons ?_ ?_)
    · show (if t - 1 = 0 then 0 else if t - 1 = 1 then 2 * d else if y - e ≤ (rot e w).length then 2 * d + 1 else 2 * d + 2) ≤ R
      rw [rot_len, if_neg (by omega)]
      split
      · omega
      · split
        · omega
        · rw [if_neg (by omega)] at h1
          exact h1
    · show 2 * d ≤ R
      omega
    · show Rk R us (y - e - (t - 1) * (rot e w).length - 1 * (w.drop e).length)
      rw [rot_len, List.length_drop, Nat.one_mul]
      have e2 : (⟨w, t, some (d, z)⟩ : UD).t * (⟨w, t, some (d, z)⟩ : UD).w.length = (t - 1) * w.length + w.length := by
        show t * w.length = _
        rw [← Nat.succ_mul, Nat.succ_eq_add_one, Nat.sub_add_cancel (by omega)]
      rw [e2] at h2
      have e3 : y - e - (t - 1) * w.length - (w.length - e) = y - ((t - 1) * w.length + w.length) := by omega
      rw [e3]
      exact h2
section
variable {g : G} {mg : Str → Option Value} {vs : List V} {H : Hp} {Q : VK} {E : XK}
theorem p_gone_by (T : Txt g mg) (h : spGoneBy g vs H Q E) : t_gone_by g (EndQ Q) (start N_gone_by vs) H := by
  obtain ⟨v, us, m, rfl, hu, hle, hsm, q⟩ := h
  refine ⟨fun n σ H' => ∃ us' v' k a b c d, σ = [some v', some (.int (k : Nat)), a, b, c, d] ∧ Same H H' ∧ UR g.part H' us' v' ∧ k ≤ (den us').length ∧ (den us').drop k = (den us).drop m ∧ k ≤ m ∧ (∀ R r, Rk R us r → Rk R us' (r - (m - k))) ∧ Sm us' ∧ n = k + stp us' k,
    ⟨_, us, v, m, none, none, none, none, rfl, Same.refl H, hu, hle, rfl, Nat.le_refl _, fun R r k => by rw [Nat.sub_self, Nat.sub_zero]; exact k, hsm, rfl⟩, ?_⟩
  rintro n σ H1 ⟨us', v', k, a, b, c, d, rfl, s1, hu1, hk, hd, hkm, hRk, hs, rfl⟩
  refine ⟨_, rfl, nGt (b := 0) ⟨_, rfl, ?_⟩⟩
  by_cases hk0 : k = 0
  · subst hk0
    exact noD (by omega) ⟨_, rfl, q H1 v' us' s1 hu1 (by rw [← hd, List.drop_zero]) (fun R r x => hRk R r x) hs⟩
  have hkp : 0 < k := Nat.pos_of_ne_zero hk0
  refine yesD hkp ⟨fun σ' H' => ∃ n', n' < k + stp us' k ∧ ∃ us' v' k a b c d, σ' = [some v', some (.int (k : Nat)), a, b, c, d] ∧ Same H H' ∧ UR g.part H' us' v' ∧ k ≤ (den us').length ∧ (den us').drop k = (den us).drop m ∧ k ≤ m ∧ (∀ R r, Rk R us r → Rk R us' (r - (m - k))) ∧ Sm us' ∧ n' = k + stp us' k, fun _ _ x => x, ?_⟩
  cases us' with
  | nil => exact absurd hk (by show ¬ k ≤ 0; omega)
  | cons u us' =>
    obtain ⟨p, uv, r, rfl, hpp, huv, hr⟩ := hu1
    have hw := huv.pos
    have hs1 := hs.head
    have hwl := lim1 hs1.w
    have htl := lim4 hs1.t
    refine ⟨_, rfl, p, _, rfl, sT hpp, rfl, _, _, rfl, _, _, rfl, _, _, rfl, rfl, ?_⟩
    refine ⟨_, rfl, _, u, rfl, huv, _, rfl, nMul hwl htl ⟨_, rfl, nLe ⟨_, rfl, ?_⟩⟩⟩
    by_cases hc : u.t * u.w.length ≤ k
    · refine yesD (by rw [Nat.mul_comm]; exact hc) ⟨_, rfl, _, rfl, _, u, rfl, huv, _, rfl, nMul hwl htl (nSub (by rw [Nat.mul_comm]; exact hc) ?_)⟩
      rw [Nat.mul_comm u.w.length u.t]
      refine ⟨_, rfl, (k - u.t * u.w.length) + stp us' (k - u.t * u.w.length), ?_, us', r, k - u.t * u.w.length, _, _, _, _, rfl, s1, hr, ?_, ?_, by omega, fun R x hx => ?_, hs.tail, rfl⟩
      · rw [stp_pass hc]; omega
      · rw [den_len] at hk; omega
      · rw [← hd, drop_pass hc]
      · have h1 := (hRk R x hx).tail
        rw [show x - (m - (k - u.t * u.w.length)) = x - (m - k) - u.t * u.w.length by omega]
        exact h1
    · refine noD (by rw [Nat.mul_comm]; exact hc) ?_
      obtain ⟨dd, z, hus⟩ := huv.cut hkp hc
      obtain ⟨n, e, h1, h2, h3, h4, h5, h6, h7⟩ := whole_rest hw hc
      -- times, many, units
      refine ⟨_, rfl, _, rfl, _, rfl, _, u, rfl, huv, nDiv hw hs1.w ?_⟩
      rw [h1]
      refine nSub (Nat.le_of_lt h4) ?_
      refine ⟨_, rfl, _, rfl, _, u, rfl, huv, nMod hw ?_⟩
      rw [h3]
      refine ⟨_, rfl, _, rfl, _, rfl, small3, fun p1 np1 => ⟨_, rfl, nGt (b := 0) ⟨_, rfl, ?_⟩⟩⟩
      have s2 : Same H1 (upd H1 p1 (.tup [uv, .int ((u.t - n : Nat) : Int), r])) := sameNew np1
      have htake : (den (u :: us')).drop k = (den (⟨u.w, u.t - n, u.s⟩ :: us')).drop e := by
        rw [← drop_part (Nat.le_of_lt h4), h6]
      have stc := stp_cut (us := us') hc
      rw [h3] at stc
      have hless : ∀ R x, Rk R us x → Rk R (⟨u.w, u.t - n, u.s⟩ :: us') (x - (m - e)) := fun R x hx => by
        have := (hRk R x hx).less h4
        rw [show x - (m - e) = x - (m - k) - n * u.w.length by omega]
        exact this
      by_cases he0 : e = 0
      · have hpos : 0 < (u.t - n) * u.w.length := Nat.mul_pos (by omega) hw
        refine noD (by omega) (iteF ⟨_, rfl, nGt (b := 0) ⟨_, rfl, ?_⟩⟩)
        refine noD (by omega) ⟨e + stp (⟨u.w, u.t - n, u.s⟩ :: us') e, ?_, ⟨u.w, u.t - n, u.s⟩ :: us', .ref p1, e, _, _, _, _, rfl, s1.trans s2, ⟨p1, uv, r, rfl, upd_same, (huv.times (Nat.sub_le _ _)).mono s2, hr.mono s2⟩, by omega, ?_, by omega, hless, Sm.cons ⟨hs1.w, Nat.lt_of_le_of_lt (Nat.sub_le _ _) hs1.t⟩ hs.tail, rfl⟩
        · rw [stp_cut (u := ⟨u.w, u.t - n, u.s⟩) (by show ¬ (u.t - n) * u.w.length ≤ e; omega), stc, he0, if_pos (Nat.zero_mod _), if_pos rfl]
          omega
        · rw [← hd, htake]
      · refine yesD (by omega) ⟨_, rfl, nEq (b := 1) ⟨_, rfl, ?_⟩⟩
        by_cases ht1 : u.t - n = 1
        · -- the last one is opened
          refine yesD ht1 ⟨_, rfl, _, rfl, _, _, u.w, dd, z, us', rfl, (huv.part hus).mono s2, hr.mono s2, fun H2 v2 cs s4 hu2 o => ?_⟩
          have hcs : (den cs).length = u.w.length := by rw [o.den]
          have e1 : den (⟨u.w, u.t - n, u.s⟩ :: us') = den (cs ++ us') := by
            rw [den_append, o.den, den_cons, ht1, rp_one]
          refine ⟨e + stp (cs ++ us') e, ?_, cs ++ us', v2, e, _, _, _, _, rfl, (s1.trans s2).trans s4, hu2, ?_, ?_, by omega, fun R x hx => ?_, (o.small hs1.w).append hs.tail, rfl⟩
          · have x1 := stp_in cs us' e (by rw [hcs]; exact h5)
            have x2 := o.usz
            have x3 : uz u = z := by unfold uz; rw [hus]
            rw [stc, if_neg he0, x3]
            omega
          · rw [den_append, List.length_append, hcs]; omega
          · rw [← e1, ← hd, htake]
          · have := hless R x hx
            rw [ht1, hus] at this
            exact this.open o
        · -- turned
          refine noD ht1 ⟨_, rfl, nGt (b := 0) ⟨_, rfl, yesD (by omega) ?_⟩⟩
          have hpu := (huv.part hus).mono s2
          refine ⟨_, rfl, small3, fun p3 np3 => ?_⟩
          have s3 : Same _ (upd (upd H1 p1 (.tup [uv, .int ((u.t - n : Nat) : Int), r])) p3 (.tup [uv, .int 1, .non])) := sameNew np3
          refine ⟨_, rfl, _, [⟨u.w, 1, some (dd, z)⟩], e, rfl, fun _ => ⟨ur_one upd_same huv.ne (hpu.mono s3), by rw [den_one]; omega, sm_one hs1.w⟩, fun H4 v4 us4 s4 _ hx => ?_⟩
          obtain ⟨hu4, hd4, hD4, hsm4⟩ := hx (Nat.pos_of_ne_zero he0)
          rw [den_one] at hd4
          have e4 : (den us4).length = u.w.length - e := by rw [hd4, List.length_drop]
          refine q_wide T (hpu.mono (s3.trans s4)) (fun R r => ⟨_, rfl, r⟩) ⟨_, rfl, nSub (Nat.le_of_lt h5) ?_⟩
          refine ⟨_, us4, u.w.length - e, dd, rfl, fun _ => ⟨hu4, by omega, hsm4, hD4 dd udp_one⟩, fun H5 v5 z5 s5 hv5 => ?_⟩
          rw [List.take_of_length_le (by omega), hd4] at hv5
          have s15 := ((s2.trans s3).trans s4).trans s5
          refine ⟨_, rfl, _, rfl, _, u.w, dd, z, e, rfl, (huv.part hus).mono s15, by omega, h5, hs1.w, fun H6 v6 z6 s6 hv6 => ?_⟩
          refine ⟨_, rfl, nSub (b := 1) (by omega) ⟨_, rfl, _, rfl, small3, fun p7 np7 => ⟨small3, fun p8 np8 => ?_⟩⟩⟩
          have s7 : Same H6 (upd H6 p7 (.tup [v5, .int 1, r])) := sameNew np7
          have s8 := s7.trans (sameNew (o := .tup [v6, .int ((u.t - n - 1 : Nat) : Int), .ref p7]) np8)
          have hdne : u.w.drop e ≠ [] := fun zz => by
            have := congrArg List.length zz
            rw [List.length_drop] at this
            have h0 : ([] : List Ent).length = 0 := rfl
            omega
          have hrne : rot e u.w ≠ [] := fun zz => by
            have := congrArg List.length zz
            rw [rot_len] at this
            have h0 : ([] : List Ent).length = 0 := rfl
            omega
          have hp7 : (upd (upd H6 p7 (.tup [v5, .int 1, r])) p8 (.tup [v6, .int ((u.t - n - 1 : Nat) : Int), .ref p7])) p7 = some (.tup [v5, .int 1, r]) := by
            rw [upd_ne (ne_of_none (upd_same (H := H6)) np8)]; exact upd_same
          refine q _ (.ref p8) (⟨rot e u.w, u.t - n - 1, some (dd, z6)⟩ :: ⟨u.w.drop e, 1, some (dd, z5)⟩ :: us') (((s1.trans s15).trans s6).trans s8) ⟨p8, v6, .ref p7, rfl, upd_same, ⟨hrne, hv6.mono s8⟩, p7, v5, r, rfl, hp7, ⟨hdne, hv5.mono (s6.trans s8)⟩, hr.mono ((s15.trans s6).trans s8)⟩ ?_ (fun R x hx => ?_) ?_
          · rw [← hd, htake, den_cons, den_cons, den_cons, List.drop_append_of_le_length (by rw [rp_len]; have : u.w.length ≤ (u.t - n) * u.w.length := Nat.le_mul_of_pos_left _ (by omega); show e ≤ (u.t - n) * u.w.length; omega)]
            show rp (u.t - n - 1) (rot e u.w) ++ (rp 1 (u.w.drop e) ++ den us') = (rp (u.t - n) u.w).drop e ++ den us'
            rw [rp_turn (by omega) (Nat.le_of_lt h5), rp_one, List.append_assoc]
          · have h8 := hless R x hx
            rw [hus] at h8
            have h9 := h8.turn (z1 := z6) (z2 := z5) (by omega) h5 (by omega)
            rw [show x - m = x - (m - e) - e by omega]
            exact h9
          · refine Sm.cons ⟨by rw [rot_len]; exact hs1.w, ?_⟩ (Sm.cons ⟨?_, ?_⟩ hs.tail)
            · have := hs1.t
              show u.t - n - 1 < 4 * LIM
              omega
            · rw [List.length_drop]
              have := hs1.w
              omega
            · have := hs1.w
              show 1 < 4 * LIM
              omega
end
end RH
set_option exponentiation.threshold 256
set_option Elab.async false
set_option linter.all false
set_option maxRecDepth 100000
set_option maxHeartbeats 4000000
set_option exponentiation.threshold 100
namespace RH
open PySem PySem.Spec PyProof.Rows L2
theorem ent_shaped {e : Ent} (h : EntS e) : SeqAt.shaped (entD e) = true := by
  obtain ⟨k, t⟩ := e
  have h1 := h.k
  have h2 := h.t
  simp only at h1 h2
  unfold entD tagD
  cases t <;> simp [h1, h2, SeqAt.shaped, PyData.canLay0, PyData.canLayAll0, PyData.depth, PyData.depthAll]
theorem dp_tag {K : PySem.W.Frag} {H : Hp} (t : Option Str) : Dp K H (tagV t) (tagD t) := by
  cases t
  · exact .non
  · exact .str _
theorem dp_ent {K : PySem.W.Frag} {H : Hp} {e : Ent} {v : V} (h : EntV H e v) : Dp K H v (entD e) := by
  obtain ⟨_, a, rfl, h⟩ := h
  exact .tup (sT h) (.cons (.str _) (.cons (dp_tag _) .nil))
theorem str_beq (a b : Str) : (a == b) = decide (a = b) := by
  by_cases h : a = b
  · subst h; simp
  · rw [decide_eq_false h]; exact beq_eq_false_iff_ne.mpr h
theorem eqv_tag (a b : Option Str) : PyData.eqv (tagD a) (tagD b) = decide (a = b) := by
  cases a with
  | none => cases b with
    | none => rfl
    | some y => rfl
  | some x => cases b with
    | none => rfl
    | some y =>
      show (x == y) = decide (some x = some y)
      rw [str_beq]
      by_cases h : x = y
      · subst h; simp
      · rw [decide_eq_false h, decide_eq_false (fun z => h (Option.some.inj z))]
theorem eqv_ent (a b : Ent) : PyData.eqv (entD a) (entD b) = decide (a = b) := by
  have h1 : PyData.eqv (entD a) (entD b) = (PyData.eqv (.str a.k) (.str b.k) && (PyData.eqv (tagD a.t) (tagD b.t) && true)) := by
    unfold entD
    first | rfl | simp [PyData.eqv, PyData.eqvAll]
  have h2 : PyData.eqv (.str a.k) (.str b.k) = decide (a.k = b.k) := by
    show (a.k == b.k) = _
    exact str_beq _ _
  rw [h1, h2, eqv_tag, Bool.and_true]
  obtain ⟨ka, ta⟩ := a
  obtain ⟨kb, tb⟩ := b
  by_cases hk : ka = kb
  · subst hk
    by_cases ht : ta = tb
    · subst ht; simp
    · simp [ht]
  · simp [hk]
section
variable {g : G} {mg : Str → Option Value} {vs : List V} {H : Hp} {Q : VK} {E : XK}
theorem p_run_ahead (T : Txt g mg) (h : spRunAhead g vs H Q E) : t_run_ahead g (EndQ Q) (start N_run_ahead vs) H := by
  obtain ⟨v, u, us, m, rfl, hu, hus, hut, hm, q⟩ := h
  have hlen : 1 ≤ (den (u :: us)).length := by
    have hp := hu
    obtain ⟨_, _, _, _, _, huv, _⟩ := hp
    have := huv.pos
    rw [den_len, hut]
    omega
  -- first_unit of a row that begins with an entry
  refine ⟨_, rfl, _, u :: us, rfl, hu, fun h0 => absurd (congrArg List.length h0) (by show ¬ _ = 0; omega), fun H1 v1 u1 us1 s1 hu1 hd1 ht1 hp1 _ _ hsame => ?_⟩
  have hsame := hsame u us rfl (by omega) (.inl hus)
  refine ⟨_, _, rfl, ?_⟩
  refine ⟨fun n σ H' => ∃ k us' v', σ = [some v', some (.int (m : Nat)), some (.int (k : Nat))] ∧ Same H H' ∧ UR g.part H' us' v' ∧ k ≤ m ∧ k + (den us').length = (den (u :: us)).length ∧ (k = 0 → ∃ w ws, us' = w :: ws ∧ w.s = none) ∧ (∀ w ws, us' = w :: ws → 1 ≤ w.t) ∧ n = m - k,
    ⟨_, 0, u1 :: us1, v1, rfl, s1, hu1, Nat.zero_le _, by rw [hd1, Nat.zero_add], fun _ => ⟨u1, us1, rfl, by injection hsame with e1; rw [e1]; exact hus⟩, fun w ws e => by injection e with e1; rw [← e1]; exact ht1, rfl⟩, ?_⟩
  rintro n σ H2 ⟨k, us', v', rfl, s2, hu2, hkm, hlen2, h0, hpos, rfl⟩
  refine ⟨_, rfl, _, rfl, nLt ⟨_, rfl, ?_⟩⟩
  have hend : k ≠ 0 → (EndQ Q).rt (.int (k : Nat)) H2 := fun hk => q H2 k s2 (by omega) hkm (by omega)
  by_cases hlt : k < m
  · refine yesD hlt ⟨_, rfl, rfl, _, rfl, ?_⟩
    cases us' with
    | nil =>
      cases (show v' = .non from hu2)
      refine no rfl (iteF ⟨_, rfl, hend fun hk => ?_⟩)
      obtain ⟨w, ws, e, _⟩ := h0 hk
      cases e
    | cons w ws =>
      obtain ⟨p, uv, r, rfl, hpp, huv, hr⟩ := hu2
      refine yes (by rw [dec_ref]; rfl) (q_isT T (u := w) (fun R x => ⟨_, rfl, p, _, 0, uv, rfl, rfl, sT hpp, by rfl, x⟩) huv ?_)
      cases hws : w.s with
      | some dz =>
        refine iteF ⟨_, rfl, hend fun hk => ?_⟩
        obtain ⟨w', ws', e, hn⟩ := h0 hk
        injection e with e1
        rw [← e1, hws] at hn
        cases hn
      | none =>
        refine iteT ⟨fun σ' H' => ∃ n', n' < m - k ∧ ∃ k us' v', σ' = [some v', some (.int (m : Nat)), some (.int (k : Nat))] ∧ Same H H' ∧ UR g.part H' us' v' ∧ k ≤ m ∧ k + (den us').length = (den (u :: us)).length ∧ (k = 0 → ∃ w ws, us' = w :: ws ∧ w.s = none) ∧ (∀ w ws, us' = w :: ws → 1 ≤ w.t) ∧ n' = m - k, fun _ _ x => x, ?_⟩
        have hw1 : w.t * w.w.length = 1 := by
          have hx := huv
          unfold UnV at hx
          rw [hws] at hx
          obtain ⟨a1, e, a2, _⟩ := hx
          have a3 := hpos w ws rfl
          rw [a2, show w.t = 1 by omega]
          rfl
        rw [den_len, hw1] at hlen2
        refine ⟨_, rfl, nAdd (b := 1) ⟨_, rfl, p, _, 2, r, rfl, rfl, sT hpp, by rfl, ?_⟩⟩
        refine ⟨_, ws, rfl, hr, fun hz H3 s3 => ?_, fun H3 v3 u3 us3 s3 hu3 hd3 ht3 _ _ _ _ => ?_⟩
        · exact ⟨_, _, rfl, m - (k + 1), by omega, k + 1, [], .non, rfl, s2.trans s3, rfl, hlt, by rw [hz] at hlen2; have : (den []).length = 0 := rfl; have h2 : ([] : List Ent).length = 0 := rfl; omega, fun z => by omega, (fun w ws e => by cases e), rfl⟩
        · exact ⟨_, _, rfl, m - (k + 1), by omega, k + 1, u3 :: us3, v3, rfl, s2.trans s3, hu3, hlt, by rw [hd3]; omega, fun z => by omega, fun w ws e => by injection e with e1; rw [← e1]; exact ht3, rfl⟩
  · refine noD hlt (iteF ⟨_, rfl, hend (by omega)⟩)
end
end RH
set_option exponentiation.threshold 256
set_option Elab.async false
set_option linter.all false
set_option maxRecDepth 100000
set_option maxHeartbeats 4000000
set_option exponentiation.threshold 100
namespace RH
open PySem PySem.Spec PyProof.Rows L2
theorem Rk.of_udp {D : Nat} : ∀ {us : List UD} {m : Nat}, (∀ u ∈ us, udp u ≤ D) → Rk (2 * D) us m
  | [], _, _ => trivial
  | u :: us, m, h => .inr ⟨Nat.le_trans (rkm_le u m) (by rw [rkx_udp]; have := h u (List.mem_cons_self ..); omega), Rk.of_udp fun x hx => h x (List.mem_cons_of_mem _ hx)⟩
theorem rkm_part {w : List Ent} {t d z m : Nat} (ht : 2 ≤ t) : rkm ⟨w, t, some (d, z)⟩ m = if m ≤ w.length then 2 * d + 1 else 2 * d + 2 := by
  show (if t = 0 then 0 else if t = 1 then 2 * d else if m ≤ w.length then 2 * d + 1 else 2 * d + 2) = _
  rw [if_neg (by omega), if_neg (by omega)]
/-- behind an opened part the same part again, no further than its end -/
theorem Rk.opened {a m d z t : Nat} {w : List Ent} {s : Option (Nat × Nat)} {cs us : List UD} (o : Opn cs w d z) (hs : s = some (d, z)) (ha : 2 * d + 1 ≤ a) (hm : m ≤ 2 * w.length) (hmt : m ≤ (t + 1) * w.length) (h2 : w.length < m → 2 * d + 1 ≤ a) : Rk a (cs ++ ⟨w, t, s⟩ :: us) m := by
  subst hs
  refine Rk.front (fun c hc => ?_) ?_
  · rw [rkx_udp]
    have := o.udp c hc
    omega
  · rw [o.den]
    by_cases hx : m - w.length = 0
    · rw [hx]; exact Rk.zero
    · refine Rk.cons ?_ ?_
      · show (if t = 0 then 0 else if t = 1 then 2 * d else if m - w.length ≤ w.length then 2 * d + 1 else 2 * d + 2) ≤ a
        split
        · omega
        · split
          · omega
          · rw [if_pos (by omega)]; omega
      · show Rk a us (m - w.length - t * w.length)
        rw [Nat.add_mul, Nat.one_mul] at hmt
        rw [show m - w.length - t * w.length = 0 by omega]
        exact Rk.zero
section
variable {g : G} {mg : Str → Option Value} {vs : List V} {H : Hp} {Q : VK} {E : XK}
theorem den_sing (u : UD) : den [u] = rp u.t u.w := by
  show rp u.t u.w ++ [] = _
  rw [List.append_nil]
theorem take_rp_succ {w : List Ent} {M : Nat} (hw : 0 < w.length) : (w ++ rp M w).take M = (rp M w).take M := by
  rw [← rp_succ, rp_add, rp_one, List.take_append_of_le_length (by rw [rp_len]; exact Nat.le_mul_of_pos_right _ hw)]
theorem p_alike_for (T : Txt g mg) {n : Nat} (h : spAlikeFor g (n + 1) vs H Q E) : t_alike_for g n (EndQ Q) (start N_alike_for vs) H := by
  obtain ⟨v1, v2, w1, w2, d1, d2, z1, z2, rfl, h1, h2, n1, n2, l1, l2, hn, q⟩ := h
  have p1 : 0 < w1.length := List.length_pos_iff.mpr n1
  have p2 : 0 < w2.length := List.length_pos_iff.mpr n2
  obtain ⟨M, hM⟩ : ∃ M, w1.length + w2.length = M := ⟨_, rfl⟩
  have hM1 : M ≤ M * w1.length := Nat.le_mul_of_pos_right _ p1
  have hM2 : M ≤ M * w2.length := Nat.le_mul_of_pos_right _ p2
  refine q_wide T h1 (fun R r => ⟨_, rfl, r⟩) (q_wide T h2 (fun R r => ⟨_, rfl, r⟩) (nAdd ?_))
  rw [hM]
  rw [hM] at q
  show tTest (tOp rGtI (tFld g.K (tVar 1) "wide") (tFld g.K (tVar 0) "wide")) [some v1, some v2, some (.int (M : Nat))] H _
  refine q_wide T h2 (fun R r => ⟨_, rfl, r⟩) (q_wide T h1 (fun R r => ⟨_, rfl, r⟩) (nGt ⟨_, rfl, ?_⟩))
  by_cases hc : w1.length < w2.length
  · refine yesD hc ⟨_, rfl, _, rfl, small3, fun pa npa => ⟨_, rfl, _, rfl, _, rfl, small3, fun pb npb => ?_⟩⟩
    have sa : Same H (upd H pa (.tup [v1, .int (M : Nat), .non])) := sameNew npa
    have sb := sa.trans (sameNew (o := .tup [v2, .int (M : Nat), .non]) npb)
    refine ⟨_, _, w2, d2, z2, [⟨w2, M, some (d2, z2)⟩], rfl, h2.mono sb, ⟨pb, v2, .non, rfl, upd_same, ⟨n2, h2.mono sb⟩, rfl⟩, fun H3 v3 cs s3 hu3 o => ?_⟩
    have hpa : H3 pa = some (.tup [v1, .int (M : Nat), .non]) := s3 _ _ (sameNew npb _ _ upd_same)
    refine ⟨_, rfl, _, _, [⟨w1, M, some (d1, z1)⟩], cs ++ [⟨w2, M, some (d2, z2)⟩], M, 2 * d1 + 2, 2 * d2 + 1, rfl, fun _ => ⟨⟨pa, v1, .non, rfl, hpa, ⟨n1, h1.mono (sb.trans s3)⟩, rfl⟩, hu3, ?_, ?_, ?_, ?_, ?_, ?_, by omega⟩, fun H4 k s4 hk => q H4 k ((sb.trans s3).trans s4) ?_⟩
    · rw [den_sing, rp_len]; exact hM1
    · rw [den_append, den_sing, List.length_append, rp_len]; show M ≤ _ + M * w2.length; omega
    · exact Sm.cons ⟨l1, by show M < 4 * LIM; omega⟩ (fun x hx => by cases hx)
    · exact (o.small l2).append (Sm.cons ⟨l2, by show M < 4 * LIM; omega⟩ (fun x hx => by cases hx))
    · refine Rk.cons ?_ trivial
      rw [rkm_part (by omega)]
      split <;> omega
    · refine Rk.opened o rfl (by omega) (by omega) ?_ (fun _ => by omega)
      rw [Nat.add_mul]; omega
    · rw [den_sing, den_append, o.den, den_sing] at hk
      exact hk.congr rfl (take_rp_succ p2)
  · refine noD hc ⟨_, rfl, _, rfl, _, rfl, small3, fun pa npa => ?_⟩
    have sa : Same H (upd H pa (.tup [v1, .int (M : Nat), .non])) := sameNew npa
    refine ⟨_, _, w1, d1, z1, [⟨w1, M, some (d1, z1)⟩], rfl, h1.mono sa, ⟨pa, v1, .non, rfl, upd_same, ⟨n1, h1.mono sa⟩, rfl⟩, fun H3 v3 cs s3 hu3 o => ?_⟩
    refine ⟨_, rfl, _, rfl, small3, fun pb npb => ⟨_, rfl, ?_⟩⟩
    have sb : Same H3 (upd H3 pb (.tup [v2, .int (M : Nat), .non])) := sameNew npb
    have s5 := (sa.trans s3).trans sb
    refine ⟨_, _, cs ++ [⟨w1, M, some (d1, z1)⟩], [⟨w2, M, some (d2, z2)⟩], M, 2 * d1 + 1, 2 * d2 + 2, rfl, fun _ => ⟨hu3.mono sb, ⟨pb, v2, .non, rfl, upd_same, ⟨n2, h2.mono s5⟩, rfl⟩, ?_, ?_, ?_, ?_, ?_, ?_, by omega⟩, fun H4 k s4 hk => q H4 k (s5.trans s4) ?_⟩
    · rw [den_append, den_sing, List.length_append, rp_len]; show M ≤ _ + M * w1.length; omega
    · rw [den_sing, rp_len]; exact hM2
    · exact (o.small l1).append (Sm.cons ⟨l1, by show M < 4 * LIM; omega⟩ (fun x hx => by cases hx))
    · exact Sm.cons ⟨l2, by show M < 4 * LIM; omega⟩ (fun x hx => by cases hx)
    · refine Rk.opened o rfl (by omega) (by omega) ?_ (fun _ => by omega)
      rw [Nat.add_mul]; omega
    · refine Rk.cons ?_ trivial
      rw [rkm_part (by omega)]
      split <;> omega
    · rw [den_sing, den_append, o.den, den_sing] at hk
      exact hk.congr (take_rp_succ p1) rfl
/-- a wide part is opened: its rank falls -/
theorem Wd.falls {u : UD} {us cs : List UD} {m m0 a d z : Nat} (W : Wd u us m) (hs : u.s = some (d, z)) (o : Opn cs u.w d z) (hk : Rk a (u :: us) m0) (hm : m ≤ m0) (hp : 0 < m) : 1 ≤ a ∧ Rk (a - 1) (cs ++ ⟨u.w, u.t - 1, u.s⟩ :: us) m := by
  have h1 := hk.head (by omega)
  have e : rkm u m0 = if m0 ≤ u.w.length then 2 * d + 1 else 2 * d + 2 := by
    have : u = ⟨u.w, u.t, some (d, z)⟩ := by rw [← hs]
    rw [this]
    exact rkm_part W.t
  rw [e] at h1
  have hall := W.all
  have ht := W.t
  by_cases hc : m0 ≤ u.w.length
  · rw [if_pos hc] at h1
    refine ⟨by omega, ?_⟩
    refine Rk.front (fun c hcc => ?_) ?_
    · rw [rkx_udp]
      have := o.udp c hcc
      omega
    · rw [o.den, show m - u.w.length = 0 by omega]
      exact Rk.zero
  · rw [if_neg hc] at h1
    refine ⟨by omega, Rk.opened o hs (by omega) W.two ?_ (fun _ => by omega)⟩
    rw [show u.t - 1 + 1 = u.t by omega]
    exact hall
theorem p_alike_ahead (T : Txt g mg) {n : Nat} (h : spAlikeAhead g (n + 1) vs H Q E) : t_alike_ahead g n (EndQ Q) (start N_alike_ahead vs) H := by
  obtain ⟨v1, v2, u1, us1, u2, us2, m, m0, a, b, rfl, hu1, hu2, hm, hm0, hl1, hl2, hs1, hs2, hk1, hk2, hab, w1, w2, w3, w4, q⟩ := h
  obtain ⟨p1, uv1, r1, rfl, hp1, huv1, hr1⟩ := hu1
  obtain ⟨p2, uv2, r2, rfl, hp2, huv2, hr2⟩ := hu2
  refine ⟨_, rfl, p1, _, rfl, sT hp1, rfl, _, _, rfl, _, _, rfl, _, _, rfl, rfl, ?_⟩
  refine ⟨_, rfl, p2, _, rfl, sT hp2, rfl, _, _, rfl, _, _, rfl, _, _, rfl, rfl, ?_⟩
  -- the other one is opened
  have other : Wd u2 us2 m → tRet (tCall (spAgreement g n) [] E0 (tCons (tVar 0) (tCons (tCall (spOpened g) [] E0 (tCons (tVar 6) (tCons (tTup (tCons (tVar 6) (tCons (tOp rSubI (tVar 7) (tC (.int 1))) (tCons (tVar 8) tNil)))) tNil))) (tCons (tVar 2) tNil)))) (EndQ Q) [some (.ref p1), some (.ref p2), some (.int (m : Nat)), some uv1, some (.int (u1.t : Nat)), some r1, some uv2, some (.int (u2.t : Nat)), some r2] H := fun W => by
    obtain ⟨d, z, hus⟩ : ∃ d z, u2.s = some (d, z) := by
      cases hx : u2.s with
      | none => exact absurd hx W.part
      | some dz => exact ⟨dz.1, dz.2, rfl⟩
    have ht := W.t
    refine ⟨_, rfl, _, rfl, _, rfl, _, rfl, nSub (b := 1) (by omega) ⟨_, rfl, small3, fun p3 np3 => ?_⟩⟩
    have s3 : Same H (upd H p3 (.tup [uv2, .int ((u2.t - 1 : Nat) : Int), r2])) := sameNew np3
    refine ⟨_, _, u2.w, d, z, ⟨u2.w, u2.t - 1, u2.s⟩ :: us2, rfl, (huv2.part hus).mono s3, ⟨p3, uv2, r2, rfl, upd_same, (huv2.times (Nat.sub_le _ _)).mono s3, hr2.mono s3⟩, fun H4 v4 cs s4 hu4 o => ?_⟩
    have s5 := s3.trans s4
    have ⟨ha1, hkf⟩ := W.falls hus o hk2 hm0 hm
    have eden : den (cs ++ ⟨u2.w, u2.t - 1, u2.s⟩ :: us2) = den (u2 :: us2) := den_open o (by omega)
    refine ⟨_, rfl, _, _, u1 :: us1, cs ++ ⟨u2.w, u2.t - 1, u2.s⟩ :: us2, m, a, b - 1, rfl, fun _ => ⟨⟨p1, uv1, r1, rfl, s5 _ _ hp1, huv1.mono s5, hr1.mono s5⟩, hu4, hl1, by rw [eden]; exact hl2, hs1, ?_, hk1.down hm0, hkf, by omega⟩, fun H6 k s6 hk => q H6 k (s5.trans s6) (by rw [eden] at hk; exact hk)⟩
    exact (o.small hs2.head.w).append (Sm.cons ⟨hs2.head.w, Nat.lt_of_le_of_lt (by show u2.t - 1 ≤ u2.t; omega) hs2.head.t⟩ hs2.tail)
  have one : Wd u1 us1 m → tRet (tCall (spAgreement g n) [] E0 (tCons (tCall (spOpened g) [] E0 (tCons (tVar 3) (tCons (tTup (tCons (tVar 3) (tCons (tOp rSubI (tVar 4) (tC (.int 1))) (tCons (tVar 5) tNil)))) tNil))) (tCons (tVar 1) (tCons (tVar 2) tNil)))) (EndQ Q) [some (.ref p1), some (.ref p2), some (.int (m : Nat)), some uv1, some (.int (u1.t : Nat)), some r1, some uv2, some (.int (u2.t : Nat)), some r2] H := fun W => by
    obtain ⟨d, z, hus⟩ : ∃ d z, u1.s = some (d, z) := by
      cases hx : u1.s with
      | none => exact absurd hx W.part
      | some dz => exact ⟨dz.1, dz.2, rfl⟩
    have ht := W.t
    refine ⟨_, rfl, _, rfl, _, rfl, nSub (b := 1) (by omega) ⟨_, rfl, small3, fun p3 np3 => ?_⟩⟩
    have s3 : Same H (upd H p3 (.tup [uv1, .int ((u1.t - 1 : Nat) : Int), r1])) := sameNew np3
    refine ⟨_, _, u1.w, d, z, ⟨u1.w, u1.t - 1, u1.s⟩ :: us1, rfl, (huv1.part hus).mono s3, ⟨p3, uv1, r1, rfl, upd_same, (huv1.times (Nat.sub_le _ _)).mono s3, hr1.mono s3⟩, fun H4 v4 cs s4 hu4 o => ?_⟩
    have s5 := s3.trans s4
    have ⟨ha1, hkf⟩ := W.falls hus o hk1 hm0 hm
    have eden : den (cs ++ ⟨u1.w, u1.t - 1, u1.s⟩ :: us1) = den (u1 :: us1) := den_open o (by omega)
    refine ⟨_, rfl, _, rfl, _, _, cs ++ ⟨u1.w, u1.t - 1, u1.s⟩ :: us1, u2 :: us2, m, a - 1, b, rfl, fun _ => ⟨hu4, ⟨p2, uv2, r2, rfl, s5 _ _ hp2, huv2.mono s5, hr2.mono s5⟩, by rw [eden]; exact hl1, hl2, ?_, hs2, hkf, hk2.down hm0, by omega⟩, fun H6 k s6 hk => q H6 k (s5.trans s6) (by rw [eden] at hk; exact hk)⟩
    exact (o.small hs1.head.w).append (Sm.cons ⟨hs1.head.w, Nat.lt_of_le_of_lt (by show u1.t - 1 ≤ u1.t; omega) hs1.head.t⟩ hs1.tail)
  refine q_isU T (u := u1) rfl huv1 ?_
  cases e1 : u1.s with
  | none => exact iteT (iteT (other (w3 e1)))
  | some dz1 =>
    refine iteF (q_isU T (u := u2) rfl huv2 ?_)
    cases e2 : u2.s with
    | none => exact iteF (iteF (one (w4 e2)))
    | some dz2 =>
      refine iteT (q_wide T (huv2.part (d := dz2.1) (z := dz2.2) e2) (fun R r => ⟨_, rfl, r⟩) (q_wide T (huv1.part (d := dz1.1) (z := dz1.2) e1) (fun R r => ⟨_, rfl, r⟩) (nGt ⟨_, rfl, ?_⟩)))
      have x1 : u1.s ≠ none := by rw [e1]; exact fun z => nomatch z
      have x2 : u2.s ≠ none := by rw [e2]; exact fun z => nomatch z
      by_cases hc : u1.w.length < u2.w.length
      · exact yesD hc (other (w2 x1 x2 hc))
      · exact noD hc (one (w1 x1 x2 (by omega)))
end
end RH
set_option exponentiation.threshold 256
set_option Elab.async false
set_option linter.all false
set_option maxRecDepth 100000
set_option maxHeartbeats 4000000
set_option exponentiation.threshold 100
namespace RH
open PySem PySem.Spec PyProof.Rows L2
theorem take_rp_eq {α : Type} {w : List α} {s t m : Nat} (hs : m ≤ s * w.length) (ht : m ≤ t * w.length) : (rp s w).take m = (rp t w).take m := by
  by_cases hw : w = []
  · subst hw
    rw [rp_nil, rp_nil]
  · exact take_eq_of_get fun i hi => by rw [rp_get hw s i (by omega), rp_get hw t i (by omega)]
theorem take_den {u : UD} {us : List UD} {m : Nat} (h : m ≤ u.t * u.w.length) : (den (u :: us)).take m = (rp u.t u.w).take m := by
  rw [den_cons, List.take_append_of_le_length (by rw [rp_len]; exact h)]
theorem take_more {α : Type} {x y : List α} {f k : Nat} (h1 : x.take f = y.take f) (h2 : (x.drop f).take k = (y.drop f).take k) : x.take (f + k) = y.take (f + k) := by
  rw [List.take_add, List.take_add, h1, h2]
section
variable {g : G} {mg : Str → Option Value} {vs : List V} {H : Hp} {Q : VK} {E : XK}
theorem bool_nat (b : Bool) : V.int (if b then 1 else 0) = V.int ((if b then 1 else 0 : Nat) : Nat) := by cases b <;> rfl
theorem p_agreement (T : Txt g mg) {n : Nat} (h : spAgreement g n vs H Q E) : t_agreement g n (EndQ Q) (start N_agreement vs) H := by
  obtain ⟨v1, v2, us1, us2, m, a, b, rfl, hh, q⟩ := h
  refine ⟨fun k σ H' => ∃ f us1' us2' v1' v2' a4 a5 a6 a7 a8 a9 a10 a11 a12 a13 a14, σ = [some v1', some v2', some (.int (m : Nat)), some (.int (f : Nat)), a4, a5, a6, a7, a8, a9, a10, a11, a12, a13, a14] ∧ Same H H' ∧ f ≤ m ∧ (den us1).take f = (den us2).take f ∧
      (f < m → UR g.part H' us1' v1' ∧ UR g.part H' us2' v2' ∧ den us1' = (den us1).drop f ∧ den us2' = (den us2).drop f ∧ m ≤ (den us1).length ∧ m ≤ (den us2).length ∧ Rk a us1' (m - f) ∧ Rk b us2' (m - f) ∧ Sm us1' ∧ Sm us2' ∧ a + b ≤ n) ∧ k = m - f,
    ⟨_, 0, us1, us2, v1, v2, none, none, none, none, none, none, none, none, none, none, none, rfl, Same.refl H, Nat.zero_le _, by rw [List.take_zero, List.take_zero], fun hm => ?_, rfl⟩, ?_⟩
  · obtain ⟨h1, h2, h3, h4, h5, h6, h7, h8, h9⟩ := hh hm
    exact ⟨h1, h2, rfl, rfl, h3, h4, h7, h8, h5, h6, h9⟩
  rintro k σ H1 ⟨f, us1', us2', v1', v2', a4, a5, a6, a7, a8, a9, a10, a11, a12, a13, a14, rfl, s1, hf, htk, hst, rfl⟩
  refine ⟨_, rfl, _, rfl, nLt ⟨_, rfl, ?_⟩⟩
  by_cases hlt : f < m
  case neg =>
    have : f = m := by omega
    subst this
    exact noD hlt ⟨_, rfl, q H1 f s1 ⟨Nat.le_refl _, htk, fun z => absurd z (Nat.lt_irrefl _)⟩⟩
  obtain ⟨hu1, hu2, hd1, hd2, hl1, hl2, hk1, hk2, hs1, hs2, hab⟩ := hst hlt
  have hr1 : m - f ≤ (den us1').length := by rw [hd1, List.length_drop]; omega
  have hr2 : m - f ≤ (den us2').length := by rw [hd2, List.length_drop]; omega
  refine yesD hlt ⟨fun σ' H' => ∃ k', k' < m - f ∧ ∃ f us1' us2' v1' v2' a4 a5 a6 a7 a8 a9 a10 a11 a12 a13 a14, σ' = [some v1', some v2', some (.int (m : Nat)), some (.int (f : Nat)), a4, a5, a6, a7, a8, a9, a10, a11, a12, a13, a14] ∧ Same H H' ∧ f ≤ m ∧ (den us1).take f = (den us2).take f ∧
      (f < m → UR g.part H' us1' v1' ∧ UR g.part H' us2' v2' ∧ den us1' = (den us1).drop f ∧ den us2' = (den us2).drop f ∧ m ≤ (den us1).length ∧ m ≤ (den us2).length ∧ Rk a us1' (m - f) ∧ Rk b us2' (m - f) ∧ Sm us1' ∧ Sm us2' ∧ a + b ≤ n) ∧ k' = m - f, fun _ _ x => x, ?_⟩
  -- first_unit of both
  refine ⟨_, rfl, _, us1', rfl, hu1, fun hz => absurd (congrArg List.length hz) (by show ¬ _ = 0; omega), fun H2 va ua usa s2 hua hda hta hpa hka hsa _ => ?_⟩
  refine ⟨_, rfl, _, us2', rfl, hu2.mono s2, fun hz => absurd (congrArg List.length hz) (by show ¬ _ = 0; omega), fun H3 vb ub usb s3 hub hdb htb hpb hkb hsb _ => ?_⟩
  have hk1 := hka _ _ hk1
  have hk2 := hkb _ _ hk2
  have hs1 := hsa hs1
  have hs2 := hsb hs2
  have hua := hua.mono s3
  have hua0 := hua
  have hub0 := hub
  obtain ⟨pa, uva, ra, rfl, hpa1, huva, hra⟩ := hua
  obtain ⟨pb, uvb, rb, rfl, hpb1, huvb, hrb⟩ := hub
  refine ⟨_, _, rfl, ?_⟩
  refine ⟨_, rfl, rfl, _, rfl, no (dec_ref pa) ⟨_, rfl, rfl, _, rfl, no (dec_ref pb) ?_⟩⟩
  refine ⟨_, rfl, pa, _, rfl, sT hpa1, rfl, _, _, rfl, _, _, rfl, _, _, rfl, rfl, ?_⟩
  refine ⟨_, rfl, pb, _, rfl, sT hpb1, rfl, _, _, rfl, _, _, rfl, _, _, rfl, rfl, ?_⟩
  have hwa := huva.pos
  have hwb := huvb.pos
  have hsa1 := hs1.head
  have hsb1 := hs2.head
  refine ⟨_, rfl, _, rfl, _, ua, rfl, huva, nMul (lim4 hsa1.t) (lim1 hsa1.w) ⟨_, rfl, _, rfl, _, ub, rfl, huvb, nMul (lim4 hsb1.t) (lim1 hsb1.w) ⟨_, rfl, _, rfl, nSub hf (nMin3 ?_)⟩⟩⟩
  rw [← hda] at hd1 hr1
  rw [← hdb] at hd2 hr2
  obtain ⟨r, hr⟩ : ∃ r, m - f = r := ⟨_, rfl⟩
  rw [hr] at hk1 hk2 hr1 hr2 ⊢
  obtain ⟨M, hM⟩ : ∃ M, min (ua.t * ua.w.length) (min (ub.t * ub.w.length) r) = M := ⟨_, rfl⟩
  rw [hM]
  have xa : 0 < ua.t * ua.w.length := Nat.mul_pos (by omega) hwa
  have xb : 0 < ub.t * ub.w.length := Nat.mul_pos (by omega) hwb
  have M1 : 1 ≤ M := by omega
  have Ma : M ≤ ua.t * ua.w.length := by omega
  have Mb : M ≤ ub.t * ub.w.length := by omega
  have Mr : M ≤ r := by omega
  have s13 : Same H H3 := (s1.trans s2).trans s3
  refine ⟨fun σ' H' => ∃ (al du many : Nat) (x13 x14 : Option V), σ' = [some (.ref pa), some (.ref pb), some (.int (m : Nat)), some (.int (f : Nat)), some uva, some (.int (ua.t : Nat)), some ra, some uvb, some (.int (ub.t : Nat)), some rb, some (.int (many : Nat)), some (.int (al : Nat)), some (.int (du : Nat)), x13, x14] ∧ Same H3 H' ∧
      (al < du → al < r ∧ Agr (den (ua :: usa)) (den (ub :: usb)) r al) ∧ (¬ al < du → 1 ≤ many ∧ many ≤ r ∧ (den (ua :: usa)).take many = (den (ub :: usb)).take many), ?_, ?_⟩
  · -- how far both are alike
    have after : ∀ (many al : Nat), 0 < many → many ≤ r → Agr (den (ua :: usa)) (den (ub :: usb)) many al →
        (al < many → al < r ∧ Agr (den (ua :: usa)) (den (ub :: usb)) r al) ∧ (¬ al < many → 1 ≤ many ∧ many ≤ r ∧ (den (ua :: usa)).take many = (den (ub :: usb)).take many) := fun many al h0 hmr hag =>
      ⟨fun hl => ⟨by omega, hag.mono hl hmr⟩, fun hl => by
        have e : al = many := by have := hag.le; omega
        have := hag.eq
        rw [e] at this
        exact ⟨h0, hmr, this⟩⟩
    have entry : ∀ {u : UD} {v : V}, UnV g.part H3 u v → u.s = none → 1 ≤ u.t → ∃ e, u.t = 1 ∧ u.w = [e] ∧ EntV H3 e v := fun {u v} hu hs ht => by
      unfold UnV at hu
      rw [hs] at hu
      obtain ⟨h1, e, h2, h3⟩ := hu
      exact ⟨e, by omega, h2, h3⟩
    refine q_isU T (u := ua) rfl huva ?_
    cases ea : ua.s with
    | none =>
      obtain ⟨x, xt, xw, xe⟩ := entry huva ea hta
      refine iteT (q_isU T (u := ub) rfl huvb ?_)
      cases eb : ub.s with
      | none =>
        obtain ⟨y, yt, yw, ye⟩ := entry huvb eb htb
        have hM1 : M = 1 := by rw [xt, xw, yt, yw] at hM; have : [x].length = 1 := rfl; have : [y].length = 1 := rfl; omega
        have dx : den (ua :: usa) = x :: den usa := by rw [den_cons, xt, rp_one, xw]; rfl
        have dy : den (ub :: usb) = y :: den usb := by rw [den_cons, yt, rp_one, yw]; rfl
        refine iteT ⟨_, rfl, _, rfl, entD x, entD y, dp_ent xe, dp_ent ye, ent_shaped xe.1, ent_shaped ye.1, Or.inr ⟨_, rfl, ⟨_, _, rfl, ?_⟩⟩⟩
        by_cases hxy : x = y
        · have e1 : PyData.eqv (entD x) (entD y) = true := by rw [eqv_ent]; exact decide_eq_true hxy
          rw [e1]
          refine ⟨1, 1, M, _, _, rfl, Same.refl _, fun z => absurd z (Nat.lt_irrefl _), fun _ => ⟨M1, Mr, ?_⟩⟩
          rw [hM1, dx, dy, hxy]
          rfl
        · have e1 : PyData.eqv (entD x) (entD y) = false := by rw [eqv_ent]; exact decide_eq_false hxy
          rw [e1]
          refine ⟨0, 1, M, _, _, rfl, Same.refl _, fun _ => ⟨by omega, Nat.zero_le _, by rw [List.take_zero, List.take_zero], fun _ z => hxy ?_⟩, fun z => absurd (Nat.zero_lt_one) z⟩
          rw [dx, dy] at z
          exact Option.some.inj z
      | some dz =>
        obtain ⟨d, z⟩ := dz
        have hpb2 := huvb.part eb
        have tb2 : 2 ≤ ub.t := hpb (by rw [eb]; exact fun z => nomatch z)
        refine iteF (q_isU T (u := ua) rfl huva ?_)
        rw [ea]
        refine iteT (iteT (q_isU T (u := ua) rfl huva ?_))
        rw [ea]
        refine iteT ⟨_, rfl, _, rfl, small2, fun p np => ⟨p, _, rfl, sT upd_same, rfl, _, _, rfl, _, _, rfl, rfl, ?_⟩⟩
        have s4 : Same H3 (upd H3 p (.tup [.ref pa, uvb])) := sameNew np
        refine ⟨_, rfl, ?_⟩
        refine q_wide T (hpb2.mono s4) (fun R r => ⟨_, rfl, r⟩) ⟨_, rfl, _, rfl, nSub hf (nMin2 ?_)⟩
        rw [hr]
        refine ⟨_, ua, usa, min ub.w.length r, rfl, hua0.mono s4, ea, xt, by omega, fun H5 k0 s5 h1 h2 h3 => ?_⟩
        have hb2 : ub.w.length ≤ ub.t * ub.w.length := Nat.le_mul_of_pos_left _ (by omega)
        have nb : ub.s ≠ none := by rw [eb]; exact (fun z => by cases z)
        have s45 := s4.trans s5
        refine ⟨_, rfl, _, rfl, _, rfl, _, _, ua, usa, ub, usb, k0, r, a, b, rfl, hua0.mono s45, hub0.mono s45, by omega, by omega, by omega, by omega, hs1, hs2, hk1, hk2, hab, fun z => absurd ea z, fun z => absurd ea z, fun _ => ⟨nb, tb2, by omega, by omega⟩, fun z => absurd z nb, fun H6 al s6 hag => ?_⟩
        have ⟨c1, c2⟩ := after k0 al (by omega) (by omega) hag
        exact ⟨_, rfl, _, _, rfl, al, k0, k0, _, _, rfl, s45.trans s6, c1, c2⟩
    | some dza =>
      obtain ⟨da, za⟩ := dza
      have hpa2 := huva.part ea
      have ta2 : 2 ≤ ua.t := hpa (by rw [ea]; exact fun z => nomatch z)
      refine iteF (iteF (q_isU T (u := ua) rfl huva ?_))
      rw [ea]
      refine iteF (q_isU T (u := ub) rfl huvb ?_)
      cases eb : ub.s with
      | none =>
        obtain ⟨y, yt, yw, ye⟩ := entry huvb eb htb
        refine iteT (q_isU T (u := ua) rfl huva ?_)
        rw [ea]
        refine iteF ⟨_, rfl, _, rfl, small2, fun p np => ⟨p, _, rfl, sT upd_same, rfl, _, _, rfl, _, _, rfl, rfl, ?_⟩⟩
        have s4 : Same H3 (upd H3 p (.tup [.ref pb, uva])) := sameNew np
        refine ⟨_, rfl, ?_⟩
        refine q_wide T (hpa2.mono s4) (fun R r => ⟨_, rfl, r⟩) ⟨_, rfl, _, rfl, nSub hf (nMin2 ?_)⟩
        rw [hr]
        refine ⟨_, ub, usb, min ua.w.length r, rfl, hub0.mono s4, eb, yt, by omega, fun H5 k0 s5 h1 h2 h3 => ?_⟩
        have ha2 : ua.w.length ≤ ua.t * ua.w.length := Nat.le_mul_of_pos_left _ (by omega)
        have na : ua.s ≠ none := by rw [ea]; exact (fun z => by cases z)
        have s45 := s4.trans s5
        refine ⟨_, rfl, _, rfl, _, rfl, _, _, ua, usa, ub, usb, k0, r, a, b, rfl, hua0.mono s45, hub0.mono s45, by omega, by omega, by omega, by omega, hs1, hs2, hk1, hk2, hab, fun _ z => absurd eb z, fun _ z => absurd eb z, fun z => absurd z na, fun _ => ⟨na, ta2, by omega, by omega⟩, fun H6 al s6 hag => ?_⟩
        have ⟨c1, c2⟩ := after k0 al (by omega) (by omega) hag
        exact ⟨_, rfl, _, _, rfl, al, k0, k0, _, _, rfl, s45.trans s6, c1, c2⟩
      | some dzb =>
        obtain ⟨db, zb⟩ := dzb
        have hpb2 := huvb.part eb
        have tb2 : 2 ≤ ub.t := hpb (by rw [eb]; exact fun z => nomatch z)
        have na : ua.s ≠ none := by rw [ea]; exact fun z => nomatch z
        have nb : ub.s ≠ none := by rw [eb]; exact fun z => nomatch z
        refine iteF ⟨_, rfl, _, rfl, _, ua, rfl, huva, _, rfl, _, ub, rfl, huvb, nAdd (nLt ⟨_, rfl, ?_⟩)⟩
        by_cases hc : M < ua.w.length + ub.w.length
        · refine yesD hc ⟨_, rfl, _, rfl, _, rfl, _, _, ua, usa, ub, usb, M, r, a, b, rfl, hua0, hub0, by omega, by omega, by omega, by omega, hs1, hs2, hk1, hk2, hab, fun _ _ hle => ⟨na, ta2, Ma, by omega⟩, fun _ _ hle => ⟨nb, tb2, Mb, by omega⟩, fun z => absurd z na, fun z => absurd z nb, fun H6 al s6 hag => ?_⟩
          have ⟨c1, c2⟩ := after M al (by omega) Mr hag
          exact ⟨_, rfl, _, _, rfl, al, M, M, _, _, rfl, s6, c1, c2⟩
        · refine noD hc ⟨_, rfl, _, rfl, _, _, ua.w, ub.w, da, db, za, zb, rfl, hpa2, hpb2, huva.ne, huvb.ne, hsa1.w, hsb1.w, ?_, fun H4 k s4 hag => ?_⟩
          · have h1 := hk1.head (by omega)
            have h2 := hk2.head (by omega)
            have e1 : ua = ⟨ua.w, ua.t, some (da, za)⟩ := by rw [← ea]
            have e2 : ub = ⟨ub.w, ub.t, some (db, zb)⟩ := by rw [← eb]
            rw [e1, rkm_part ta2, if_neg (by omega)] at h1
            rw [e2, rkm_part tb2, if_neg (by omega)] at h2
            omega
          · refine ⟨_, rfl, _, ua, rfl, huva.mono s4, _, rfl, _, ub, rfl, huvb.mono s4, nAdd ⟨_, _, rfl, k, ua.w.length + ub.w.length, M, _, _, rfl, s4, fun hl => ?_, fun hl => ?_⟩⟩
            · have p1 : ua.w.length + ub.w.length ≤ (ua.w.length + ub.w.length) * ua.w.length := Nat.le_mul_of_pos_right _ hwa
              have p2 : ua.w.length + ub.w.length ≤ (ua.w.length + ub.w.length) * ub.w.length := Nat.le_mul_of_pos_right _ hwb
              refine ⟨by omega, Agr.mono (m := ua.w.length + ub.w.length) (hag.congr ?_ ?_) hl (by omega)⟩
              · rw [take_den (by omega)]; exact take_rp_eq p1 (by omega)
              · rw [take_den (by omega)]; exact take_rp_eq p2 (by omega)
            · refine ⟨M1, Mr, ?_⟩
              have e : k = ua.w.length + ub.w.length := by have := hag.le; omega
              have h3 := hag.eq
              rw [e] at h3
              rw [take_den Ma, take_den Mb]
              exact rp_agree huva.ne huvb.ne (Nat.le_refl _) h3 Ma Mb
  · rintro σ' H4 ⟨al, du, many, x13, x14, rfl, s4, c1, c2⟩
    refine ⟨_, rfl, _, rfl, nLt ⟨_, rfl, ?_⟩⟩
    by_cases hal : al < du
    · refine yesD hal ⟨_, rfl, _, rfl, nAdd (q H4 (f + al) (s13.trans s4) ?_)⟩
      obtain ⟨_, hag⟩ := c1 hal
      rw [hd1, hd2] at hag
      have := Agr.behind htk hag
      rw [show f + r = m by omega] at this
      exact this
    · obtain ⟨hm1, hmr, heq⟩ := c2 hal
      refine noD hal ⟨_, rfl, _, rfl, nAdd ?_⟩
      refine ⟨_, rfl, _, rfl, _, ua :: usa, many, rfl, hua0.mono s4, by omega, hs1, fun H5 v5 us5 s5 hu5 hd5 hk5 hs5 => ?_⟩
      refine ⟨_, rfl, _, rfl, _, ub :: usb, many, rfl, hub0.mono (s4.trans s5), by omega, hs2, fun H6 v6 us6 s6 hu6 hd6 hk6 hs6 => ?_⟩
      rw [hd1, hd2] at heq
      refine ⟨_, _, rfl, m - (f + many), by omega, f + many, us5, us6, v5, v6, _, _, _, _, _, _, _, _, _, _, _, rfl, ((s13.trans s4).trans s5).trans s6, by omega, take_more htk heq, fun _ => ⟨hu5.mono s6, hu6, ?_, ?_, hl1, hl2, ?_, ?_, hs5, hs6, hab⟩, rfl⟩
      · rw [hd5, hd1, List.drop_drop]
      · rw [hd6, hd2, List.drop_drop]
      · rw [show m - (f + many) = r - many by omega]; exact hk5 _ _ hk1
      · rw [show m - (f + many) = r - many by omega]; exact hk6 _ _ hk2
end
end RH
set_option exponentiation.threshold 256
set_option Elab.async false
set_option linter.all false
set_option maxRecDepth 100000
set_option maxHeartbeats 4000000
set_option exponentiation.threshold 100
namespace RH
open PySem PySem.Spec PyProof.Rows L2
section
variable {g : G} {mg : Str → Option Value} {vs : List V} {H : Hp} {Q : VK} {E : XK}
theorem q_yes {σ : L2.St} {R : Bool → Hp → Prop} (h : R true H) : tYes σ H R := h
theorem p_is_name (T : Txt g mg) (h : spIsName vs H Q E) : t_is_name g (EndQ Q) (start N_is_name vs) H := by
  rcases h with ⟨x, rfl, hn, q⟩ | ⟨rfl, q⟩
  · refine q_isi (v := .str x) rfl (.base (.str x)) kit_ss ⟨true, rfl, no rfl ?_⟩
    have hle : x.length ≤ sizeLine := Nat.le_trans hn.hi (by decide)
    refine ⟨_, rfl, _, x.length, rfl, ⟨hle, rfl⟩, nLe (a := 1) ⟨_, rfl, yesD hn.lo (nLe (b := 8) ⟨_, rfl, ?_⟩)⟩⟩
    refine no (by rw [decide_eq_true hn.hi]; rfl) ?_
    refine ⟨_, rfl, x, rfl, fun D nD => ?_⟩
    refine lc_it (walk_str (z := x)) (fun i H' => Same H H' ∧ H' D = some (.lst (List.replicate i (.bl true)))) ⟨sameNew nD, upd_same⟩ (fun _ _ _ _ => trivial) ?_ ?_
    · rintro i y H1 H2 hi ⟨s1, hD⟩ ⟨rfl, c, hc, rfl⟩
      refine ⟨rfl, q_yes (yes rfl ⟨_, rfl, c, letters26, rfl, rfl, _, hD, ?_, ?_⟩)⟩
      · rw [List.length_replicate]
        have : x.cps.size = x.length := rfl
        omega
      · have hmem : c ∈ letters26.cps.toList := hn.all c (by rw [Array.mem_toList_iff]; exact Array.mem_of_getElem? hc)
        rw [decide_eq_true hmem]
        refine ⟨samePut s1 nD, ?_⟩
        rw [upd_same, List.replicate_succ']
    · rintro H1 ⟨s1, hD⟩
      refine ⟨D, List.replicate x.cps.size true, rfl, sL (by rw [List.map_replicate]; exact hD), ?_⟩
      have e : (List.replicate x.cps.size true).all id = true := by simp
      rw [e]
      exact q H1 s1
  · refine q_isi (v := .non) rfl (.base .non) kit_ns ⟨false, rfl, yes rfl (yes rfl (q H (Same.refl H)))⟩
theorem p_is_entry (T : Txt g mg) (h : spIsEntry vs H Q E) : t_is_entry g (EndQ Q) (start N_is_entry vs) H := by
  obtain ⟨v, e, rfl, hv, ok, q⟩ := h
  have hv0 := hv
  obtain ⟨hs, a, rfl, ha⟩ := hv
  refine q_isi rfl (ty_ent hv0) kit_tt ⟨true, rfl, no rfl ?_⟩
  refine ⟨_, rfl, a, _, rfl, .inr (sT ha), nNe (a := 2) (b := 2) ⟨_, rfl, no (by rfl) ?_⟩⟩
  refine ⟨_, rfl, a, _, 0, .str e.k, rfl, rfl, sT ha, by rfl, _, .ty "str", _, _, true, rfl, .ty "str", .base (.str _), kit_ss, true, rfl, no rfl ?_⟩
  refine ⟨_, rfl, a, _, 0, .str e.k, rfl, rfl, sT ha, by rfl, g.kinds, _, rfl, .inr (T.kinds H), rfl, rfl, _, rfl, no ?_ ?_⟩
  · rcases ok.kind with h | h <;> rw [h] <;> decide +kernel
  · refine ⟨_, rfl, a, _, 1, tagV e.t, rfl, rfl, sT ha, by rfl, ?_⟩
    have ht := ok.tag
    cases et : e.t with
    | some x =>
      rw [et] at ht
      exact .inl ⟨x, rfl, ht, fun H1 s1 => ⟨true, rfl, iteT (q H1 s1)⟩⟩
    | none =>
      rw [et] at ht
      refine .inr ⟨rfl, fun H1 s1 => ⟨false, rfl, iteF ⟨_, rfl, small2, fun p np => ?_⟩⟩⟩
      have s2 : Same H1 (upd H1 p (.tup [.str "emit", .non])) := sameNew np
      have e1 : e = ⟨"emit", none⟩ := by
        obtain ⟨k, t⟩ := e
        simp only at et ht
        rw [et, ht]
      have hp : EntV (upd H1 p (.tup [.str "emit", .non])) e (.ref p) := ⟨hs, p, rfl, by rw [e1]; exact upd_same⟩
      refine ⟨entD e, entD e, dp_ent (hv0.mono (s1.trans s2)), dp_ent hp, ent_shaped hs, ent_shaped hs, ?_⟩
      rw [eqv_ent, decide_eq_true rfl]
      exact q _ (s1.trans s2)
theorem p_check_index (h : spCheckIndex vs H Q E) : t_check_index g (EndQ Q) (start N_check_index vs) H := by
  obtain ⟨i, lo, hi, rfl, h1, h2, q⟩ := h
  refine ⟨_, rfl, _, rfl, _, rfl, i, lo, hi, rfl, _, rfl, no ?_ q⟩
  rw [decide_eq_true h1, decide_eq_true h2]
  rfl
theorem p_Made_init (T : Txt g mg) (h : spMadeInit g vs H Q E) : t_Made_init g (EndQ Q) (start N_Made_init vs) H := by
  obtain ⟨a, dx, p, n, q', rfl, ha, q⟩ := h
  rw [← upd_self ha]
  refine (show sFld g.K (tVar 0) (tVar 1) "part" _ _ _ from q_setf (y := p) rfl T.made T.m_part (by show (0 : Nat) < 1000; decide) (fun R r => ⟨_, rfl, r⟩) ?_)
  refine (show sFld g.K (tVar 0) (tVar 2) "nesting" _ _ _ from q_setf (y := n) rfl T.made T.m_nesting (by show (1 : Nat) < 1000; decide) (fun R r => ⟨_, rfl, r⟩) ?_)
  exact (show sFld g.K (tVar 0) (tVar 3) "pieces" _ _ _ from q_setf (y := q') rfl T.made T.m_pieces (by show (2 : Nat) < 1000; decide) (fun R r => ⟨_, rfl, r⟩) q)
theorem wf_part {fs : List (Str × V)} {p n q : V} (h : fs = wf1 p n q ∨ fs = wf2 p n q) : fs.lookup ("part" : Str) = some p ∧ fs.lookup ("nesting" : Str) = some n ∧ fs.lookup ("pieces" : Str) = some q ∧ fs.lookup ("length" : Str) = none := by
  rcases h with rfl | rfl <;> exact ⟨rfl, rfl, rfl, rfl⟩
theorem q_wpart (T : Txt g mg) {ta : TE} {σ : L2.St} {v : V} {w : List Ent} {d n q : Nat} (h : WR g H v w d n q) (hv : ∀ R : VK, R v H → ta σ H R) (k : ∀ pv z, PR g.part H pv w d z → Q pv H) : tFld g.K ta "part" σ H Q := by
  obtain ⟨a, dx, fs, pv, z, rfl, ha, hf, hp⟩ := h
  exact hv _ ⟨a, _, dx, fs, pv, rfl, ha, T.word, T.w_part, (wf_part hf).1, k pv z hp⟩
theorem q_wnest (T : Txt g mg) {ta : TE} {σ : L2.St} {v : V} {w : List Ent} {d n q : Nat} (h : WR g H v w d n q) (hv : ∀ R : VK, R v H → ta σ H R) (k : Q (.int (n : Nat)) H) : tFld g.K ta "nesting" σ H Q := by
  obtain ⟨a, dx, fs, pv, z, rfl, ha, hf, hp⟩ := h
  exact hv _ ⟨a, _, dx, fs, _, rfl, ha, T.word, T.w_nesting, (wf_part hf).2.1, k⟩
theorem q_wpieces (T : Txt g mg) {ta : TE} {σ : L2.St} {v : V} {w : List Ent} {d n q : Nat} (h : WR g H v w d n q) (hv : ∀ R : VK, R v H → ta σ H R) (k : Q (.int (q : Nat)) H) : tFld g.K ta "pieces" σ H Q := by
  obtain ⟨a, dx, fs, pv, z, rfl, ha, hf, hp⟩ := h
  exact hv _ ⟨a, _, dx, fs, _, rfl, ha, T.word, T.w_pieces, (wf_part hf).2.2.1, k⟩
/-- word.length() -/
theorem q_len {ta : TE} {σ : L2.St} {v : V} {w : List Ent} {d n q : Nat} (h : WR g H v w d n q) (hv : ∀ R : VK, R v H → ta σ H R) (k : Q (.int (w.length : Nat)) H) : tMeth g.word "length" (spLength g) [] E0 ta tNil σ H Q := by
  have h0 := h
  obtain ⟨a, dx, fs, pv, z, rfl, ha, hf, hp⟩ := h
  exact hv _ ⟨a, dx, fs, rfl, ha, (wf_part hf).2.2.2, _, w, d, n, q, rfl, h0, k⟩
theorem p_length (T : Txt g mg) (h : spLength g vs H Q E) : t_length g (EndQ Q) (start N_length vs) H := by
  obtain ⟨v, w, d, n, q', rfl, hw, q⟩ := h
  obtain ⟨a, dx, fs, pv, z, rfl, ha, hf, hp⟩ := hw
  exact q_wide T hp (fun R r => ⟨_, rfl, a, _, dx, fs, pv, rfl, ha, T.word, T.w_part, (wf_part hf).1, r⟩) q
theorem q_MadeR {p n q : V} {R : VK} {x dx : Addr} {vs dvs : List V} (e : vs ++ dvs = [p, n, q]) (nx : H x = none) (nd : H dx = none) (ne : dx ≠ x) (k : ∀ H', Same H H' → H' x = some (.ins g.made dx (wf1 p n q)) → R .non H') :
    spMadeInit g (.ref x :: (vs ++ dvs)) (upd (upd H dx (.own x)) x (.ins g.made dx [])) R E0 :=
  ⟨x, dx, p, n, q, by rw [e], upd_same, k _ (samePut (samePut (sameNew nd) nx) nx) upd_same⟩
theorem q_WordM {p n q : V} {R : VK} {b dy x dx : Addr} {vs dvs : List V} (e : vs ++ dvs = [.ref b]) (hb : H b = some (.ins g.made dy (wf1 p n q))) (nx : H x = none) (nd : H dx = none) (ne : dx ≠ x) (k : ∀ H', Same H H' → H' x = some (.ins g.word dx (wf1 p n q)) → R .non H') :
    spWordInit g (.ref x :: (vs ++ dvs)) (upd (upd H dx (.own x)) x (.ins g.word dx [])) R E0 :=
  .inl ⟨x, dx, b, dy, p, n, q, by rw [e], upd_same, samePut (sameNew nd) nx _ _ hb, k _ (samePut (samePut (sameNew nd) nx) nx) upd_same⟩
theorem q_WordL {R : VK} {l x dx : Addr} {es : List V} {w : List Ent} {vs dvs : List V} (e : vs ++ dvs = [.ref l]) (hl : H l = some (.lst es)) (he : EntsV H w es) (ok : ∀ e ∈ w, EntOk e) (hz : w.length ≤ 1000000) (nx : H x = none) (nd : H dx = none) (ne : dx ≠ x) (k : ∀ H', Same H H' → WR g H' (.ref x) w 0 0 1 → R .non H') :
    spWordInit g (.ref x :: (vs ++ dvs)) (upd (upd H dx (.own x)) x (.ins g.word dx [])) R E0 := by
  have s1 : Same H (upd (upd H dx (.own x)) x (.ins g.word dx [])) := samePut (sameNew nd) nx
  refine .inr ⟨x, dx, l, es, w, by rw [e], upd_same, s1 _ _ hl, he.mono s1, ok, hz, fun H' p z hs hx hp => k H' (fun b o hb => hs b o (ne_of_none hb nx) (s1 _ _ hb)) ?_⟩
  exact ⟨x, dx, _, p, z, rfl, hx, .inr rfl, hp⟩
theorem p_Word_add (T : Txt g mg) (h : spWordAdd g vs H Q E) : t_Word_add g (EndQ Q) (start N_Word_add vs) H := by
  obtain ⟨v1, v2, w1, w2, d, n1, q1, n2, q2, rfl, h1, h2, hq, q⟩ := h
  obtain ⟨a1, dx1, fs1, p1, z1, rfl, ha1, hf1, hp1⟩ := h1
  obtain ⟨a2, dx2, fs2, p2, z2, rfl, ha2, hf2, hp2⟩ := h2
  have l1 := wf_part hf1
  have l2 := wf_part hf2
  refine ⟨_, rfl, a1, _, dx1, fs1, _, rfl, ha1, T.word, T.w_pieces, l1.2.2.1, _, rfl, a2, _, dx2, fs2, _, rfl, ha2, T.word, T.w_pieces, l2.2.2.1, nAdd ⟨_, rfl, nGt (b := 1000) ⟨_, rfl, noD (by omega) ?_⟩⟩⟩
  refine ⟨_, rfl, a1, _, dx1, fs1, _, rfl, ha1, T.word, T.w_part, l1.1, _, rfl, a2, _, dx2, fs2, _, rfl, ha2, T.word, T.w_part, l2.1, p1, p2, w1, w2, d, z1, z2, rfl, hp1, hp2, fun H1 pv z s1 hpv => ?_⟩
  refine ⟨_, rfl, a1, _, dx1, fs1, _, rfl, s1 _ _ ha1, T.word, T.w_nesting, l1.2.1, _, rfl, a2, _, dx2, fs2, _, rfl, s1 _ _ ha2, T.word, T.w_nesting, l2.2.1, small2, fun l nl => ?_⟩
  have s2 : Same H1 (upd H1 l (.lst [.int (n1 : Nat), .int (n2 : Nat)])) := sameNew nl
  refine ⟨l, [(n1 : Int), (n2 : Int)], rfl, sL upd_same, Nat.zero_lt_succ _, fun m hm hmax => ?_⟩
  have em : m = ((max n1 n2 : Nat) : Int) := by
    have a1 := hmax _ (List.mem_cons_self ..)
    have a2 := hmax _ (List.mem_cons_of_mem _ (List.mem_cons_self ..))
    rcases List.mem_cons.mp hm with rfl | hm
    · omega
    · rw [List.mem_singleton.mp hm] at a1 ⊢
      omega
  rw [em]
  refine ⟨_, rfl, ?_⟩
  intro x dx nx nd ne
  refine q_MadeR (vs := [pv, .int ((max n1 n2 : Nat) : Int), .int ((q1 + q2 : Nat) : Int)]) (dvs := []) rfl nx nd ne fun H3 s3 hx => ⟨rfl, ?_⟩
  intro y dy ny nyd nye
  refine q_WordM (vs := [.ref x]) (dvs := []) rfl hx ny nyd nye fun H4 s4 hy => ⟨rfl, ?_⟩
  exact q H4 _ (((s1.trans s2).trans s3).trans s4) ⟨y, dy, _, pv, z, rfl, hy, .inl rfl, hpv.mono ((s2.trans s3).trans s4)⟩
theorem p_Word_mul (T : Txt g mg) (h : spWordMul g vs H Q E) : t_Word_mul g (EndQ Q) (start N_Word_mul vs) H := by
  obtain ⟨v, w, d, n, q', t, rfl, hw, hn, ht, q⟩ := h
  refine ⟨_, rfl, _, rfl, (t : Int), 0, (t : Int), rfl, _, rfl, no ?_ ?_⟩
  · rw [decide_eq_true (show (0 : Int) ≤ (t : Int) by omega), decide_eq_true (Int.le_refl _)]
    rfl
  obtain ⟨a1, dx1, fs1, p1, z1, rfl, ha1, hf1, hp1⟩ := hw
  have l1 := wf_part hf1
  refine ⟨_, rfl, a1, _, dx1, fs1, _, rfl, ha1, T.word, T.w_nesting, l1.2.1, nEq (b := 6) ⟨_, rfl, noD (by omega) ?_⟩⟩
  refine ⟨_, rfl, a1, _, dx1, fs1, _, rfl, ha1, T.word, T.w_part, l1.1, _, rfl, p1, w, d, z1, t, d + 1, rfl, hp1, ht, by omega, fun _ => Nat.le_refl _, fun H1 pv z1 s1 hpv => ?_⟩
  refine ⟨_, rfl, a1, _, dx1, fs1, _, rfl, s1 _ _ ha1, T.word, T.w_nesting, l1.2.1, nAdd (b := 1) ⟨_, rfl, a1, _, dx1, fs1, _, rfl, s1 _ _ ha1, T.word, T.w_pieces, l1.2.2.1, ?_⟩⟩
  intro x dx nx nd ne
  refine q_MadeR (vs := [pv, .int ((n + 1 : Nat) : Int), .int (q' : Nat)]) (dvs := []) rfl nx nd ne fun H3 s3 hx => ⟨rfl, ?_⟩
  intro y dy ny nyd nye
  refine q_WordM (vs := [.ref x]) (dvs := []) rfl hx ny nyd nye fun H4 s4 hy => ⟨rfl, ?_⟩
  exact q H4 _ ((s1.trans s3).trans s4) ⟨y, dy, _, pv, z1, rfl, hy, .inl rfl, hpv.mono (s3.trans s4)⟩
end
end RH
set_option exponentiation.threshold 256
set_option Elab.async false
set_option linter.all false
set_option maxRecDepth 100000
set_option maxHeartbeats 4000000
set_option exponentiation.threshold 100
namespace RH
open PySem PySem.Spec PyProof.Rows L2
theorem len_ne {w : List Ent} (h : 0 < w.length) : w ≠ [] := List.length_pos_iff.mp h
structure Keeps (H H' : Hp) : Prop where
  tup : ∀ b xs, H b = some (.tup xs) → H' b = some (.tup xs)
  prt : ∀ b C dx l lv rv t tf w, H b = some (.ins C dx (pf l lv rv t tf w)) → H' b = some (.ins C dx (pf l lv rv t tf w))
theorem EntV.keeps {H H' : Hp} {e : Ent} {v : V} (s : Keeps H H') (h : EntV H e v) : EntV H' e v := by
  obtain ⟨es, a, rfl, h⟩ := h
  exact ⟨es, a, rfl, s.tup _ _ h⟩
theorem EntsV.keeps {H H' : Hp} (s : Keeps H H') : ∀ {es : List Ent} {vs : List V}, EntsV H es vs → EntsV H' es vs
  | [], [], _ => trivial
  | _ :: _, _ :: _, h => ⟨h.1.keeps s, EntsV.keeps s h.2⟩
  | [], _ :: _, h => h.elim
  | _ :: _, [], h => h.elim
theorem TurnOk.keeps {H H' : Hp} {tf bv : V} {k : Nat} {w wb : List Ent} (s : Keeps H H') (h : TurnOk H tf bv k w wb) : TurnOk H' tf bv k w wb := by
  rcases h with h | ⟨t, h1, h2, h3⟩
  · exact .inl h
  · exact .inr ⟨t, h1, s.tup _ _ h2, h3⟩
theorem PR.keeps {C : Addr} {H H' : Hp} (s : Keeps H H') {v : V} {w : List Ent} {d z : Nat} (h : PR C H v w d z) : PR C H' v w d z := by
  induction h with
  | leaf ha hl he ht hb ih => exact .leaf (s.prt _ _ _ _ _ _ _ _ _ ha) (s.tup _ _ hl) (he.keeps s) (ht.keeps s) ih
  | rep ha hl hn hw hp ht hb ih1 ih2 => exact .rep (s.prt _ _ _ _ _ _ _ _ _ ha) (s.tup _ _ hl) hn hw ih1 (ht.keeps s) ih2
  | cat ha hl h1 h2 hp hq ht hb ih1 ih2 ih3 => exact .cat (s.prt _ _ _ _ _ _ _ _ _ ha) (s.tup _ _ hl) h1 h2 ih1 ih2 (ht.keeps s) ih3
/-- a word's own fields are stored -/
theorem keeps_word {H : Hp} {a C dx : Addr} {fs : List (Str × V)} {o : HO} (h : H a = some (.ins C dx fs)) (hf : fs.length < 6) : Keeps H (upd H a o) where
  tup := fun b xs e => by rw [upd_ne (ne_of e h (fun z => by cases z))]; exact e
  prt := fun b C' dx' l lv rv t tf w e => by
    rw [upd_ne (ne_of e h (fun z => by injection z with _ _ z; rw [← z] at hf; exact absurd hf (by show ¬ 6 < 6; omega)))]; exact e
theorem cutV_nat (xs : List V) {a b : Nat} (h : a ≤ b) : cutV xs (some (a : Int)) (some (b : Int)) = (xs.drop a).take (b - a) := by
  unfold cutV
  rw [HT.sIx_nat, HT.sIx_nat]
  by_cases ha : a ≤ xs.length
  · rw [Nat.min_eq_left ha]
    by_cases hb : b ≤ xs.length
    · rw [Nat.min_eq_left hb]
    · rw [Nat.min_eq_right (by omega), List.take_of_length_le (by rw [List.length_drop]; omega), List.take_of_length_le (by rw [List.length_drop]; omega)]
  · rw [Nat.min_eq_right (by omega), Nat.min_eq_right (by omega), Nat.sub_self, List.take_zero, List.drop_eq_nil_of_le (by omega), List.take_nil]
theorem rs60 (L : Nat) : Builtin.Range.rangeSize 0 (L : Int) 60 = (((L + 59) / 60 : Nat) : Int) := by
  unfold Builtin.Range.rangeSize
  rw [if_pos (show (60 : Int) > 0 by decide)]
  by_cases h : (0 : Int) < (L : Int)
  · rw [if_pos h]; omega
  · rw [if_neg h]; omega
theorem rg60 (L : Nat) (h : L ≤ 16777216) : ∃ n : Nat, RgC 0 (L : Int) 60 n ∧ L ≤ 60 * n := by
  refine ⟨(L + 59) / 60, ⟨by decide, by decide, ?_, rs60 L⟩, by omega⟩
  have fits : ∀ x : Int, 0 ≤ x → x ≤ 20000000 → Builtin.Range.rangeFitsLong x = true := fun x h1 h2 => by
    unfold Builtin.Range.rangeFitsLong
    rw [Bool.and_eq_true]
    exact ⟨decide_eq_true (by omega), decide_eq_true (by omega)⟩
  unfold Builtin.Range.small
  rw [rs60, fits 0 (by omega) (by omega), fits (L : Int) (by omega) (by omega), fits 60 (by omega) (by omega), fits (((L + 59) / 60 : Nat) : Int) (by omega) (by omega), if_pos (show (60 : Int) > 0 by decide), fits ((L : Int) + (60 - 1)) (by omega) (by omega), Bool.or_true]
  rfl
section
variable {g : G} {mg : Str → Option Value} {vs : List V} {H : Hp} {Q : VK} {E : XK}
theorem ty_made (T : Txt g mg) {a dx : Addr} {fs : List (Str × V)} (h : H a = some (.ins g.made dx fs)) : TyX g.K H (.ref a) (.ref g.made) := .base (.ins h T.made T.made_cl T.cls_get T.cls_tk T.made_ob)
theorem p_Word_init (T : Txt g mg) (h : spWordInit g vs H Q E) : t_Word_init g (EndQ Q) (start N_Word_init vs) H := by
  rcases h with ⟨a, dx, b, dy, p, n, q', rfl, ha, hb, q⟩ | ⟨a, dx, l, es, w, rfl, ha, hl, he, ok, hsz, q⟩
  · refine ⟨_, rfl, .ref b, .ref g.made, _, _, true, rfl, .own g.made, ty_made T hb, T.made_made, true, rfl, iteT ?_⟩
    have hab : b ≠ a := ne_of hb ha (fun z => by injection z with _ _ z; cases z)
    have hb' : ∀ o, upd H a o b = some (.ins g.made dy (wf1 p n q')) := fun o => by rw [upd_ne hab]; exact hb
    rw [← upd_self ha]
    refine (show sFld g.K (tVar 0) (tFld g.K (tVar 1) "part") "part" _ _ _ from q_setf (y := p) rfl T.word T.w_part (by show (0 : Nat) < 1000; decide) (fun R r => ⟨_, rfl, b, _, dy, _, _, rfl, hb' _, T.made, T.m_part, rfl, r⟩) ?_)
    refine (show sFld g.K (tVar 0) (tFld g.K (tVar 1) "nesting") "nesting" _ _ _ from q_setf (y := n) rfl T.word T.w_nesting (by show (1 : Nat) < 1000; decide) (fun R r => ⟨_, rfl, b, _, dy, _, _, rfl, hb' _, T.made, T.m_nesting, rfl, r⟩) ?_)
    exact (show sFld g.K (tVar 0) (tFld g.K (tVar 1) "pieces") "pieces" _ _ _ from q_setf (y := q') rfl T.word T.w_pieces (by show (2 : Nat) < 1000; decide) (fun R r => ⟨_, rfl, b, _, dy, _, _, rfl, hb' _, T.made, T.m_pieces, rfl, r⟩) q)
  · have hlen : es.length = w.length := he.len
    refine ⟨_, rfl, .ref l, .ref g.made, _, _, false, rfl, .own g.made, .base (.lst hl), T.list_made, false, rfl, iteF ?_⟩
    refine q_isi (v := .ref l) rfl (.base (.lst hl)) kit_ll ⟨true, rfl, no rfl ?_⟩
    -- all of them are entries
    refine ⟨_, rfl, l, rfl, ⟨_, sL hl⟩, fun D nD => ?_⟩
    refine lc_list (K := g.K) (a := l) (xs := es) (fun i H' => Same H H' ∧ H' D = some (.lst (List.replicate i (.bl true)))) ⟨sameNew nD, upd_same⟩ (fun i H' _ x => sL (x.1 _ _ hl)) ?_ ?_
    · rintro i y H1 hy ⟨s1, hD⟩
      obtain ⟨e, he1, he2⟩ := he.get hy
      have hi := (List.getElem?_eq_some_iff.mp hy).1
      refine ⟨rfl, q_yes (yes rfl ⟨_, rfl, y, e, rfl, he2.mono s1, ok e (List.mem_of_getElem? he1), fun H2 s2 => ⟨_, s2 _ _ hD, ?_, ?_⟩⟩)⟩
      · rw [List.length_replicate]
        exact Nat.lt_of_lt_of_le hi (Nat.le_trans (show es.length ≤ 1000000 by omega) (by decide))
      · refine ⟨samePut (s1.trans s2) nD, ?_⟩
        rw [upd_same, List.replicate_succ']
    · rintro H1 ⟨s1, hD⟩
      refine ⟨D, List.replicate es.length true, rfl, sL (by rw [List.map_replicate]; exact hD), ?_⟩
      have e : (List.replicate es.length true).all id = true := by simp
      rw [e]
      refine ⟨true, rfl, no rfl ?_⟩
      -- nesting, pieces
      have ha1 := s1 _ _ ha
      rw [← upd_self ha1]
      refine (show sFld g.K (tVar 0) (tC (.int 0)) "nesting" _ _ _ from q_setf (y := .int 0) rfl T.word T.w_nesting (by show (0 : Nat) < 1000; decide) (fun R r => r) ?_)
      refine (show sFld g.K (tVar 0) (tC (.int 1)) "pieces" _ _ _ from q_setf (y := .int 1) rfl T.word T.w_pieces (by show (1 : Nat) < 1000; decide) (fun R r => r) ?_)
      have hne : ∀ b o, b ≠ a → H b = some o → upd H1 a (.ins g.word dx (putF "pieces" (.int 1) (putF "nesting" (.int 0) []))) b = some o := fun b o hb h => by rw [upd_ne hb]; exact s1 _ _ h
      have hpa : upd H1 a (.ins g.word dx (putF "pieces" (.int 1) (putF "nesting" (.int 0) []))) a = some (.ins g.word dx [("nesting", .int 0), ("pieces", .int 1)]) := by rw [upd_same]; rfl
      generalize upd H1 a (.ins g.word dx (putF "pieces" (.int 1) (putF "nesting" (.int 0) []))) = H2 at hne hpa ⊢
      -- the first part
      refine ⟨small0, fun p np => ?_⟩
      intro x dx' nx nd ne
      refine q_PartR (vs := [.ref p, .non, .non, .int 1]) (dvs := [.non]) rfl (wide_leaf upd_same) nx nd ne fun H3 s3 hx => ⟨rfl, ?_⟩
      have s23 : Same H2 H3 := Same.trans (sameNew np) s3
      have ha3 := s23 _ _ hpa
      refine ⟨_, rfl, a, _, dx, _, rfl, ha3, T.word, T.w_part, by show (2 : Nat) < 1000; decide, ?_⟩
      have hx0 : PR g.part H3 (.ref x) [] 0 (2 * ([] : List Ent).length + 1) := mkLeaf hx (s3 _ _ upd_same) trivial
      obtain ⟨cnt, hrg, hcnt⟩ := rg60 es.length (by omega)
      have hla : l ≠ a := ne_of hl ha (fun z => by cases z)
      have hll : ∀ {H' : Hp}, (∀ b o, b ≠ a → H b = some o → H' b = some o) → H' l = some (.lst es) := fun h => h _ _ hla hl
      have hel : ∀ {H' : Hp}, (∀ b o, b ≠ a → H b = some o → H' b = some o) → EntsV H' w es := fun h => he.keeps ⟨fun b xs e => h b _ (ne_of e ha (fun z => by cases z)) e, fun b C dx l lv rv t tf w e => h b _ (ne_of e ha (fun z => by injection z with _ _ z; cases z)) e⟩
      have hpre : ∀ b o, b ≠ a → H b = some o → upd H3 a (.ins g.word dx (wf2 (.ref x) (.int ((0 : Nat) : Int)) (.int ((1 : Nat) : Int)))) b = some o := fun b o hb h => by rw [upd_ne hb]; exact s23 _ _ (hne b o hb h)
      refine ⟨_, rfl, l, es, rfl, .inl (sL (hll hpre)), 0, (es.length : Nat), 60, cnt, rfl, hrg, ?_⟩
      refine for_rangeC (lo := 0) (c := 60) (n := cnt) (fun i σ H' => ∃ pv z x2, σ = [some (.ref a), some (.ref l), x2, none] ∧ (∀ b o, b ≠ a → H b = some o → H' b = some o) ∧ H' a = some (.ins g.word dx (wf2 pv (.int ((0 : Nat) : Int)) (.int ((1 : Nat) : Int)))) ∧ PR g.part H' pv (w.take (60 * i)) 0 z)
        ⟨.ref x, 1, none, rfl, hpre, upd_same, ?_⟩ ?_ ?_
      · rw [Nat.mul_zero, List.take_zero]
        exact hx0.keeps (keeps_word ha3 (by show (2 : Nat) < 6; decide))
      · rintro i σ H4 hi ⟨pv, z, x2, rfl, hk4, ha4, hpv⟩
        refine ⟨_, rfl, a, _, dx, _, _, rfl, ha4, T.word, T.w_part, rfl, ?_⟩
        have ei : (0 : Int) + ((i : Nat) : Int) * 60 = ((60 * i : Nat) : Int) := by omega
        rw [ei]
        refine ⟨_, rfl, _, rfl, _, rfl, _, rfl, nAdd (b := 60) ⟨_, rfl, l, es, rfl, sL (hll hk4), fun p5 np5 => ?_⟩⟩
        rw [cutV_nat es (by omega), show 60 * i + 60 - 60 * i = 60 by omega]
        have s5 : Same H4 (upd H4 p5 (.lst ((es.drop (60 * i)).take 60))) := sameNew np5
        refine ⟨p5, _, rfl, .inl ⟨sL upd_same, fun p6 np6 => ?_⟩⟩
        have s6 := s5.trans (sameNew (o := .tup ((es.drop (60 * i)).take 60)) np6)
        intro x7 dx7 nx7 nd7 ne7
        refine q_PartR (vs := [.ref p6, .non, .non, .int 1]) (dvs := [.non]) rfl (wide_leaf upd_same) nx7 nd7 ne7 fun H7 s7 hx7 => ⟨rfl, ?_⟩
        have s67 := s6.trans s7
        have hnew : PR g.part H7 (.ref x7) ((w.drop (60 * i)).take 60) 0 (2 * ((w.drop (60 * i)).take 60).length + 1) := mkLeaf hx7 (s7 _ _ upd_same) ((((hel hk4).drop (60 * i)).take 60).mono s67)
        refine ⟨pv, .ref x7, _, _, 0, z, _, rfl, hpv.mono s67, hnew, fun H8 v8 z8 s8 hv8 => ?_⟩
        have ha8 := s8 _ _ (s67 _ _ ha4)
        refine ⟨_, rfl, a, _, dx, _, rfl, ha8, T.word, T.w_part, by show (3 : Nat) < 1000; decide, ?_⟩
        refine ⟨v8, z8, _, rfl, fun b o hb h => by rw [upd_ne hb]; exact s8 _ _ (s67 _ _ (hk4 b o hb h)), upd_same, ?_⟩
        rw [show 60 * (i + 1) = 60 * i + 60 by omega, List.take_add]
        exact hv8.keeps (keeps_word ha8 (by show (3 : Nat) < 6; decide))
      · rintro σ H4 ⟨pv, z, x2, rfl, hk4, ha4, hpv⟩
        rw [List.take_of_length_le (by omega)] at hpv
        exact q H4 pv z hk4 ha4 hpv
end
end RH
set_option exponentiation.threshold 256
set_option Elab.async false
set_option linter.all false
set_option maxRecDepth 100000
set_option maxHeartbeats 4000000
set_option exponentiation.threshold 100
namespace RH
open PySem PySem.Spec PyProof.Rows L2
theorem log_lt {n : Nat} (h : n < 1099511627776) : n.log2 < 40 := by
  by_cases h0 : n = 0
  · subst h0; decide
  · exact (Nat.log2_lt h0).mpr h
theorem cmul {i j : Int} (h1 : 0 ≤ i) (h2 : i < 1099511627776) (h3 : 0 ≤ j) (h4 : j < 1099511627776) : CMulW i j := by
  have a := log_lt (n := i.natAbs) (by omega)
  have b := log_lt (n := j.natAbs) (by omega)
  show i.natAbs.log2 + j.natAbs.log2 < 1000000
  omega
theorem cdiv {i j : Int} (h3 : 0 < j) (h4 : j < 1099511627776) : CDivW i j := by
  have b := log_lt (n := j.natAbs) (by omega)
  exact ⟨h3, by omega⟩
theorem natsV_push (ds : List Nat) (n : Nat) : natsV ds ++ [.int (n : Nat)] = natsV (ds ++ [n]) := by unfold natsV; rw [List.map_append]; rfl
theorem natsV_len (ds : List Nat) : (natsV ds).length = ds.length := by unfold natsV; rw [List.length_map]
theorem natsV_take (ds : List Nat) (n : Nat) : (natsV ds).take n = natsV (ds.take n) := by unfold natsV; rw [List.map_take]
theorem natsV_drop (ds : List Nat) (n : Nat) : (natsV ds).drop n = natsV (ds.drop n) := by unfold natsV; rw [List.map_drop]
theorem natsV_get {ds : List Nat} {i : Nat} {v : V} (h : (natsV ds)[i]? = some v) : ∃ n, ds[i]? = some n ∧ v = .int (n : Nat) := by
  unfold natsV at h
  rw [List.getElem?_map] at h
  cases e : ds[i]? with
  | none => rw [e] at h; cases h
  | some n => rw [e] at h; exact ⟨n, rfl, (Option.some.inj h).symm⟩
theorem cutV_to (xs : List V) (b : Nat) : cutV xs none (some (b : Int)) = xs.take b := by
  unfold cutV
  rw [HT.sIx_nat]
  show (xs.drop 0).take (min b xs.length - 0) = _
  rw [List.drop_zero, Nat.sub_zero]
  by_cases h : b ≤ xs.length
  · rw [Nat.min_eq_left h]
  · rw [Nat.min_eq_right (by omega), List.take_of_length_le (Nat.le_refl _), List.take_of_length_le (by omega)]
theorem cutV_from (xs : List V) (a : Nat) : cutV xs (some (a : Int)) none = xs.drop a := by
  unfold cutV
  rw [HT.sIx_nat]
  show (xs.drop (min a xs.length)).take (xs.length - min a xs.length) = _
  by_cases h : a ≤ xs.length
  · rw [Nat.min_eq_left h, List.take_of_length_le (by rw [List.length_drop]; omega)]
  · rw [Nat.min_eq_right (by omega), List.drop_eq_nil_of_le (Nat.le_refl _), List.drop_eq_nil_of_le (by omega), List.take_nil]
theorem keeps_list {H : Hp} {a : Addr} {es : List V} {o : HO} (h : H a = some (.lst es)) : Keeps H (upd H a o) where
  tup := fun b xs e => by rw [upd_ne (ne_of e h (fun z => by cases z))]; exact e
  prt := fun b C' dx' l lv rv t tf w e => by rw [upd_ne (ne_of e h (fun z => by cases z))]; exact e
theorem isRow.push {w : List Ent} {i : Nat} (h : isRow w) : isRow (w ++ [ent4 i]) := fun e he => by
  rcases List.mem_append.mp he with he | he
  · exact h e he
  · exact ⟨i, List.mem_singleton.mp he⟩
theorem isRow.append {w v : List Ent} (h : isRow w) (h2 : isRow v) : isRow (w ++ v) := fun e he => by
  rcases List.mem_append.mp he with he | he
  · exact h e he
  · exact h2 e he
theorem small4 : (4 : Nat) ≤ sizeLine := by decide
theorem ent4_s (n : Nat) : EntS (ent4 n) := by
  have hn : n % 4 = 0 ∨ n % 4 = 1 ∨ n % 4 = 2 ∨ n % 4 = 3 := by omega
  unfold ent4
  rcases hn with h | h | h | h <;> rw [h]
  · exact ⟨by decide +kernel, fun x e => by injection e with e; rw [← e]; decide +kernel⟩
  · exact ⟨by decide +kernel, fun x e => by injection e with e; rw [← e]; decide +kernel⟩
  · exact ⟨by decide +kernel, fun x e => by injection e with e; rw [← e]; decide +kernel⟩
  · exact ⟨by decide +kernel, fun x e => nomatch e⟩
theorem ent4_0 {n : Nat} (h : n % 4 = 0) : ent4 n = ⟨"emit", some "a"⟩ := by unfold ent4; rw [h]; rfl
theorem ent4_1 {n : Nat} (h : n % 4 = 1) : ent4 n = ⟨"emit", some "b"⟩ := by unfold ent4; rw [h]; rfl
theorem ent4_2 {n : Nat} (h : n % 4 = 2) : ent4 n = ⟨"final", some "a"⟩ := by unfold ent4; rw [h]; rfl
theorem ent4_3 {n : Nat} (h : n % 4 = 3) : ent4 n = ⟨"emit", none⟩ := by unfold ent4; rw [h]; rfl
section
variable {g : G} {mg : Str → Option Value} {vs : List V} {H : Hp} {Q : VK} {E : XK}
theorem p_cell (T : Txt g mg) (h : spCell g vs H Q E) : t_cell g (EndQ Q) (start N_cell vs) H := by
  obtain ⟨a, ns, k, rfl, hl, q⟩ := h
  refine ⟨_, rfl, _, rfl, a, _, rfl, .inl hl, iLt ⟨_, rfl, ?_⟩⟩
  rw [List.length_map]
  by_cases hk : k < ns.length
  · refine yesD (by omega) ⟨_, rfl, _, rfl, a, _, (k : Nat), .int (ns[k]), rfl, rfl, hl, atI_nat ?_, q _⟩
    rw [List.getElem?_map, List.getElem?_eq_getElem hk]; rfl
  · exact noD (by omega) ⟨_, rfl, iAdd (q _)⟩
theorem p_entry (T : Txt g mg) (h : spEntry vs H Q E) : t_entry g (EndQ Q) (start N_entry vs) H := by
  obtain ⟨n, rfl, q⟩ := h
  refine ⟨small2, fun p1 n1 => ⟨small2, fun p2 n2 => ⟨small2, fun p3 n3 => ⟨small2, fun p4 n4 => ⟨small4, fun p5 n5 => ⟨_, rfl, .inl ⟨_, rfl, iMod (by decide) ?_⟩⟩⟩⟩⟩⟩⟩
  have e : ((n : Nat) : Int) % 4 = ((n % 4 : Nat) : Int) := by omega
  rw [e]
  have s4 := sameNew (o := .lst [.ref p1, .ref p2, .ref p3, .ref p4]) n5
  have s3 := (sameNew (o := .tup [.str "emit", .non]) n4).trans s4
  have s2 := (sameNew (o := .tup [.str "final", .str "a"]) n3).trans s3
  have s1 := (sameNew (o := .tup [.str "emit", .str "b"]) n2).trans s2
  have s0 := (sameNew (o := .tup [.str "emit", .str "a"]) n1).trans s1
  have hn : n % 4 = 0 ∨ n % 4 = 1 ∨ n % 4 = 2 ∨ n % 4 = 3 := by omega
  rcases hn with h | h | h | h <;> rw [h]
  · exact ⟨p5, _, _, .ref p1, rfl, rfl, sL upd_same, rfl, q _ _ s0 ⟨ent4_s n, p1, rfl, by rw [ent4_0 h]; exact s1 _ _ upd_same⟩⟩
  · exact ⟨p5, _, _, .ref p2, rfl, rfl, sL upd_same, rfl, q _ _ s0 ⟨ent4_s n, p2, rfl, by rw [ent4_1 h]; exact s2 _ _ upd_same⟩⟩
  · exact ⟨p5, _, _, .ref p3, rfl, rfl, sL upd_same, rfl, q _ _ s0 ⟨ent4_s n, p3, rfl, by rw [ent4_2 h]; exact s3 _ _ upd_same⟩⟩
  · exact ⟨p5, _, _, .ref p4, rfl, rfl, sL upd_same, rfl, q _ _ s0 ⟨ent4_s n, p4, rfl, by rw [ent4_3 h]; exact s4 _ _ upd_same⟩⟩
theorem dg_nat (x : Int) : x % 1009 = (((x % 1009).toNat : Nat) : Int) := (Int.toNat_of_nonneg (Int.emod_nonneg _ (by decide))).symm
theorem dg_lt {ds : List Nat} {x : Int} (h : ∀ y ∈ ds, y < 1009) : ∀ y ∈ ds ++ [(x % 1009).toNat], y < 1009 := fun y hy => by
  rcases List.mem_append.mp hy with hy | hy
  · exact h y hy
  · have := Int.emod_lt_of_pos x (show (0 : Int) < 1009 by decide)
    rw [List.mem_singleton.mp hy]; omega
theorem p_digits (T : Txt g mg) (h : spDigits vs H Q E) : t_digits g (EndQ Q) (start N_digits vs) H := by
  obtain ⟨c, m, rfl, hm, q⟩ := h
  refine ⟨small0, fun D nD => ?_⟩
  refine ⟨_, rfl, iPow ⟨by decide, by decide, by decide⟩ (iGe ⟨_, rfl, ?_⟩)⟩
  by_cases hc : (10 : Int) ^ (18 : Int).toNat ≤ c
  · refine yesD hc ?_
    refine ⟨_, rfl, _, rfl, .inl ⟨_, rfl, iMod (by decide) ?_⟩⟩
    refine ⟨_, rfl, (m : Nat), rfl, by omega, by omega, ?_⟩
    refine for_range (lo := 0) (n := ((m : Nat) : Int).toNat) (fun i σ H' => ∃ (r x : Int) (x5 : Option V) (ds : List Nat), σ = [some (.int c), some (.int (m : Nat)), some (.ref D), some (.int r), some (.int x), x5] ∧ 0 ≤ x ∧ x < 2147483648 ∧ Same H H' ∧ H' D = some (.lst (natsV ds)) ∧ ds.length = i ∧ ∀ x ∈ ds, x < 1009) ⟨c, _, none, [], rfl, Int.emod_nonneg _ (by decide), Int.lt_trans (Int.emod_lt_of_pos _ (by decide)) (by decide), sameNew nD, upd_same, rfl, fun _ z => absurd z List.not_mem_nil⟩ ?_ ?_
    · rintro i σ H1 hi ⟨r, x, x5, ds, rfl, hx1, hx2, s1, hD, hl, hds⟩
      refine ⟨_, rfl, iMul (cmul hx1 (by omega) (by decide) (by decide)) ⟨_, rfl, iMul (cmul (by decide) (by decide) (by omega) (by omega)) (iAdd (iAdd (.inl ⟨_, rfl, iMod (by decide) ?_⟩)))⟩⟩
      have a1 : 0 ≤ (x * 48271 + 30103 * (0 + ((i : Nat) : Int)) + 11) % 2147483647 := Int.emod_nonneg _ (by decide)
      have a2 : (x * 48271 + 30103 * (0 + ((i : Nat) : Int)) + 11) % 2147483647 < 2147483647 := Int.emod_lt_of_pos _ (by decide)
      generalize (x * 48271 + 30103 * (0 + ((i : Nat) : Int)) + 11) % 2147483647 = y at a1 a2 ⊢
      refine ⟨_, rfl, _, rfl, iDiv (cdiv (by decide) (by decide)) (iAdd (iMul (cmul a1 (by omega) (by omega) (by omega)) (.inl ⟨_, rfl, iMod (by decide) ?_⟩)))⟩
      have b1 : 0 ≤ (y * (y / 1009 + 69621)) % 2147483629 := Int.emod_nonneg _ (by decide)
      have b2 : (y * (y / 1009 + 69621)) % 2147483629 < 2147483629 := Int.emod_lt_of_pos _ (by decide)
      generalize (y * (y / 1009 + 69621)) % 2147483629 = z at b1 b2 ⊢
      refine ⟨_, rfl, iGt ⟨_, rfl, ?_⟩⟩
      by_cases hr : 0 < r
      · refine yesD hr ⟨_, rfl, Or.inl ⟨rfl, _, sL hD⟩, _, rfl, .inl ⟨_, rfl, iMod (by decide) ⟨D, _, _, rfl, rfl, hD, by rw [natsV_len, hl]; exact Nat.lt_of_lt_of_le (show i < 1000 by omega) (by decide), ?_⟩⟩⟩
        rw [dg_nat r, natsV_push]
        exact ⟨_, rfl, iDiv (cdiv (by decide) (by decide)) ⟨_, _, _, _, rfl, b1, by omega, samePut s1 nD, upd_same, by rw [List.length_append, hl]; rfl, dg_lt hds⟩⟩
      · refine noD hr ⟨_, rfl, Or.inl ⟨rfl, _, sL hD⟩, _, rfl, iDiv (cdiv (by decide) (by decide)) (.inl ⟨_, rfl, iMod (by decide) ⟨D, _, _, rfl, rfl, hD, by rw [natsV_len, hl]; exact Nat.lt_of_lt_of_le (show i < 1000 by omega) (by decide), ?_⟩⟩)⟩
        rw [dg_nat (z / 7), natsV_push]
        exact ⟨_, _, _, _, rfl, b1, by omega, samePut s1 nD, upd_same, by rw [List.length_append, hl]; rfl, dg_lt hds⟩
    · rintro σ H1 ⟨r, x, x5, ds, rfl, hx1, hx2, s1, hD, hl, hds⟩
      exact ⟨_, rfl, q H1 _ ds s1 ⟨D, rfl, hD⟩ (by omega) hds⟩
  · refine noD hc ?_
    refine ⟨_, rfl, .inl ⟨_, rfl, iMod (by decide) ?_⟩⟩
    refine ⟨_, rfl, (m : Nat), rfl, by omega, by omega, ?_⟩
    refine for_range (lo := 0) (n := ((m : Nat) : Int).toNat) (fun i σ H' => ∃ (r x : Int) (x5 : Option V) (ds : List Nat), σ = [some (.int c), some (.int (m : Nat)), some (.ref D), some (.int r), some (.int x), x5] ∧ 0 ≤ x ∧ x < 2147483648 ∧ Same H H' ∧ H' D = some (.lst (natsV ds)) ∧ ds.length = i ∧ ∀ x ∈ ds, x < 1009) ⟨0, _, none, [], rfl, Int.emod_nonneg _ (by decide), Int.lt_trans (Int.emod_lt_of_pos _ (by decide)) (by decide), sameNew nD, upd_same, rfl, fun _ z => absurd z List.not_mem_nil⟩ ?_ ?_
    · rintro i σ H1 hi ⟨r, x, x5, ds, rfl, hx1, hx2, s1, hD, hl, hds⟩
      refine ⟨_, rfl, iMul (cmul hx1 (by omega) (by decide) (by decide)) ⟨_, rfl, iMul (cmul (by decide) (by decide) (by omega) (by omega)) (iAdd (iAdd (.inl ⟨_, rfl, iMod (by decide) ?_⟩)))⟩⟩
      have a1 : 0 ≤ (x * 48271 + 30103 * (0 + ((i : Nat) : Int)) + 11) % 2147483647 := Int.emod_nonneg _ (by decide)
      have a2 : (x * 48271 + 30103 * (0 + ((i : Nat) : Int)) + 11) % 2147483647 < 2147483647 := Int.emod_lt_of_pos _ (by decide)
      generalize (x * 48271 + 30103 * (0 + ((i : Nat) : Int)) + 11) % 2147483647 = y at a1 a2 ⊢
      refine ⟨_, rfl, _, rfl, iDiv (cdiv (by decide) (by decide)) (iAdd (iMul (cmul a1 (by omega) (by omega) (by omega)) (.inl ⟨_, rfl, iMod (by decide) ?_⟩)))⟩
      have b1 : 0 ≤ (y * (y / 1009 + 69621)) % 2147483629 := Int.emod_nonneg _ (by decide)
      have b2 : (y * (y / 1009 + 69621)) % 2147483629 < 2147483629 := Int.emod_lt_of_pos _ (by decide)
      generalize (y * (y / 1009 + 69621)) % 2147483629 = z at b1 b2 ⊢
      refine ⟨_, rfl, iGt ⟨_, rfl, ?_⟩⟩
      by_cases hr : 0 < r
      · refine yesD hr ⟨_, rfl, Or.inl ⟨rfl, _, sL hD⟩, _, rfl, .inl ⟨_, rfl, iMod (by decide) ⟨D, _, _, rfl, rfl, hD, by rw [natsV_len, hl]; exact Nat.lt_of_lt_of_le (show i < 1000 by omega) (by decide), ?_⟩⟩⟩
        rw [dg_nat r, natsV_push]
        exact ⟨_, rfl, iDiv (cdiv (by decide) (by decide)) ⟨_, _, _, _, rfl, b1, by omega, samePut s1 nD, upd_same, by rw [List.length_append, hl]; rfl, dg_lt hds⟩⟩
      · refine noD hr ⟨_, rfl, Or.inl ⟨rfl, _, sL hD⟩, _, rfl, iDiv (cdiv (by decide) (by decide)) (.inl ⟨_, rfl, iMod (by decide) ⟨D, _, _, rfl, rfl, hD, by rw [natsV_len, hl]; exact Nat.lt_of_lt_of_le (show i < 1000 by omega) (by decide), ?_⟩⟩)⟩
        rw [dg_nat (z / 7), natsV_push]
        exact ⟨_, _, _, _, rfl, b1, by omega, samePut s1 nD, upd_same, by rw [List.length_append, hl]; rfl, dg_lt hds⟩
    · rintro σ H1 ⟨r, x, x5, ds, rfl, hx1, hx2, s1, hD, hl, hds⟩
      exact ⟨_, rfl, q H1 _ ds s1 ⟨D, rfl, hD⟩ (by omega) hds⟩
theorem p_row (T : Txt g mg) (h : spRow vs H Q E) : t_row g (EndQ Q) (start N_row vs) H := by
  obtain ⟨v, ds, m, rfl, hm, ⟨a, rfl, ha⟩, q⟩ := h
  refine ⟨_, rfl, _, rfl, _, rfl, a, _, rfl, sL ha, fun p np => ?_⟩
  rw [cutV_to, natsV_take]
  refine ⟨p, rfl, ⟨_, sL upd_same⟩, fun D nD => ?_⟩
  have s0 : Same H (upd H p (.lst (natsV (ds.take m)))) := sameNew np
  have hlen : (natsV (ds.take m)).length ≤ m := by rw [natsV_len, List.length_take]; omega
  refine lc_list (K := g.K) (a := p) (xs := natsV (ds.take m)) (fun i H' => Same (upd H p (.lst (natsV (ds.take m)))) H' ∧ ∃ es w, H' D = some (.lst es) ∧ EntsV H' w es ∧ isRow w ∧ w.length = i) ⟨sameNew nD, [], [], upd_same, trivial, fun _ z => absurd z List.not_mem_nil, rfl⟩ (fun i H' _ x => sL (x.1 _ _ upd_same)) ?_ ?_
  · rintro i y H1 hy ⟨s1, es, w, hD, hes, hw, hi⟩
    obtain ⟨n, hn, rfl⟩ := natsV_get hy
    refine ⟨rfl, q_yes (yes rfl ?_)⟩
    refine ⟨_, rfl, .inl ⟨_, rfl, iMod (by decide) ⟨_, rfl, .inl ⟨_, rfl, iMod (by decide) ⟨small2, fun p2 np2 => ⟨_, rfl, iGt (.inr ⟨_, rfl, ?_⟩)⟩⟩⟩⟩⟩⟩
    have fin : ∀ k : Nat, spEntry [.int (k : Nat)] (upd H1 p2 (.lst [.int ((n : Nat) % 2), .int ((n : Nat) % 4)])) (fun y H4 => ∃ acc, H4 D = some (.lst acc) ∧ acc.length < sizeLine ∧ Same (upd H p (.lst (natsV (ds.take m)))) (upd H4 D (.lst (acc ++ [y]))) ∧ ∃ es w, upd H4 D (.lst (acc ++ [y])) D = some (.lst es) ∧ EntsV (upd H4 D (.lst (acc ++ [y]))) w es ∧ isRow w ∧ w.length = i + 1) E := fun k => by
      refine ⟨k, rfl, fun H4 v4 s4 hv4 => ?_⟩
      have s14 := (sameNew (o := .lst [.int ((n : Nat) % 2), .int ((n : Nat) % 4)]) np2).trans s4
      have hD4 := s14 _ _ hD
      have hi2 : i < (natsV (ds.take m)).length := (List.getElem?_eq_some_iff.mp hy).1
      refine ⟨es, hD4, ?_, samePut (s1.trans s14) nD, es ++ [v4], w ++ [ent4 k], upd_same, ?_, hw.push, by rw [List.length_append, hi]; rfl⟩
      · rw [hes.len, hi]
        exact Nat.lt_of_lt_of_le hi2 (Nat.le_trans hlen (Nat.le_trans hm (by decide)))
      · exact ((hes.mono s14).append (show EntsV H4 [ent4 k] [v4] from ⟨hv4, trivial⟩)).keeps (keeps_list hD4)
    have e2 : ((n : Nat) : Int) % 2 = ((n % 2 : Nat) : Int) := by omega
    have e4 : ((n : Nat) : Int) % 4 = ((n % 4 : Nat) : Int) := by omega
    by_cases hc : (700 : Int) < (n : Nat)
    · rw [decide_eq_true hc]
      refine ⟨p2, _, 1, .int ((n : Nat) % 4), rfl, rfl, sL upd_same, rfl, ?_⟩
      have f := fin (n % 4)
      rw [← e4] at f
      exact f
    · rw [decide_eq_false hc]
      refine ⟨p2, _, 0, .int ((n : Nat) % 2), rfl, rfl, sL upd_same, rfl, ?_⟩
      have f := fin (n % 2)
      rw [← e2] at f
      exact f
  · rintro H1 ⟨s1, es, w, hD, hes, hw, hi⟩
    rw [natsV_len, List.length_take] at hi
    exact q H1 _ w (s0.trans s1) ⟨D, es, rfl, hD, hes⟩ hw (by omega) (fun hm => by omega)
end
end RH
set_option exponentiation.threshold 256
set_option Elab.async false
set_option linter.all false
set_option maxRecDepth 100000
set_option maxHeartbeats 4000000
set_option exponentiation.threshold 100
namespace RH
open PySem PySem.Spec PyProof.Rows L2
theorem ent4_ok (i : Nat) : EntOk (ent4 i) := by
  have hn : i % 4 = 0 ∨ i % 4 = 1 ∨ i % 4 = 2 ∨ i % 4 = 3 := by omega
  have na : NameOk "a" := ⟨by decide +kernel, by decide +kernel, by decide +kernel⟩
  have nb : NameOk "b" := ⟨by decide +kernel, by decide +kernel, by decide +kernel⟩
  rcases hn with h | h | h | h
  · rw [ent4_0 h]; exact ⟨.inl rfl, na⟩
  · rw [ent4_1 h]; exact ⟨.inl rfl, nb⟩
  · rw [ent4_2 h]; exact ⟨.inr rfl, na⟩
  · rw [ent4_3 h]; exact ⟨.inl rfl, rfl⟩
theorem isRow.ok {w : List Ent} (h : isRow w) : ∀ e ∈ w, EntOk e := fun e he => by
  obtain ⟨i, rfl⟩ := h e he
  exact ent4_ok i
theorem isRow.s {w : List Ent} (h : isRow w) : ∀ e ∈ w, EntS e := fun e he => by
  obtain ⟨i, rfl⟩ := h e he
  exact ent4_s i
theorem isRow.rp {w : List Ent} (h : isRow w) : ∀ n : Nat, isRow (rp n w)
  | 0 => fun e he => absurd he List.not_mem_nil
  | n + 1 => by rw [rp_succ]; exact h.append (isRow.rp h n)
theorem DR.get0 {H : Hp} {a : Addr} {ds : List Nat} (i : Nat) (hi : i < ds.length) : ∃ n : Nat, atI (natsV ds) ((i : Nat) : Int) = some (.int (n : Nat)) := by
  refine ⟨ds[i], atI_nat ?_⟩
  unfold natsV
  rw [List.getElem?_map, List.getElem?_eq_getElem hi]; rfl
theorem eqvAll_ents : ∀ (a b : List Ent), PyData.eqvAll (a.map entD) (b.map entD) = decide (a = b)
  | [], [] => by simp [PyData.eqvAll]
  | [], b :: bs => by simp [PyData.eqvAll]
  | a :: as, [] => by simp [PyData.eqvAll]
  | a :: as, b :: bs => by
    rw [List.map_cons, List.map_cons, PyData.eqvAll, eqv_ent, eqvAll_ents as bs]
    by_cases h1 : a = b <;> by_cases h2 : as = bs <;> simp [h1, h2]
theorem eqv_ents (a b : List Ent) : PyData.eqv (.list (a.map entD)) (.list (b.map entD)) = decide (a = b) := by
  rw [PyData.eqv]; exact eqvAll_ents a b
theorem dp_ents {K : PySem.W.Frag} {H : Hp} : ∀ {w : List Ent} {es : List V}, EntsV H w es → DpAll K H es (w.map entD)
  | [], [], _ => .nil
  | _ :: _, _ :: _, h => .cons (dp_ent h.1) (dp_ents h.2)
  | [], _ :: _, h => h.elim
  | _ :: _, [], h => h.elim
theorem entD_lay {e : Ent} (h : EntS e) : PyData.canLay0 (entD e) = true := SeqAt.canLay_of_shaped (ent_shaped h)
theorem entD_depth (e : Ent) : PyData.depth (entD e) ≤ 2 := by
  obtain ⟨k, t⟩ := e
  unfold entD tagD
  cases t <;> simp [PyData.depth, PyData.depthAll]
theorem ents_lay : ∀ {w : List Ent}, (∀ e ∈ w, EntS e) → PyData.canLayAll0 (w.map entD) = true
  | [], _ => by simp [PyData.canLayAll0]
  | e :: w, h => by
    rw [List.map_cons, PyData.canLayAll0, entD_lay (h e (List.mem_cons_self ..)), ents_lay (fun x hx => h x (List.mem_cons_of_mem _ hx))]
    rfl
theorem ents_depth : ∀ (w : List Ent), PyData.depthAll (w.map entD) ≤ 2
  | [] => by simp [PyData.depthAll]
  | e :: w => by
    have h1 := entD_depth e
    have h2 := ents_depth w
    rw [List.map_cons, PyData.depthAll]
    omega
theorem ents_shaped {w : List Ent} (h : ∀ e ∈ w, EntS e) : SeqAt.shaped (.list (w.map entD)) = true := by
  have h1 := ents_lay h
  have h2 := ents_depth w
  unfold SeqAt.shaped
  rw [PyData.canLay0, h1, PyData.depth]
  simp
  omega
theorem EntsV.s {H : Hp} : ∀ {w : List Ent} {es : List V}, EntsV H w es → ∀ e ∈ w, EntS e
  | [], [], _ => fun _ z => absurd z List.not_mem_nil
  | _ :: _, _ :: _, h => fun e he => by
    rcases List.mem_cons.mp he with rfl | he
    · exact h.1.1
    · exact EntsV.s h.2 e he
  | [], _ :: _, h => h.elim
  | _ :: _, [], h => h.elim
/-- two lists of entries compared -/
theorem q_eqL {K : PySem.W.Frag} {H : Hp} {v1 v2 : V} {w1 w2 : List Ent} {R : VK} (h1 : LR H v1 w1) (h2 : LR H v2 w2) (q : R (.bl (decide (w1 = w2))) H) : rEqD K v1 v2 H R := by
  obtain ⟨a, es, rfl, ha, he⟩ := h1
  obtain ⟨b, fs, rfl, hb, hf⟩ := h2
  refine ⟨.list (w1.map entD), .list (w2.map entD), .lst (sL ha) (dp_ents he), .lst (sL hb) (dp_ents hf), ents_shaped he.s, ents_shaped hf.s, ?_⟩
  rw [eqv_ents]
  exact q
theorem EntsV.rp {H : Hp} {w : List Ent} {es : List V} (h : EntsV H w es) : ∀ n, EntsV H (rp n w) (rp n es)
  | 0 => trivial
  | n + 1 => by rw [rp_succ, rp_succ]; exact h.append (EntsV.rp h n)
theorem LIM_ge : 1000000000 ≤ LIM := by
  unfold LIM
  exact Nat.le_trans (show 1000000000 ≤ 2 ^ 30 by decide) (Nat.pow_le_pow_right (by decide) (by decide))
theorem lim8 {n : Nat} (h : n < 1000000000) : n < 8 * LIM * LIM := by
  have h1 := LIM_ge
  have h2 : LIM ≤ 8 * LIM * LIM := Nat.le_mul_of_pos_left _ (by omega)
  omega
/-- a list of entries, repeated -/
theorem q_repL {H : Hp} {v : V} {w : List Ent} {t : Nat} {R : VK} (h : LR H v w) (ht : t ≤ 1000) (hw : w.length ≤ 1000) (q : ∀ p H', Same H H' → LR H' (.ref p) (rp t w) → R (.ref p) H') : rRep v (.int (t : Nat)) H R := by
  obtain ⟨a, es, rfl, ha, he⟩ := h
  have l := he.len
  refine ⟨a, _, es, rfl, rfl, ha, by omega, by omega, ?_, fun p np => q p _ (sameNew np) ⟨p, _, rfl, upd_same, ?_⟩⟩
  · rw [Int.toNat_natCast, l]
    exact Nat.le_trans (Nat.mul_le_mul hw ht) (by decide)
  · rw [Int.toNat_natCast]
    exact (he.rp t).mono (sameNew np)
theorem q_catL {H : Hp} {v1 v2 : V} {w1 w2 : List Ent} {R : VK} (h1 : LR H v1 w1) (h2 : LR H v2 w2) (hw1 : w1.length ≤ 10000) (hw2 : w2.length ≤ 10000) (q : ∀ p H', Same H H' → LR H' (.ref p) (w1 ++ w2) → R (.ref p) H') : rCat v1 v2 H R := by
  obtain ⟨a, es, rfl, ha, he⟩ := h1
  obtain ⟨b, fs, rfl, hb, hf⟩ := h2
  refine ⟨a, b, es, fs, rfl, rfl, ha, hb, ?_, fun p np => q p _ (sameNew np) ⟨p, _, rfl, upd_same, (he.append hf).mono (sameNew np)⟩⟩
  rw [he.len, hf.len]
  exact Nat.le_trans (Nat.add_le_add hw1 hw2) (by decide)
theorem iMax0 {x : Int} {H : Hp} {R : VK} (q : R (.int ((x.toNat : Nat) : Int)) H) : rMax2 [.int 0, .int x] H R := by
  unfold rMax2
  refine ⟨_, _, rfl, ?_⟩
  have e : (if x > 0 then x else 0) = ((x.toNat : Nat) : Int) := by split <;> omega
  rw [e]; exact q
theorem SqL.same {K : PySem.W.Frag} {H H' : Hp} {a : Addr} {xs : List V} (s : Same H H') (h : SqL K H a xs) : SqL K H' a xs := by
  rcases h with (h | ⟨o, h⟩) | h
  · exact .inl (.inl (s _ _ h))
  · exact .inl (.inr ⟨o, s _ _ h⟩)
  · exact .inr h
theorem scal_self {w : Prop} [Decidable w] {k : Nat} : scal (if w then V.non else .int (k : Nat)) (if w then V.non else .int (k : Nat)) = true := by
  by_cases h : w
  · rw [if_pos h]; rfl
  · rw [if_neg h]; rfl
theorem agr_all {w1 w2 : List Ent} {k : Nat} (h : Agr w1 w2 (min w1.length w2.length) k) : (k = w1.length ∧ w1.length = w2.length) ↔ w1 = w2 := by
  constructor
  · rintro ⟨e1, e2⟩
    have := h.eq
    rwa [e1, List.take_of_length_le (Nat.le_refl _), e2, List.take_of_length_le (Nat.le_refl _)] at this
  · rintro rfl
    refine ⟨?_, rfl⟩
    rcases Nat.lt_or_ge k (min w1.length w1.length) with hlt | hge
    · exact absurd rfl (h.ne hlt)
    · have := h.le; omega
theorem mod1 (a b : Nat) : ((a : Nat) : Int) % (((b : Nat) : Int) + 1) = ((a % (b + 1) : Nat) : Int) := by
  rw [show ((b : Nat) : Int) + 1 = ((b + 1 : Nat) : Int) by omega]; exact (Int.natCast_emod a (b + 1)).symm
section
variable {g : G} {mg : Str → Option Value} {vs : List V} {H : Hp} {Q : VK} {E : XK}
theorem cut1 (ds : List Nat) (k : Nat) : cutV (natsV ds) (some ((k : Nat) : Int)) none = natsV (ds.drop k) := by rw [cutV_from, natsV_drop]
theorem q_mulW {v : V} {w : List Ent} {d n q' t : Nat} {R : VK} (h : WR g H v w d n q') (hn : n < 6) (ht : t ≤ 1000) (hw : w.length ≤ 1000) (q : ∀ H' v, Same H H' → WR g H' v (rp t w) (d + 1) (n + 1) q' → R v H') : rOwnI g.word (spWordMul g) E0 v (.int (t : Nat)) H R := by
  have h' := h
  obtain ⟨a, dx, fs, pv, z, rfl, ha, _⟩ := h'
  refine ⟨a, dx, fs, _, rfl, rfl, ha, .ref a, w, d, n, q', t, rfl, h, hn, lim8 ?_, q⟩
  exact Nat.lt_of_le_of_lt (Nat.mul_le_mul ht hw) (by decide)
theorem q_addW {v1 v2 : V} {w1 w2 : List Ent} {d n1 q1 n2 q2 : Nat} {R : VK} (h1 : WR g H v1 w1 d n1 q1) (h2 : WR g H v2 w2 d n2 q2) (hq : q1 + q2 ≤ 1000) (q : ∀ H' v, Same H H' → WR g H' v (w1 ++ w2) d (max n1 n2) (q1 + q2) → R v H') : rOwn2 g.word (spWordAdd g) E0 v1 v2 H R := by
  have h1' := h1
  have h2' := h2
  obtain ⟨a, dx, fs, pv, z, rfl, ha, _⟩ := h1'
  obtain ⟨b, dy, gs, pw, zw, rfl, hb, _⟩ := h2'
  exact ⟨a, dx, fs, b, dy, gs, rfl, rfl, ha, hb, .ref a, .ref b, w1, w2, d, n1, q1, n2, q2, rfl, h1, h2, hq, q⟩
theorem kit_bb : PySem.W.kitOne g.K (.type "bool") (.type "bool") = some true := kit_ty (by decide +kernel)
theorem cutE_from {w : List Ent} {es : List V} (h : EntsV H w es) {p : Addr} (k : Nat) (hp : H p = some (.lst (cutV es (some ((k : Nat) : Int)) none))) : LR H (.ref p) (w.drop k) := by
  rw [cutV_from] at hp
  exact ⟨p, _, rfl, hp, h.drop k⟩
theorem cutE_to {w : List Ent} {es : List V} (h : EntsV H w es) {p : Addr} (k : Nat) (hp : H p = some (.lst (cutV es none (some ((k : Nat) : Int))))) : LR H (.ref p) (w.take k) := by
  rw [cutV_to] at hp
  exact ⟨p, _, rfl, hp, h.take k⟩
end
end RH
set_option exponentiation.threshold 256
set_option Elab.async false
set_option linter.all false
set_option maxRecDepth 100000
set_option maxHeartbeats 4000000
namespace RH
open PySem PySem.Spec PyProof.Rows L2
/-- the first k of a row are the last of some entries -/
def Suf (row seen : List Ent) (k : Nat) : Prop := k ≤ row.length ∧ k ≤ seen.length ∧ row.take k = seen.drop (seen.length - k)
theorem mtcN_le (row seen : List Ent) : ∀ m, mtcN row seen m ≤ m
  | 0 => Nat.le_refl _
  | m + 1 => by
    unfold mtcN
    split
    · exact Nat.le_refl _
    · have := mtcN_le row seen m; omega
theorem mtcN_suf (row seen : List Ent) : ∀ m, row.take (mtcN row seen m) = seen.drop (seen.length - mtcN row seen m)
  | 0 => by show row.take 0 = seen.drop (seen.length - 0); rw [List.take_zero, Nat.sub_zero, List.drop_length]
  | m + 1 => by
    unfold mtcN
    split
    · assumption
    · exact mtcN_suf row seen m
theorem mtcN_max (row seen : List Ent) : ∀ m k, k ≤ m → row.take k = seen.drop (seen.length - k) → k ≤ mtcN row seen m
  | 0, k, h, _ => h
  | m + 1, k, h, e => by
    unfold mtcN
    split
    · exact h
    · rename_i hne
      have : k ≠ m + 1 := fun z => by rw [z] at e; exact hne e
      exact mtcN_max row seen m k (by omega) e
theorem mtc_suf (row seen : List Ent) : Suf row seen (mtc row seen) := by
  have := mtcN_le row seen (min row.length seen.length)
  exact ⟨by unfold mtc; omega, by unfold mtc; omega, mtcN_suf row seen _⟩
theorem mtc_max {row seen : List Ent} {k : Nat} (h : Suf row seen k) : k ≤ mtc row seen := mtcN_max row seen _ k (by have := h.1; have := h.2.1; omega) h.2.2
theorem mtc_le (row seen : List Ent) : mtc row seen ≤ row.length := (mtc_suf row seen).1
/-- by a list ahead -/
theorem suf_iff {row seen : List Ent} {k : Nat} (hk : k ≤ row.length) : Suf row seen k ↔ ∃ a, seen = a ++ row.take k := by
  constructor
  · rintro ⟨h1, h2, h3⟩
    exact ⟨seen.take (seen.length - k), by rw [h3, List.take_append_drop]⟩
  · rintro ⟨a, rfl⟩
    have hl : (row.take k).length = k := by rw [List.length_take]; omega
    refine ⟨hk, by rw [List.length_append, hl]; omega, ?_⟩
    rw [List.length_append, hl, Nat.add_sub_cancel, List.drop_left]
theorem take_succ_get {row : List Ent} {k : Nat} (h : k < row.length) : row.take (k + 1) = row.take k ++ [row[k]] := by
  rw [List.take_succ, List.getElem?_eq_getElem h]; rfl
/-- one entry more -/
theorem suf_step {row u : List Ent} {e : Ent} {k : Nat} : Suf row (u ++ [e]) (k + 1) ↔ Suf row u k ∧ row[k]? = some e := by
  constructor
  · intro h
    have hk := h.1
    obtain ⟨a, ha⟩ := (suf_iff h.1).mp h
    rw [take_succ_get (show k < row.length by omega), ← List.append_assoc] at ha
    have h1 := List.append_inj' ha rfl
    refine ⟨(suf_iff (by omega)).mpr ⟨a, h1.1⟩, ?_⟩
    rw [List.getElem?_eq_getElem (show k < row.length by omega)]
    have := h1.2
    injection this with this
    rw [this]
  · rintro ⟨h, hg⟩
    obtain ⟨hl, hg⟩ := List.getElem?_eq_some_iff.mp hg
    obtain ⟨a, ha⟩ := (suf_iff h.1).mp h
    refine (suf_iff (by omega)).mpr ⟨a, ?_⟩
    rw [take_succ_get hl, hg, ← List.append_assoc, ← ha]
/-- shorter ones within the longest one -/
theorem suf_in {row u : List Ent} {k m : Nat} (h : Suf row u m) (hkm : k ≤ m) : Suf row u k ↔ Suf row (row.take m) k := by
  have hm := h.1
  obtain ⟨a, ha⟩ := (suf_iff h.1).mp h
  have hl : (row.take m).length = m := by rw [List.length_take]; omega
  constructor
  · rintro ⟨h1, h2, h3⟩
    refine ⟨h1, by omega, ?_⟩
    rw [h3, ha, hl, List.length_append, hl, show a.length + m - k = a.length + (m - k) by omega, ← List.drop_drop, List.drop_left]
  · rintro ⟨h1, h2, h3⟩
    refine ⟨h1, by rw [ha, List.length_append, hl]; omega, ?_⟩
    rw [h3, ha, hl, List.length_append, hl, show a.length + m - k = a.length + (m - k) by omega, ← List.drop_drop, List.drop_left]
/-- the automaton's step -/
theorem mtc_step (row u : List Ent) (e : Ent) : mtc row (u ++ [e]) = nx row (mtc row u) e := by
  unfold nx
  have hm := mtc_suf row u
  have key : ∀ k, Suf row (u ++ [e]) k ↔ Suf row (row.take (mtc row u) ++ [e]) k := fun k => by
    cases k with
    | zero => exact ⟨fun _ => ⟨Nat.zero_le _, Nat.zero_le _, by rw [List.take_zero, Nat.sub_zero, List.drop_length]⟩, fun _ => ⟨Nat.zero_le _, Nat.zero_le _, by rw [List.take_zero, Nat.sub_zero, List.drop_length]⟩⟩
    | succ k =>
      rw [suf_step, suf_step]
      constructor
      · rintro ⟨h1, h2⟩
        exact ⟨(suf_in hm (mtc_max h1)).mp h1, h2⟩
      · rintro ⟨h1, h2⟩
        have hk : k ≤ mtc row u := by
          have := h1.2.1
          rw [List.length_take] at this
          omega
        exact ⟨(suf_in hm hk).mpr h1, h2⟩
  exact Nat.le_antisymm (mtc_max ((key _).mp (mtc_suf row _))) (mtc_max ((key _).mpr (mtc_suf row _)))
theorem mtc_nil (row : List Ent) : mtc row [] = 0 := by have := (mtc_suf row []).2.1; exact Nat.le_zero.mp this
theorem nx_le (row : List Ent) (st : Nat) (e : Ent) : nx row st e ≤ row.length := mtc_le _ _
theorem nx_none {row : List Ent} {st : Nat} {e : Ent} (h : e ∉ row) : nx row st e = 0 := by
  unfold nx
  cases hk : mtc row (row.take st ++ [e]) with
  | zero => rfl
  | succ k =>
    have := mtc_suf row (row.take st ++ [e])
    rw [hk, suf_step] at this
    exact absurd (List.mem_of_getElem? this.2) h
theorem runS_mtc (row : List Ent) : ∀ (v u : List Ent), runS row (mtc row u) v = mtc row (u ++ v)
  | [], u => by rw [List.append_nil]; rfl
  | e :: v, u => by
    show runS row (nx row (mtc row u) e) v = _
    rw [← mtc_step, runS_mtc row v (u ++ [e]), List.append_assoc]; rfl
/-- visits, counted by ends -/
theorem visS_count (row : List Ent) : ∀ (v u : List Ent), visS row (mtc row u) v = ((List.range v.length).filter fun i => decide (mtc row (u ++ v.take (i + 1)) = row.length)).length
  | [], u => rfl
  | e :: v, u => by
    show (if nx row (mtc row u) e = row.length then 1 else 0) + visS row (nx row (mtc row u) e) v = _
    rw [← mtc_step, visS_count row v (u ++ [e]), List.length_cons, List.range_succ_eq_map, List.filter_cons, List.filter_map, ]
    have e1 : ((fun i => decide (mtc row (u ++ (e :: v).take (i + 1)) = row.length)) ∘ Nat.succ) = fun i => decide (mtc row (u ++ [e] ++ v.take (i + 1)) = row.length) := by
      funext i
      show decide (mtc row (u ++ (e :: v).take (i + 1 + 1)) = row.length) = _
      rw [List.take_succ_cons, List.append_assoc]; rfl
    rw [e1]
    have e2 : u ++ (e :: v).take (0 + 1) = u ++ [e] := by rw [List.take_succ_cons, List.take_zero]
    rw [e2]
    by_cases h : mtc row (u ++ [e]) = row.length
    · rw [if_pos h, if_pos (decide_eq_true h), List.length_cons, List.length_map]; omega
    · rw [if_neg h, if_neg (by rw [decide_eq_false h]; exact Bool.false_ne_true), List.length_map]; omega
/-- the row ends there -/
theorem mtc_full {row w : List Ent} {i : Nat} (hi : i ≤ w.length) : mtc row (w.take i) = row.length ↔ row.length ≤ i ∧ (w.drop (i - row.length)).take row.length = row := by
  have hl : (w.take i).length = i := by rw [List.length_take]; omega
  constructor
  · intro h
    have := mtc_suf row (w.take i)
    rw [h] at this
    obtain ⟨_, h2, h3⟩ := this
    rw [hl] at h2 h3
    refine ⟨h2, ?_⟩
    rw [List.take_length, List.drop_take, show i - (i - row.length) = row.length by omega] at h3
    exact h3.symm
  · rintro ⟨h1, h2⟩
    refine Nat.le_antisymm (mtc_le _ _) (mtc_max ⟨Nat.le_refl _, by omega, ?_⟩)
    rw [hl, List.take_length, List.drop_take, show i - (i - row.length) = row.length by omega, h2]
theorem visS_stands {row w : List Ent} (h1 : 1 ≤ row.length) (h2 : row.length ≤ w.length) : visS row 0 w = (stands row w).length := by
  have := visS_count row w []
  rw [mtc_nil] at this
  rw [this]
  unfold stands
  have e : w.length = (row.length - 1) + (w.length - row.length + 1) := by omega
  rw [e, List.range_add, List.filter_append, List.length_append, ← e]
  have z : ((List.range (row.length - 1)).filter fun i => decide (mtc row ([] ++ w.take (i + 1)) = row.length)) = [] := by
    rw [List.filter_eq_nil_iff]
    intro i hi hd
    have hi := List.mem_range.mp hi
    have := ((mtc_full (show i + 1 ≤ w.length by omega)).mp (of_decide_eq_true hd)).1
    omega
  rw [z, List.filter_map, List.length_map]
  show 0 + _ = _
  rw [Nat.zero_add]
  congr 1
  refine List.filter_congr fun k hk => ?_
  have hk := List.mem_range.mp hk
  show decide (mtc row (w.take (row.length - 1 + k + 1)) = row.length) = _
  have hx : row.length - 1 + k + 1 = k + row.length := by omega
  rw [hx]
  have := mtc_full (row := row) (w := w) (i := k + row.length) (by omega)
  rw [Nat.add_sub_cancel] at this
  by_cases hh : (w.drop k).take row.length = row
  · rw [decide_eq_true hh, decide_eq_true (this.mpr ⟨by omega, hh⟩)]
  · rw [decide_eq_false hh, decide_eq_false (fun z => hh (this.mp z).2)]
end RH
set_option exponentiation.threshold 256
set_option Elab.async false
set_option linter.all false
set_option maxRecDepth 100000
set_option maxHeartbeats 4000000
set_option exponentiation.threshold 100
namespace RH
open PySem PySem.Spec PyProof.Rows L2
theorem rev_ind {p : List Ent → Prop} (es : List Ent) (h0 : p []) (hs : ∀ es e, p es → p (es ++ [e])) : p es := by
  have h : ∀ l : List Ent, p l.reverse := fun l => by
    induction l with
    | nil => exact h0
    | cons e l ih => rw [List.reverse_cons]; exact hs _ e ih
  have := h es.reverse
  rwa [List.reverse_reverse] at this
theorem mget_put (ms : List MX) (k k' : Option Ent) (i : Int) : mget (mput ms k i) k' = if k' = k then some i else mget ms k' := by
  unfold mput
  by_cases hs : (mget ms k).isSome = true
  · rw [if_pos hs]
    induction ms with
    | nil => exact absurd hs (by simp [mget])
    | cons m ms ih =>
      unfold mget at hs ih ⊢
      rw [List.map_cons, List.find?_cons, List.find?_cons]
      rw [List.find?_cons] at hs
      have hk : (mch k i m).1 = m.1 := by unfold mch; split <;> rfl
      rw [hk]
      by_cases e : m.1 = k'
      · rw [decide_eq_true e]
        show some (mch k i m).2 = _
        unfold mch
        by_cases e2 : m.1 = k
        · rw [if_pos e2, if_pos (e ▸ e2)]
        · rw [if_neg e2, if_neg (fun z => e2 (e.trans z))]; rfl
      · rw [decide_eq_false e]
        by_cases e2 : m.1 = k
        · have e3 : ¬ k' = k := fun z => e (e2.trans z.symm)
          rw [if_neg e3]
          clear ih hs
          induction ms with
          | nil => rfl
          | cons m' ms ih2 =>
            show Option.map _ (List.find? _ (mch k i m' :: ms.map (mch k i))) = Option.map _ (List.find? _ (m' :: ms))
            rw [List.find?_cons, List.find?_cons]
            have hk' : (mch k i m').1 = m'.1 := by unfold mch; split <;> rfl
            rw [hk']
            by_cases e4 : m'.1 = k'
            · rw [decide_eq_true e4]
              show some (mch k i m').2 = some m'.2
              unfold mch
              rw [if_neg (fun z => e3 (e4.symm.trans z))]
            · rw [decide_eq_false e4]; exact ih2
        · rw [decide_eq_false e2] at hs
          exact ih hs
  · rw [if_neg hs]
    have hn : mget ms k = none := by cases h : mget ms k with | none => rfl | some j => rw [h] at hs; exact absurd rfl hs
    unfold mget at hn ⊢
    rw [List.find?_append]
    by_cases e : k' = k
    · rw [if_pos e, e]
      cases h : ms.find? (fun m => decide (m.1 = k)) with
      | some m => rw [h] at hn; cases hn
      | none => rw [Option.none_or, List.find?_cons, decide_eq_true rfl]; rfl
    · rw [if_neg e, List.find?_cons, decide_eq_false (fun z => e z.symm), List.find?_nil, Option.or_none]
theorem mput_len (ms : List MX) (k : Option Ent) (i : Int) : (mput ms k i).length ≤ ms.length + 1 := by
  unfold mput
  split
  · rw [List.length_map]; omega
  · rw [List.length_append]; exact Nat.le_refl _
theorem mvE_snoc (row : List Ent) (st : Nat) (es : List Ent) (e : Ent) : mvE row st (es ++ [e]) = mput (mvE row st es) (some e) (nx row st e : Nat) := by
  unfold mvE
  rw [List.foldl_append]; rfl
theorem mvE_len (row : List Ent) (st : Nat) (es : List Ent) : (mvE row st es).length ≤ es.length := by
  refine rev_ind (p := fun es => (mvE row st es).length ≤ es.length) es (Nat.le_refl _) fun es e ih => ?_
  rw [mvE_snoc, List.length_append]
  have := mput_len (mvE row st es) (some e) (nx row st e : Nat)
  show _ ≤ es.length + 1
  omega
theorem mvE_get (row : List Ent) (st : Nat) (es : List Ent) (e : Ent) : mget (mvE row st es) (some e) = if e ∈ es then some ((nx row st e : Nat) : Int) else none := by
  refine rev_ind (p := fun es => mget (mvE row st es) (some e) = if e ∈ es then some ((nx row st e : Nat) : Int) else none) es rfl fun es x ih => ?_
  rw [mvE_snoc, mget_put, ih]
  by_cases h : e = x
  · rw [if_pos (by rw [h]), if_pos (by rw [h]; exact List.mem_append_right _ (List.mem_singleton.mpr rfl)), h]
  · rw [if_neg (fun z => h (Option.some.inj z))]
    by_cases h2 : e ∈ es
    · rw [if_pos h2, if_pos (List.mem_append_left _ h2)]
    · rw [if_neg h2, if_neg (fun z => (List.mem_append.mp z).elim h2 fun z => h (List.mem_singleton.mp z))]
theorem mv_some (row : List Ent) (st : Nat) (e : Ent) : ((mget (mv row st) (some e)).getD 0) = ((nx row st e : Nat) : Int) := by
  unfold mv
  rw [mget_put, if_neg (fun z => by cases z), mvE_get]
  by_cases h : e ∈ row
  · rw [if_pos h]; rfl
  · rw [if_neg h, nx_none h]; rfl
theorem mv_none (row : List Ent) (st : Nat) : mget (mv row st) none = some 0 := by
  unfold mv
  rw [mget_put, if_pos rfl]
section
variable {g : G} {mg : Str → Option Value} {w : World} {vs : List V} {H : Hp} {Q : VK} {E : XK}
theorem p_check_number (h : spCheckIndex vs H Q E) : t_check_number g (EndQ Q) (start N_check_number vs) H := by
  obtain ⟨i, lo, hi, rfl, h1, h2, q⟩ := h
  refine ⟨_, rfl, _, rfl, _, rfl, i, lo, hi, rfl, _, rfl, no ?_ q⟩
  rw [decide_eq_true h1, decide_eq_true h2]
  rfl
theorem p_Walk_init (T : Txt g mg) (h : spWalkInit g vs H Q E) : t_Walk_init g (EndQ Q) (start N_Walk_init vs) H := by
  obtain ⟨a, dx, m, c, rfl, ha, q⟩ := h
  refine ⟨_, rfl, _, rfl, a, _, dx, [], rfl, ha, T.walk, T.k_moves, (show 0 < 1000 by decide), ?_⟩
  refine ⟨_, rfl, _, rfl, a, _, dx, _, rfl, upd_same, T.walk, T.k_counted, (show 1 < 1000 by decide), ?_⟩
  intro kd nkd
  have hne : a ≠ kd := ne_of_none upd_same nkd
  refine ⟨_, rfl, a, _, dx, putF "counted" c (putF "moves" m []), rfl, (by rw [upd_ne hne]; exact upd_same), T.walk, T.k_known, (show 2 < 1000 by decide), ?_⟩
  refine q kd _ (fun b o hb h0 => ?_) upd_same
  have hbk : b ≠ kd := fun z => by
    subst z
    rw [upd_ne hb, upd_ne hb, h0] at nkd
    cases nkd
  rw [upd_ne hb, upd_ne hbk, upd_ne hb, upd_ne hb]; exact h0
theorem p_next_state (T : Txt g mg) (h : spNextState g w vs H Q E) : t_next_state g w (EndQ Q) (start N_next_state vs) H := by
  obtain ⟨v, st, ev, e, row, rfl, ⟨a, dx, kd, l, ds, rfl, ha, hl, hm⟩, hst, he, q⟩ := h
  obtain ⟨b, hb, hd⟩ := hm.at_ st hst
  refine ⟨_, rfl, a, _, dx, _, .ref l, rfl, ha, T.walk, T.k_moves, rfl, _, rfl, l, ds, _, .ref b, rfl, rfl, sL hl, atI_nat hb, ?_⟩
  refine ⟨_, rfl, b, _, rfl, hd, _, rfl, _, rfl, b, _, rfl, hd, _, rfl, _, none, hd, rfl, ?_⟩
  rw [mv_none]
  refine ⟨_, some e, hd, he, ?_⟩
  have := mv_some row st e
  cases hg : mget (mv row st) (some e) with
  | none => rw [hg] at this; rw [show nx row st e = 0 by simpa using this.symm] at q; exact q
  | some j => rw [hg] at this; rw [show j = ((nx row st e : Nat) : Int) from this]; exact q
theorem p_once (T : Txt g mg) (h : spOnce g w vs H Q E) : t_once g w (EndQ Q) (start N_once vs) H := by
  obtain ⟨v, st, ev, e, row, rfl, hw, hst, he, q⟩ := h
  have hw0 := hw
  obtain ⟨a, dx, kd, l, ds, rfl, ha, hl, hm⟩ := hw0
  refine q_isi rfl (ty_ent he) kit_tt ⟨true, rfl, iteT ?_⟩
  refine ⟨_, rfl, a, dx, _, rfl, ha, rfl, _, rfl, _, rfl, _, st, _, e, row, rfl, hw, hst, he, ?_⟩
  refine ⟨_, rfl, _, rfl, _, rfl, a, _, dx, _, _, rfl, ha, T.walk, T.k_counted, rfl, nEq (.inr ⟨_, rfl, small2, fun p np => ?_⟩)⟩
  have := q p np
  by_cases hh : nx row st e = row.length
  · rw [if_pos hh] at this
    rw [decide_eq_true hh]; exact this
  · rw [if_neg hh] at this
    rw [decide_eq_false hh]; exact this
theorem p_Passages_init (T : Txt g mg) (h : spPassInit g vs H Q E) : t_Passages_init g (EndQ Q) (start N_Passages_init vs) H := by
  obtain ⟨a, dx, x, rfl, ha, q⟩ := h
  refine ⟨_, rfl, small1, fun l1 n1 => ?_⟩
  have h1 : a ≠ l1 := ne_of_none ha n1
  refine ⟨_, rfl, a, _, dx, [], rfl, (by rw [upd_ne h1]; exact ha), T.psg, T.s_states, (show 0 < 1000 by decide), ?_⟩
  refine ⟨small1, fun l2 n2 => ?_⟩
  have h2 : a ≠ l2 := ne_of_none upd_same n2
  have h12 : l1 ≠ l2 := fun z => by
    subst z
    rw [upd_ne h1.symm, upd_same] at n2
    cases n2
  refine ⟨_, rfl, a, _, dx, putF "states" (.ref l1) [], rfl, (by rw [upd_ne h2]; exact upd_same), T.psg, T.s_sums, (show 1 < 1000 by decide), ?_⟩
  refine q l1 l2 _ (fun b o hb h0 => ?_) upd_same ?_ ?_ n1 ?_ h12
  · have hb1 : b ≠ l1 := ne_of_none h0 n1
    have hb2 : b ≠ l2 := fun z => by
      subst z
      rw [upd_ne hb, upd_ne hb1, h0] at n2
      cases n2
    rw [upd_ne hb, upd_ne hb2, upd_ne hb, upd_ne hb1]; exact h0
  · rw [upd_ne h1.symm, upd_ne h12, upd_ne h1.symm]; exact upd_same
  · rw [upd_ne h2.symm]; exact upd_same
  · rwa [upd_ne h2.symm, upd_ne h12.symm] at n2
theorem p_note (T : Txt g mg) (h : spNote g vs H Q E) : t_note g (EndQ Q) (start N_note vs) H := by
  obtain ⟨a, dx, l1, l2, x, y, n, rfl, ha, h1, h2, h12, q⟩ := h
  refine ⟨_, rfl, a, _, dx, _, .ref l1, rfl, ha, T.psg, T.s_states, rfl, Or.inl ⟨rfl, _, sL h1⟩, _, rfl, l1, _, _, rfl, rfl, h1, (show 1 < sizeLine by decide), ?_⟩
  have ha' : upd H l1 (.lst ([V.int x] ++ [V.int y])) a = some (.ins g.pass dx (psf (.ref l1) (.ref l2))) := by rw [upd_ne (ne_of ha h1 (fun z => by cases z))]; exact ha
  have h2' : upd H l1 (.lst ([V.int x] ++ [V.int y])) l2 = some (.lst [.int 0]) := by rw [upd_ne h12.symm]; exact h2
  refine ⟨_, rfl, a, _, dx, _, .ref l2, rfl, ha', T.psg, T.s_sums, rfl, Or.inl ⟨rfl, _, sL h2'⟩, ?_⟩
  refine ⟨_, rfl, a, _, dx, _, .ref l2, rfl, ha', T.psg, T.s_sums, rfl, _, rfl, l2, _, _, .int 0, rfl, rfl, sL h2', rfl, _, rfl, iAdd ?_⟩
  exact ⟨l2, _, _, rfl, rfl, h2', (show 1 < sizeLine by decide), q⟩
theorem p_done (T : Txt g mg) (h : spDone g vs H Q E) : t_done g (EndQ Q) (start N_done vs) H := by
  obtain ⟨v, ss, ts, rfl, ⟨a, dx, l1, l2, rfl, ha, h1, h2, h12⟩, q⟩ := h
  refine ⟨_, rfl, a, _, dx, _, .ref l1, rfl, ha, T.psg, T.s_states, rfl, l1, _, rfl, .inl (sL h1), iSub ?_⟩
  rw [List.length_map]
  exact q
theorem p_returns (T : Txt g mg) (h : spReturns g vs H Q E) : t_returns g (EndQ Q) (start N_returns vs) H := by
  obtain ⟨v, x, ts, rfl, ⟨a, dx, l1, l2, rfl, ha, h1, h2, h12⟩, q⟩ := h
  refine ⟨_, rfl, a, _, dx, _, .ref l1, rfl, ha, T.psg, T.s_states, rfl, _, rfl, l1, _, _, .int x, rfl, rfl, sL h1, rfl, ?_⟩
  refine ⟨_, rfl, a, _, dx, _, .ref l1, rfl, ha, T.psg, T.s_states, rfl, _, rfl, _, rfl, l1, _, rfl, sL h1, fun p np => ?_⟩
  refine ⟨p, _, rfl, .inl (sL upd_same), rfl, rfl, ?_⟩
  exact q _ (sameNew np)
theorem p_folded (T : Txt g mg) (h : spFolded g vs H Q E) : t_folded g (EndQ Q) (start N_folded vs) H := by
  obtain ⟨v, x, y, ts, rfl, hp, q⟩ := h
  have hp0 := hp
  obtain ⟨a, dx, l1, l2, rfl, ha, h1, h2, h12⟩ := hp0
  refine ⟨_, rfl, _, rfl, a, dx, _, rfl, ha, rfl, _, _, _, rfl, hp, iLe ⟨_, rfl, yes (by rfl) ?_⟩⟩
  exact ⟨_, rfl, small2, fun p np => q p np⟩
theorem p_end (T : Txt g mg) (h : spEnd g vs H Q E) : t_end g (EndQ Q) (start N_end vs) H := by
  obtain ⟨v, x, y, n, rfl, hp, hn0, hn1, q⟩ := h
  have hp0 := hp
  obtain ⟨a, dx, l1, l2, rfl, ha, h1, h2, h12⟩ := hp0
  refine ⟨_, rfl, a, dx, _, rfl, ha, rfl, _, rfl, _, x, y, _, rfl, hp, fun p np => ?_⟩
  have s1 := sameNew (o := .tup [.int 0, .int 1]) np
  have ha := s1 _ _ ha
  have h1 := s1 _ _ h1
  have h2 := s1 _ _ h2
  refine ⟨p, _, rfl, sT upd_same, rfl, _, _, rfl, _, _, rfl, rfl, ?_⟩
  have key : ∃ j : Nat, ([x, y].map V.int)[j]? = some (.int y) ∧ (∀ (m : Nat) (z' : V), m < j → ([x, y].map V.int)[m]? = some z' → eqV z' (.int y) = false) ∧ ∃ z, ([(0 : Int), n].map V.int)[j]? = some (.int z) ∧ 0 ≤ n - z ∧ n - z ≤ 1 := by
    by_cases e : x = y
    · exact ⟨0, by rw [e]; rfl, fun m z' hm => absurd hm (Nat.not_lt_zero _), 0, rfl, by omega, by omega⟩
    · refine ⟨1, rfl, fun m z' hm hz => ?_, n, rfl, by omega, by omega⟩
      obtain rfl : m = 0 := by omega
      cases hz
      show (x == y) = false
      exact beq_false_of_ne e
  obtain ⟨j, hj, hno, z, hz, hz0, hz1⟩ := key
  refine ⟨_, rfl, a, _, dx, _, .ref l1, rfl, ha, T.psg, T.s_states, rfl, Or.inl ⟨rfl, _, sL h1⟩, ?_⟩
  refine ⟨_, rfl, a, _, dx, _, .ref l1, rfl, ha, T.psg, T.s_states, rfl, _, rfl, l1, _, _, .int y, rfl, rfl, sL h1, rfl, l1, _, _, j, _, rfl, rfl, sL h1, rfl, rfl, hj, (by show (y == y) = true; exact beq_iff_eq.mpr rfl), hno, ?_⟩
  refine ⟨_, rfl, a, _, dx, _, .ref l1, rfl, ha, T.psg, T.s_states, rfl, _, rfl, l1, _, _, .int y, rfl, rfl, sL h1, rfl, ?_⟩
  refine ⟨_, rfl, a, _, dx, _, .ref l2, rfl, ha, T.psg, T.s_sums, rfl, _, rfl, l2, _, _, .int n, rfl, rfl, sL h2, rfl, ?_⟩
  refine ⟨_, rfl, _, rfl, a, _, dx, _, .ref l2, rfl, ha, T.psg, T.s_sums, rfl, _, rfl, l2, _, _, .int n, rfl, rfl, sL h2, rfl, ?_⟩
  refine ⟨_, rfl, a, _, dx, _, .ref l2, rfl, ha, T.psg, T.s_sums, rfl, _, rfl, l2, _, _, .int z, rfl, rfl, sL h2, atI_nat hz, iSub (iMul ?_ (iAdd ⟨small2, fun p2 np2 => ?_⟩))⟩
  · exact cmul (by decide) (by decide) hz0 (by omega)
  · rw [Int.zero_mul, Int.add_zero]
    exact q _ p2 (s1.trans (sameNew np2)) upd_same
end
end RH
set_option exponentiation.threshold 256
set_option Elab.async false
set_option linter.all false
set_option maxRecDepth 100000
set_option maxHeartbeats 4000000
set_option exponentiation.threshold 100
namespace RH
open PySem PySem.Spec PyProof.Rows L2
section
variable {g : G} {mg : Str → Option Value} {w : World} {vs : List V} {H : Hp} {Q : VK} {E : XK}
theorem p_passages (T : Txt g mg) (h : spPassages g w vs H Q E) : t_passages g w (EndQ Q) (start N_passages vs) H := by
  obtain ⟨v, st, ev, e, row, rfl, hw, hst, he, q⟩ := h
  refine ⟨_, rfl, ?_⟩
  intro x dx nx' nd ne
  have s1 : Same H (upd (upd H dx (.own x)) x (.ins g.pass dx [])) := samePut (sameNew nd) nx'
  refine ⟨x, dx, _, rfl, upd_same, fun l1 l2 H1 k1 hx hl1 hl2 n1 n2 h12 => ⟨rfl, ?_⟩⟩
  have s2 : Same H H1 := fun b o hb => k1 b o (ne_of_none hb nx') (s1 b o hb)
  have n1 : H l1 = none := by cases hh : H l1 with | none => rfl | some o => rw [s1 _ _ hh] at n1; cases n1
  have n2 : H l2 = none := by cases hh : H l2 with | none => rfl | some o => rw [s1 _ _ hh] at n2; cases n2
  -- the one turn
  refine ⟨fun m σ H' => Same H H' ∧ ((m = 1 ∧ σ = [some v, some (.int (st : Nat)), some ev, some (.int 1), some (.ref x), none, none] ∧ H1 = H') ∨
      ∃ x5 x6, m = 0 ∧ σ = [some v, some (.int (st : Nat)), some ev, some (.int 1), some (.ref x), x5, x6] ∧ PsR g H' (.ref x) [(st : Nat), (nx row st e : Nat)] [0, ((if nx row st e = row.length then 1 else 0 : Nat) : Int)]), ⟨1, s2, .inl ⟨rfl, rfl, rfl⟩⟩, ?_⟩
  rintro m σ H' ⟨s', ⟨rfl, rfl, rfl⟩ | ⟨x5, x6, rfl, rfl, hp⟩⟩
  · refine ⟨_, rfl, x, dx, _, rfl, hx, rfl, .ref x, [(st : Nat)], [0], rfl, ⟨x, dx, l1, l2, rfl, hx, hl1, hl2, h12⟩, _, rfl, iLt ⟨_, rfl, yes (by rfl) ?_⟩⟩
    refine ⟨_, rfl, x, dx, _, rfl, hx, rfl, .ref x, (st : Nat), [0], rfl, ⟨x, dx, l1, l2, rfl, hx, hl1, hl2, h12⟩, fun H2 s3 => ⟨false, rfl, iteT ?_⟩⟩
    refine ⟨fun σ' H' => ∃ m', m' < 1 ∧ Same H H' ∧ ((m' = 1 ∧ σ' = [some v, some (.int (st : Nat)), some ev, some (.int 1), some (.ref x), none, none] ∧ H1 = H') ∨
      ∃ x5 x6, m' = 0 ∧ σ' = [some v, some (.int (st : Nat)), some ev, some (.int 1), some (.ref x), x5, x6] ∧ PsR g H' (.ref x) [(st : Nat), (nx row st e : Nat)] [0, ((if nx row st e = row.length then 1 else 0 : Nat) : Int)]), fun _ _ z => z, ?_⟩
    have s02 := s2.trans s3
    have hw2 := hw.mono s02
    have hw0 := hw2
    obtain ⟨aw, dw, kd, lw, ds, rfl, haw, _, _⟩ := hw0
    refine ⟨_, rfl, aw, dw, _, rfl, haw, rfl, _, rfl, x, _, dx, _, .ref l1, rfl, s3 _ _ hx, T.psg, T.s_states, rfl, _, rfl, l1, _, _, .int (st : Nat), rfl, rfl, sL (s3 _ _ hl1), rfl, _, rfl, ?_⟩
    refine ⟨_, st, ev, e, row, rfl, hw2, hst, he.mono s02, fun p np => ⟨p, _, rfl, sT upd_same, rfl, _, _, rfl, _, _, rfl, rfl, ?_⟩⟩
    have s4 := sameNew (o := .tup [.int (nx row st e : Nat), .int ((if nx row st e = row.length then 1 else 0 : Nat) : Int)]) np
    have s34 := s3.trans s4
    refine ⟨_, rfl, x, dx, _, rfl, s34 _ _ hx, rfl, _, rfl, _, rfl, x, dx, l1, l2, _, _, _, rfl, s34 _ _ hx, s34 _ _ hl1, s34 _ _ hl2, h12, ?_⟩
    have h1 : H2 l1 = _ := s3 _ _ hl1
    refine ⟨0, by decide, samePut (samePut (s02.trans s4) n1) n2, .inr ⟨_, _, rfl, rfl, x, dx, l1, l2, rfl, ?_, ?_, ?_, h12⟩⟩
    · rw [upd_ne (ne_of hx hl2 (fun z => by cases z)), upd_ne (ne_of hx hl1 (fun z => by cases z))]; exact s34 _ _ hx
    · rw [upd_ne h12]; exact upd_same
    · rw [upd_same, Int.zero_add]; rfl
  · have hp0 := hp
    obtain ⟨a, dx', l1', l2', ea, ha, h1, h2, hne⟩ := hp0
    cases ea
    refine ⟨_, rfl, x, dx', _, rfl, ha, rfl, _, _, _, rfl, hp, _, rfl, iLt ⟨_, rfl, no (by rfl) ?_⟩⟩
    exact ⟨_, rfl, q H' _ s' hp⟩
end
end RH
set_option exponentiation.threshold 256
set_option Elab.async false
set_option linter.all false
set_option maxRecDepth 100000
set_option maxHeartbeats 4000000
namespace RH
open PySem PySem.Spec PyProof.Rows L2
theorem LIM_big : 10000000000000000000000000000000000000000 ≤ LIM := by
  unfold LIM
  exact Nat.le_trans (show 10000000000000000000000000000000000000000 ≤ 2 ^ 200 by decide) (Nat.pow_le_pow_right (by decide) (by decide))
theorem take_min {w : List Ent} (c : Nat) : w.take c = w.take (min c w.length) := by
  rcases Nat.le_total c w.length with h | h
  · rw [Nat.min_eq_left h]
  · rw [Nat.min_eq_right h, List.take_of_length_le h, List.take_of_length_le (Nat.le_refl _)]
theorem bool_iff {b : Bool} {p : Prop} [Decidable p] (h : b = true ↔ p) : b = decide p := by
  cases b with
  | true => rw [decide_eq_true (h.mp rfl)]
  | false => rw [decide_eq_false (fun z => Bool.noConfusion (h.mpr z))]
theorem dgt {ds : List Nat} (h : ∀ x ∈ ds, x < 1009) (i : Nat) (hi : i < ds.length) : ∃ n : Nat, n < 1009 ∧ atI (natsV ds) ((i : Nat) : Int) = some (.int (n : Nat)) := by
  refine ⟨ds[i], h _ (List.getElem_mem hi), atI_nat ?_⟩
  unfold natsV
  rw [List.getElem?_map, List.getElem?_eq_getElem hi]; rfl
theorem LIM_big2 : 10000000000000000000000000000000000000000000000000000000000000000000000 ≤ LIM := by
  unfold LIM
  exact Nat.le_trans (show 10000000000000000000000000000000000000000000000000000000000000000000000 ≤ 2 ^ 250 by decide) (Nat.pow_le_pow_right (by decide) (by decide))
theorem isRow.take {w : List Ent} (h : isRow w) (n : Nat) : isRow (w.take n) := fun e he => h e (List.mem_of_mem_take he)
section
variable {g : G} {mg : Str → Option Value} {vs : List V} {H : Hp} {Q : VK} {E : XK}
theorem q_mulF {v : V} {w : List Ent} {d n q' t : Nat} {R : VK} (h : WR g H v w d n q') (hn : n < 6) (ht : t * w.length < LIM) (q : ∀ H' v, Same H H' → WR g H' v (rp t w) (d + 1) (n + 1) q' → R v H') : rOwnI g.word (spWordMul g) E0 v (.int (t : Nat)) H R := by
  have h' := h
  obtain ⟨a, dx, fs, pv, z, rfl, ha, _⟩ := h'
  have h1 := LIM_ge
  have h2 : LIM ≤ 8 * LIM * LIM := Nat.le_mul_of_pos_left _ (by omega)
  exact ⟨a, dx, fs, _, rfl, rfl, ha, .ref a, w, d, n, q', t, rfl, h, hn, by omega, q⟩
theorem WR.ref {v : V} {w : List Ent} {d n q : Nat} (h : WR g H v w d n q) : ∃ a dx fs, v = .ref a ∧ H a = some (.ins g.word dx fs) ∧ fs.lookup ("length" : Str) = none ∧ fs.lookup ("cut" : Str) = none := by
  obtain ⟨a, dx, fs, pv, z, rfl, ha, hf, _⟩ := h
  exact ⟨a, dx, fs, rfl, ha, by rcases hf with rfl | rfl <;> rfl, by rcases hf with rfl | rfl <;> rfl⟩
end
end RH
set_option exponentiation.threshold 256
set_option Elab.async false
set_option linter.all false
set_option maxRecDepth 100000
set_option maxHeartbeats 4000000
set_option exponentiation.threshold 100
namespace RH
open PySem PySem.Spec PyProof.Rows L2
/-- two lists of entries compared by != -/
theorem q_neL {K : PySem.W.Frag} {H : Hp} {v1 v2 : V} {w1 w2 : List Ent} {R : VK} (h1 : LR H v1 w1) (h2 : LR H v2 w2) (q : R (.bl (!decide (w1 = w2))) H) : rNeD K v1 v2 H R := by
  obtain ⟨a, es, rfl, ha, he⟩ := h1
  obtain ⟨b, fs, rfl, hb, hf⟩ := h2
  refine ⟨.list (w1.map entD), .list (w2.map entD), .lst (sL ha) (dp_ents he), .lst (sL hb) (dp_ents hf), ents_shaped he.s, ents_shaped hf.s, ?_⟩
  rw [eqv_ents]
  exact q
theorem q_neE {K : PySem.W.Frag} {H : Hp} {v1 v2 : V} {e1 e2 : Ent} {R : VK} (h1 : EntV H e1 v1) (h2 : EntV H e2 v2) (q : R (.bl (!decide (e1 = e2))) H) : rNeD K v1 v2 H R := by
  refine ⟨_, _, dp_ent h1, dp_ent h2, ent_shaped h1.1, ent_shaped h2.1, ?_⟩
  rw [eqv_ent]
  exact q
/-- a part of a list of entries -/
theorem q_slE {K : PySem.W.Frag} {H : Hp} {v : V} {w : List Ent} {f l : Nat} {R : VK} (h : LR H v w) (hfl : f ≤ l) (q : ∀ p H', H p = none → Same H H' → LR H' (.ref p) ((w.drop f).take (l - f)) → R (.ref p) H') : rSlL K v (some ((f : Nat) : Int)) (some ((l : Nat) : Int)) H R := by
  obtain ⟨a, es, rfl, ha, he⟩ := h
  refine ⟨a, es, rfl, sL ha, fun p np => q p _ np (sameNew np) ⟨p, _, rfl, upd_same, ?_⟩⟩
  rw [cutV_nat es hfl]
  exact ((he.drop f).take (l - f)).mono (sameNew np)
theorem LR.atE {H : Hp} {a : Addr} {es : List V} {w : List Ent} {i : Nat} {e : Ent} (he : EntsV H w es) (hi : w[i]? = some e) : ∃ v, atI es ((i : Nat) : Int) = some v ∧ EntV H e v := by
  obtain ⟨v, h1, h2⟩ := he.get' hi
  exact ⟨v, atI_nat h1, h2⟩
/-- two numbers, sorted -/
theorem sort2 {a b : Nat} {ns : List Int} (h : ns.Perm [((a : Nat) : Int), ((b : Nat) : Int)]) (hs : ns.Pairwise (· ≤ ·)) : ∃ f l : Nat, ns = [((f : Nat) : Int), ((l : Nat) : Int)] ∧ f ≤ l ∧ (f = a ∨ f = b) ∧ (l = a ∨ l = b) := by
  have hl := h.length_eq
  match ns, hl with
  | [x, y], _ =>
    have hx : x = (a : Int) ∨ x = (b : Int) := by have := h.mem_iff (a := x) |>.mp (List.mem_cons_self ..); simpa using this
    have hy : y = (a : Int) ∨ y = (b : Int) := by have := h.mem_iff (a := y) |>.mp (List.mem_cons_of_mem _ (List.mem_singleton.mpr rfl)); simpa using this
    have hle : x ≤ y := (List.pairwise_cons.mp hs).1 y (List.mem_singleton.mpr rfl)
    refine ⟨x.toNat, y.toNat, ?_, ?_, ?_, ?_⟩
    · rw [show ((x.toNat : Nat) : Int) = x by omega, show ((y.toNat : Nat) : Int) = y by omega]
    · omega
    · omega
    · omega
theorem isRow.drop {w : List Ent} (h : isRow w) (n : Nat) : isRow (w.drop n) := fun e he => h e (List.mem_of_mem_drop he)
section
variable {g : G} {mg : Str → Option Value} {vs : List V} {H : Hp} {Q : VK} {E : XK}
theorem WR.ents {v : V} {w : List Ent} {d n q : Nat} (h : WR g H v w d n q) : ∃ a dx fs, v = .ref a ∧ H a = some (.ins g.word dx fs) ∧ fs.lookup ("length" : Str) = none ∧ fs.lookup ("cut" : Str) = none ∧ fs.lookup ("entries" : Str) = none := by
  obtain ⟨a, dx, fs, pv, z, rfl, ha, hf, _⟩ := h
  exact ⟨a, dx, fs, rfl, ha, by rcases hf with rfl | rfl <;> rfl, by rcases hf with rfl | rfl <;> rfl, by rcases hf with rfl | rfl <;> rfl⟩
theorem WR.put {v : V} {w : List Ent} {d n q : Nat} {l : Addr} {es : List V} {o : HO} (h : WR g H v w d n q) (hl : H l = some (.lst es)) : WR g (upd H l o) v w d n q := by
  obtain ⟨a, dx, fs, pv, z, rfl, ha, hf, hp⟩ := h
  exact ⟨a, dx, fs, pv, z, rfl, by rw [upd_ne (ne_of ha hl (fun z => by cases z))]; exact ha, hf, hp.keeps (keeps_list hl)⟩
theorem q_toE {K : PySem.W.Frag} {v : V} {w : List Ent} {k : Nat} {R : VK} (h : LR H v w) (q : ∀ p H', H p = none → Same H H' → LR H' (.ref p) (w.take k) → R (.ref p) H') : rSlL K v none (some ((k : Nat) : Int)) H R := by
  obtain ⟨a, es, rfl, ha, he⟩ := h
  refine ⟨a, es, rfl, sL ha, fun p np => q p _ np (sameNew np) ⟨p, _, rfl, upd_same, ?_⟩⟩
  rw [cutV_to]
  exact (he.take k).mono (sameNew np)
theorem q_fromE {K : PySem.W.Frag} {v : V} {w : List Ent} {k : Nat} {R : VK} (h : LR H v w) (q : ∀ p H', H p = none → Same H H' → LR H' (.ref p) (w.drop k) → R (.ref p) H') : rSlL K v (some ((k : Nat) : Int)) none H R := by
  obtain ⟨a, es, rfl, ha, he⟩ := h
  refine ⟨a, es, rfl, sL ha, fun p np => q p _ np (sameNew np) ⟨p, _, rfl, upd_same, ?_⟩⟩
  rw [cutV_from]
  exact (he.drop k).mono (sameNew np)
theorem q_fromN {K : PySem.W.Frag} {σ : L2.St} {v : V} {w : List Ent} {k : Nat} {R : VK} (h : LR H v w) (q : ∀ p H', H p = none → Same H H' → LR H' (.ref p) (w.drop k) → R (.ref p) H') : tNoPart σ H fun u H3 => rSlL K v (some ((k : Nat) : Int)) u H3 R := q_fromE h q
end
end RH
set_option exponentiation.threshold 256
set_option Elab.async false
set_option linter.all false
set_option maxRecDepth 100000
set_option maxHeartbeats 4000000
set_option exponentiation.threshold 100
namespace RH
open PySem PySem.Spec PyProof.Rows L2
theorem visS_le (row : List Ent) : ∀ (w : List Ent) (st : Nat), visS row st w ≤ w.length
  | [], _ => Nat.le_refl _
  | e :: w, st => by
    have := visS_le row w (nx row st e)
    show (if nx row st e = row.length then 1 else 0) + visS row (nx row st e) w ≤ w.length + 1
    split <;> omega
theorem RowsN.keeps {H H' : Hp} (s : Keeps H H') : ∀ {ms : List MX} {xs : List NX}, RowsN H ms xs → RowsN H' ms xs
  | [], [], _ => trivial
  | (none, _) :: _, _ :: _, ⟨⟨a, ⟨y, b, c⟩, d⟩, h⟩ => ⟨⟨a, ⟨y, b, c⟩, d⟩, RowsN.keeps s h⟩
  | (some _, _) :: _, _ :: _, ⟨⟨a, ⟨y, b, c⟩, d⟩, h⟩ => ⟨⟨a, ⟨y, EntV.keeps s b, c⟩, d⟩, RowsN.keeps s h⟩
  | [], _ :: _, h => h.elim
  | _ :: _, [], h => h.elim
theorem NDict.put {w : World} {H : Hp} {a l : Addr} {es : List V} {o : HO} {ms : List MX} (h : NDict w H a ms) (hl : H l = some (.lst es)) : NDict w (upd H l o) a ms := by
  obtain ⟨xs, h1, h2⟩ := h
  exact ⟨xs, by rw [upd_ne (ne_of h1 hl (fun z => by cases z))]; exact h1, h2.keeps (keeps_list hl)⟩
section
variable {g : G} {mg : Str → Option Value} {w : World} {vs : List V} {H : Hp} {Q : VK} {E : XK}
theorem p_go_from (T : Txt g mg) (h : spGoFrom g w vs H Q E) : t_go_from g w (EndQ Q) (start N_go_from vs) H := by
  obtain ⟨v, st0, uv0, us0, m0, row, rfl, hw, hst0, hu0, q⟩ := h
  refine ⟨fun m σ H' => ∃ (st vis : Nat) (us : List UD) (uv : V) (x5 x6 x7 x8 x9 : Option V), σ = [some v, some (.int (st : Nat)), some uv, some (.int (m : Nat)), some (.int (vis : Nat)), x5, x6, x7, x8, x9] ∧ Same H H' ∧ st ≤ row.length ∧
      (0 < m → UR g.part H' us uv ∧ m ≤ (den us).length ∧ Sm us ∧ ∀ m, Rk 0 us m) ∧ runS row st ((den us).take m) = runS row st0 ((den us0).take m0) ∧ vis + visS row st ((den us).take m) = visS row st0 ((den us0).take m0),
    ⟨m0, st0, 0, us0, uv0, _, _, _, _, _, rfl, Same.refl H, hst0, hu0, rfl, Nat.zero_add _⟩, ?_⟩
  rintro m σ H1 ⟨st, vis, us, uv, x5, x6, x7, x8, x9, rfl, s1, hst, hu, hrun, hvis⟩
  refine ⟨_, rfl, nGt (b := 0) ⟨_, rfl, ?_⟩⟩
  by_cases hm : 0 < m
  · refine yesD hm ⟨fun σ' H' => ∃ m', m' < m ∧ ∃ (st vis : Nat) (us : List UD) (uv : V) (x5 x6 x7 x8 x9 : Option V), σ' = [some v, some (.int (st : Nat)), some uv, some (.int (m' : Nat)), some (.int (vis : Nat)), x5, x6, x7, x8, x9] ∧ Same H H' ∧ st ≤ row.length ∧
      (0 < m' → UR g.part H' us uv ∧ m' ≤ (den us).length ∧ Sm us ∧ ∀ m, Rk 0 us m) ∧ runS row st ((den us).take m') = runS row st0 ((den us0).take m0) ∧ vis + visS row st ((den us).take m') = visS row st0 ((den us0).take m0), fun _ _ z => z, ?_⟩
    obtain ⟨hur, hml, hsm, hrk⟩ := hu hm
    refine ⟨_, rfl, uv, us, rfl, hur, fun hd => absurd hml (by rw [hd]; show ¬ m ≤ 0; omega), fun H2 v' u us' s2 hu2 hd2 ht1 ht2 hrk2 hsm2 _ => ?_⟩
    have hsm2 := hsm2 hsm
    have hrk2 : ∀ m, Rk 0 (u :: us') m := fun m => hrk2 0 m (hrk m)
    have hus : u.s = none := by
      cases e : u.s with
      | none => rfl
      | some dz =>
        obtain ⟨d, z⟩ := dz
        have h2 := ht2 (by rw [e]; exact fun z => by cases z)
        have h3 := (hrk2 m).head hm
        unfold rkm at h3
        rw [e] at h3
        simp only at h3
        rw [if_neg (by omega), if_neg (by omega)] at h3
        split at h3 <;> omega
    obtain ⟨p, ev, r, rfl, hp, hev, hr⟩ := hu2
    have hev0 := hev
    unfold UnV at hev
    rw [hus] at hev
    obtain ⟨hle1, e, hue, hee⟩ := hev
    have hut : u.t = 1 := by omega
    have hden : den us = e :: den us' := by
      rw [← hd2]
      show rp u.t u.w ++ den us' = _
      rw [hut, rp_one, hue]; rfl
    rw [hut] at hp
    refine ⟨p, _, rfl, sT hp, rfl, _, _, rfl, _, _, rfl, _, _, rfl, rfl, ?_⟩
    refine ⟨_, rfl, _, rfl, _, rfl, ev, u, rfl, hev0, ?_⟩
    rw [hue]
    refine nDiv (b := 1) (by decide) (by have := LIM_ge; omega) (nMin2 (a := 1) ?_)
    rw [Nat.div_one, show min 1 m = 1 by omega]
    refine ⟨_, rfl, nEq (b := 0) ⟨_, rfl, noD (by decide) ?_⟩⟩
    have s12 := s1.trans s2
    have hw2 := hw.mono s12
    have hw0 := hw2
    obtain ⟨aw, dw, kd, lw, ds, rfl, haw, _, _⟩ := hw0
    refine ⟨_, rfl, aw, dw, _, rfl, haw, rfl, _, rfl, _, rfl, _, rfl, _, st, ev, e, row, rfl, hw2, hst, hee, fun H3 pv s3 hps => ?_⟩
    have hps0 := hps
    obtain ⟨ap, dp, l1, l2, rfl, hap, _, _, _⟩ := hps0
    refine ⟨ap, dp, _, rfl, hap, rfl, _, rfl, _, _, _, _, rfl, hps, by omega, ?_, fun H4 p4 s4 hp4 => ?_⟩
    · split <;> decide
    refine ⟨p4, _, rfl, sT hp4, rfl, _, _, rfl, _, _, rfl, rfl, ?_⟩
    refine ⟨_, rfl, _, rfl, _, _, rfl, rfl, ?_⟩
    have s34 := s3.trans s4
    refine ⟨_, rfl, _, rfl, _, rfl, _, u, rfl, hev0.mono s34, ?_⟩
    rw [hue]
    refine nMul (a := 1) (b := 1) (lim1 (by have := LIM_ge; omega)) (lim1 (by have := LIM_ge; omega)) ⟨_, _, rfl, rfl, ?_⟩
    refine ⟨_, rfl, _, rfl, _, rfl, iSub ⟨_, rfl, small3, fun p5 np5 => ?_⟩⟩
    have s5 := sameNew (o := .tup [ev, .int (1 - 1), r]) np5
    have s25 := s34.trans s5
    refine ⟨m - 1, by omega, nx row st e, vis + (if nx row st e = row.length then 1 else 0), ⟨u.w, 0, none⟩ :: us', .ref p5, some ev, some (.int ((1 : Nat) : Int)), some r, some (.int ((1 : Nat) : Int)), some (.int ((if nx row st e = row.length then 1 else 0 : Nat) : Int)), ?_, s12.trans s25, nx_le .., fun hm1 => ⟨?_, ?_, ?_, ?_⟩, ?_, ?_⟩
    · show [some (V.ref aw), some (.int _), some (.ref p5), some (.int (((m : Nat) : Int) - ((1 * 1 : Nat) : Int))), some (.int (((vis : Nat) : Int) + _)), _, _, _, _, _] = _
      rw [show ((m : Nat) : Int) - ((1 * 1 : Nat) : Int) = ((m - 1 : Nat) : Int) by omega]
      rfl
    · exact ⟨p5, ev, r, rfl, upd_same, ⟨Nat.zero_le _, e, hue, hee.mono s25⟩, hr.mono s25⟩
    · rw [hden] at hml
      show m - 1 ≤ (rp 0 u.w ++ den us').length
      rw [rp_zero, List.nil_append]
      have : m ≤ (den us').length + 1 := hml
      omega
    · exact Sm.cons ⟨hsm2.head.w, by show 0 < 4 * LIM; have := LIM_ge; omega⟩ hsm2.tail
    · intro k
      have := (hrk2 (k + 1)).tail
      rw [hut, hue, show k + 1 - 1 * [e].length = k from by rw [List.length_singleton, Nat.one_mul, Nat.add_sub_cancel]] at this
      refine Rk.cons (Nat.le_refl _) ?_
      show Rk 0 us' (k - 0 * _)
      rw [Nat.zero_mul, Nat.sub_zero]; exact this
    · show runS row (nx row st e) ((rp 0 u.w ++ den us').take (m - 1)) = _
      rw [rp_zero, List.nil_append, ← hrun, hden]
      obtain ⟨m', rfl⟩ : ∃ m', m = m' + 1 := ⟨m - 1, by omega⟩
      rw [List.take_succ_cons]; rfl
    · show vis + (if nx row st e = row.length then 1 else 0) + visS row (nx row st e) ((rp 0 u.w ++ den us').take (m - 1)) = _
      rw [rp_zero, List.nil_append, ← hvis, hden]
      obtain ⟨m', rfl⟩ : ∃ m', m = m' + 1 := ⟨m - 1, by omega⟩
      rw [List.take_succ_cons, Nat.add_assoc]; rfl
  · refine noD hm ⟨_, rfl, _, rfl, small2, fun p np => ?_⟩
    have e0 : m = 0 := by omega
    subst e0
    have h1 : st = runS row st0 ((den us0).take m0) := hrun
    have h2 : vis = visS row st0 ((den us0).take m0) := by rw [← hvis]; rfl
    subst h1 h2
    exact q _ p (s1.trans (sameNew np)) upd_same
theorem p_check_row (T : Txt g mg) (h : spCheckRow vs H Q E) : t_check_row g (EndQ Q) (start N_check_row vs) H := by
  obtain ⟨v, row, rfl, ⟨a, es, rfl, ha, he⟩, h1, h2, ok, q⟩ := h
  have hl := he.len
  refine q_isi (v := .ref a) rfl (.base (.lst ha)) kit_ll ⟨true, rfl, no rfl ?_⟩
  refine ⟨_, rfl, a, _, rfl, .inl (sL ha), nLe (a := 1) ⟨_, rfl, yesD (by omega) (nLe (b := 8) ⟨_, rfl, no ?_ ?_⟩)⟩⟩
  · rw [decide_eq_true (show es.length ≤ 8 by omega)]; rfl
  refine ⟨_, rfl, a, rfl, ⟨_, sL ha⟩, fun D nD => ?_⟩
  refine lc_list (K := g.K) (a := a) (xs := es) (fun i H' => Same H H' ∧ H' D = some (.lst (List.replicate i (.bl true)))) ⟨sameNew nD, upd_same⟩ (fun i H' _ x => sL (x.1 _ _ ha)) ?_ ?_
  · rintro i y H1 hy ⟨s1, hD⟩
    obtain ⟨e, hei, hev⟩ := he.get hy
    refine ⟨rfl, q_yes (yes rfl ⟨_, rfl, y, e, rfl, hev.mono s1, ok e (List.mem_of_getElem? hei), fun H2 s2 => ⟨_, s2 _ _ hD, ?_, samePut (s1.trans s2) nD, ?_⟩⟩)⟩
    · rw [List.length_replicate]
      have : i < es.length := (List.getElem?_eq_some_iff.mp hy).1
      exact Nat.lt_of_lt_of_le (show i < 8 by omega) (by decide)
    · rw [upd_same, List.replicate_succ']
  · rintro H1 ⟨s1, hD⟩
    refine ⟨D, List.replicate es.length true, rfl, sL (by rw [List.map_replicate]; exact hD), _, rfl, no ?_ (q H1 s1)⟩
    simp
theorem p_matched (T : Txt g mg) (h : spMatched vs H Q E) : t_matched g (EndQ Q) (start N_matched vs) H := by
  obtain ⟨v1, v2, row, seen, rfl, h1, h2, h8, q⟩ := h
  have h10 := h1
  have h20 := h2
  obtain ⟨a, es, rfl, ha, he⟩ := h1
  obtain ⟨b, fs, rfl, hb, hf⟩ := h2
  have hl := he.len
  have hk := hf.len
  refine ⟨_, rfl, a, _, rfl, .inl (sL ha), _, rfl, b, _, rfl, .inl (sL hb), nMin2 ⟨1, rfl, _, _, _, _, rfl, RgC.neg (by omega) (by omega) (by decide) (by decide), ?_⟩⟩
  rw [hl, hk]
  obtain ⟨n, hn⟩ : ∃ n, min row.length seen.length = n := ⟨_, rfl⟩
  rw [hn, show ((n : Nat) : Int) - 0 = ((n : Nat) : Int) by omega, Int.toNat_natCast]
  refine for_rangeC (fun i σ H' => ∃ x2, σ = [some (.ref a), some (.ref b), x2] ∧ Same H H' ∧ mtcN row seen (n - i) = mtc row seen) ⟨_, rfl, Same.refl H, by unfold mtc; rw [hn]; rfl⟩ ?_ ?_
  · rintro i σ H1 hi ⟨x2, rfl, s1, hm⟩
    rw [show ((n : Nat) : Int) + ((i : Nat) : Int) * -1 = ((n - i : Nat) : Int) by omega]
    obtain ⟨k, hk2⟩ : ∃ k, n - i = k + 1 := ⟨n - i - 1, by omega⟩
    rw [hk2] at hm ⊢
    have hn1 : n - (i + 1) = k := by omega
    refine ⟨_, rfl, _, rfl, _, rfl, q_toE (h10.mono s1) fun p1 H2 np1 s2 hp1 => ⟨_, rfl, _, rfl, b, _, rfl, .inl (sL (s1.trans s2 _ _ hb)), _, rfl, nSub (by omega) ⟨_, rfl, ?_⟩⟩⟩
    have s12 := s1.trans s2
    rw [hk]
    refine q_fromN (k := seen.length - (k + 1)) (h20.mono s12) fun p2 H3 np2 s3 hp2 => q_eqL (hp1.mono s3) hp2 ⟨_, rfl, ?_⟩
    by_cases hc : row.take (k + 1) = seen.drop (seen.length - (k + 1))
    · refine yesD hc ⟨_, rfl, ?_⟩
      have : mtc row seen = k + 1 := by rw [← hm]; unfold mtcN; rw [if_pos hc]
      have h := q H3 (s12.trans s3)
      rw [this] at h
      exact h
    · refine noD hc ⟨_, rfl, s12.trans s3, ?_⟩
      rw [hn1, ← hm]
      conv => rhs; unfold mtcN
      rw [if_neg hc]
  · rintro σ H1 ⟨x2, rfl, s1, hm⟩
    rw [Nat.sub_self] at hm
    have h := q H1 s1
    rw [← hm] at h
    exact h
theorem p_row_walk (T : Txt g mg) (h : spRowWalk g w vs H Q E) : t_row_walk g w (EndQ Q) (start N_row_walk vs) H := by
  obtain ⟨v, row, rfl, hlr, h8, q⟩ := h
  obtain ⟨a, es, rfl, ha, he⟩ := id hlr
  have hl := he.len
  refine ⟨small0, fun L nL => ?_⟩
  refine ⟨_, rfl, a, _, rfl, .inl (sL (sameNew nL _ _ ha)), nAdd (b := 1) ⟨_, rfl, by omega, by omega, ?_⟩⟩
  rw [hl]
  refine for_range (lo := 0) (fun i σ H' => ∃ x2 x3 x4 ds, σ = [some (.ref a), some (.ref L), x2, x3, x4] ∧ Same H H' ∧ H' L = some (.lst ds) ∧ ds.length = i ∧ ∀ st, st < i → ∃ b, ds[st]? = some (.ref b) ∧ NDict w H' b (mv row st)) ⟨_, _, _, [], rfl, sameNew nL, upd_same, rfl, fun _ z => absurd z (Nat.not_lt_zero _)⟩ ?_ ?_
  · rintro i σ H1 hi ⟨x2, x3, x4, ds, rfl, s1, hL, hdl, hds⟩
    rw [show (0 : Int) + ((i : Nat) : Int) = ((i : Nat) : Int) by omega]
    have hi9 : i < row.length + 1 := by omega
    refine ⟨_, rfl, a, rfl, ⟨_, sL (s1 _ _ ha)⟩, fun D nD => ?_⟩
    refine ⟨fun j m H' => m = es.length - j ∧ j ≤ es.length ∧ Same H1 H' ∧ NDict w H' D (mvE row i (row.take j)), ⟨es.length, fun o' hD => ⟨rfl, Nat.zero_le _, sameNew nD, hD⟩⟩, ?_⟩
    rintro j m H2 ⟨rfl, hj, s2, hD⟩
    have s12 := s1.trans s2
    rcases Nat.lt_or_ge j es.length with hlt | hge
    · refine .inr ⟨⟨es, _, sL (s12 _ _ ha), List.getElem?_eq_getElem hlt⟩, fun H' => Same H1 H' ∧ NDict w H' D (mvE row i (row.take (j + 1))), fun H' z => ⟨es.length - (j + 1), by omega, rfl, by omega, z.1, z.2⟩, ?_⟩
      rintro x H' ⟨rfl, hx⟩
      have hx := hx es (sL (s12 _ _ ha))
      obtain ⟨e, hei, hev⟩ := (he.mono s12).get hx
      refine ⟨rfl, q_yes (yes rfl ⟨_, rfl, _, rfl, _, rfl, _, rfl, _, rfl, q_toE (hlr.mono s12) fun p1 H3 np1 s3 hp1 => ⟨_, rfl, small1, fun p2 np2 => ?_⟩⟩)⟩
      have s4 := sameNew (o := .lst [x]) np2
      have s24 := s3.trans s4
      refine q_catL (w2 := [e]) (hp1.mono s4) ⟨p2, [x], rfl, upd_same, hev.mono s24, trivial⟩ (by rw [List.length_take]; omega) (show 1 ≤ 10000 by decide) fun p3 H5 s5 hp3 => ?_
      have s25 := s24.trans s5
      refine ⟨_, _, row, _, rfl, hlr.mono (s12.trans s25), hp3, h8, fun H6 s6 => ?_⟩
      have s26 := s25.trans s6
      refine ⟨_, some e, _, rfl, hev.mono s26, hD.mono s26, ?_, fun o' hN => ⟨samePut (s2.trans s26) nD, ?_⟩⟩
      · have := mvE_len row i (row.take j)
        rw [List.length_take] at this
        omega
      · rw [List.take_succ, hei]
        show NDict w _ D (mvE row i (row.take j ++ [e]))
        rw [mvE_snoc]
        exact hN
    · refine .inl ⟨⟨es, sL (s12 _ _ ha), hge⟩, ?_⟩
      have hjl : j = row.length := by omega
      subst hjl
      rw [List.take_length] at hD
      refine ⟨_, rfl, D, _, none, 0, rfl, rfl, rfl, hD, by have := mvE_len row i row; omega, fun o' hN => ?_⟩
      have hLD : L ≠ D := ne_of_none hL nD
      have hL2 : upd H2 D o' L = some (.lst ds) := by rw [upd_ne hLD]; exact s2 _ _ hL
      have s2' : Same H1 (upd H2 D o') := samePut s2 nD
      generalize upd H2 D o' = H3 at hN hL2 s2'
      refine ⟨_, rfl, Or.inl ⟨rfl, _, sL hL2⟩, _, rfl, L, ds, _, rfl, rfl, hL2, by rw [hdl]; exact Nat.lt_of_lt_of_le (show i < 9 by omega) (by decide), ?_⟩
      refine ⟨_, _, _, ds ++ [.ref D], rfl, samePut (s1.trans s2') nL, upd_same, by rw [List.length_append, hdl]; rfl, fun st hst => ?_⟩
      rcases Nat.lt_or_ge st i with hlt | hge
      · obtain ⟨b, hb1, hb2⟩ := hds st hlt
        refine ⟨b, by rw [List.getElem?_append_left (by omega)]; exact hb1, (hb2.mono s2').put hL2⟩
      · have : st = i := by omega
        subst this
        refine ⟨D, by rw [List.getElem?_append_right (by omega), hdl, Nat.sub_self]; rfl, hN.put hL2⟩
  · rintro σ H1 ⟨x2, x3, x4, ds, rfl, s1, hL, hdl, hds⟩
    refine ⟨_, rfl, _, rfl, a, _, rfl, .inl (sL (s1 _ _ ha)), ?_⟩
    intro x dx nx' nd ne
    have s2 : Same H1 (upd (upd H1 dx (.own x)) x (.ins g.walk dx [])) := samePut (sameNew nd) nx'
    refine ⟨x, dx, _, _, rfl, upd_same, fun kd H2 k1 hx => ⟨rfl, ?_⟩⟩
    have s3 : Same H1 H2 := fun b o hb => k1 b o (ne_of_none hb nx') (s2 b o hb)
    refine q H2 _ (s1.trans s3) ⟨x, dx, kd, L, ds, rfl, ?_, s3 _ _ hL, by omega, fun st hst => ?_⟩
    · rw [hx, hl]
    · obtain ⟨b, hb1, hb2⟩ := hds st (by omega)
      exact ⟨b, hb1, hb2.mono s3⟩
theorem Rk0 {us : List UD} : (∀ u ∈ us, udp u = 0) → ∀ m, Rk 0 us m := by
  intro h m
  have := Rk.front (R := 0) (cs := us) (us := []) (m := m) (fun c hc => by rw [rkx_udp, h c hc]; exact Nat.le_refl _) trivial
  rwa [List.append_nil] at this
theorem p_count_row (T : Txt g mg) (h : spCountRow g vs H Q E) : t_count_row g w (EndQ Q) (start N_count_row vs) H := by
  obtain ⟨wv, rv, n, wd, row, nn, q', rfl, hw, hr, h1, h8, ok, hn, hlim, q⟩ := h
  refine ⟨_, rfl, rv, row, rfl, hr, h1, h8, ok, fun H1 s1 => ?_⟩
  refine ⟨_, rfl, q_len (hw.mono s1) (fun R r => ⟨_, rfl, r⟩) ⟨(n : Int), 0, (wd.length : Nat), rfl, by omega, by omega, ?_⟩⟩
  refine ⟨_, rfl, rv, row, rfl, hr.mono s1, h8, fun H2 x s2 hx => ?_⟩
  have s12 := s1.trans s2
  have hx0 := hx
  obtain ⟨a, dx, kd, l, ds, rfl, ha, _, _⟩ := hx0
  refine ⟨a, dx, _, rfl, ha, rfl, q_wpart T (hw.mono s12) (fun R r => ⟨_, rfl, r⟩) fun pv z hp => ⟨small3, fun p np => ⟨_, rfl, ?_⟩⟩⟩
  have s3 := sameNew (o := .tup [pv, .int 1, .non]) np
  have hL := LIM_ge
  refine ⟨_, 0, .ref p, if wd = [] then [] else [⟨wd, 1, some (0, z)⟩], n, row, rfl, hx.mono s3, Nat.zero_le _, fun hn0 => ?_, fun H4 p4 s4 hp4 => ?_⟩
  · have hne : wd ≠ [] := fun z => by rw [z] at hn; exact absurd hn (by show ¬ n ≤ 0; omega)
    rw [if_neg hne]
    refine ⟨⟨p, pv, .non, rfl, upd_same, ⟨hne, hp.mono s3⟩, rfl⟩, ?_, fun u hu => ?_, Rk0 fun u hu => ?_⟩
    · show n ≤ (rp 1 wd ++ []).length
      rw [rp_one, List.append_nil]; exact hn
    · rw [List.mem_singleton.mp hu]
      exact ⟨hlim, by show 1 < 4 * LIM; omega⟩
    · rw [List.mem_singleton.mp hu]; rfl
  · have hden : den (if wd = [] then [] else [⟨wd, 1, some (0, z)⟩]) = wd := by
      by_cases hne : wd = []
      · rw [if_pos hne, hne]; rfl
      · rw [if_neg hne]
        show rp 1 wd ++ [] = wd
        rw [rp_one, List.append_nil]
    rw [hden] at hp4
    refine ⟨p4, _, 1, _, rfl, rfl, sT hp4, rfl, q H4 ((s12.trans s3).trans s4)⟩
theorem p_stands (T : Txt g mg) (h : spStands vs H Q E) : t_stands g (EndQ Q) (start N_stands vs) H := by
  obtain ⟨v1, v2, row, wd, rfl, hr, hw, hle, hl, q⟩ := h
  obtain ⟨a, es, rfl, ha, he⟩ := id hr
  obtain ⟨b, fs, rfl, hb, hf⟩ := id hw
  have l1 := he.len
  have l2 := hf.len
  refine ⟨_, rfl, b, _, rfl, .inl (sL hb), _, rfl, a, _, rfl, .inl (sL ha), nSub (by omega) (nAdd (b := 1) ⟨_, rfl, by omega, by omega, fun D nD => ?_⟩)⟩
  rw [l1, l2, Int.toNat_natCast]
  refine lc_range (lo := 0) (n := wd.length - row.length + 1) (fun i H' => Same H H' ∧ H' D = some (.lst (natsV ((List.range i).filter fun k => decide ((wd.drop k).take row.length = row))))) ⟨sameNew nD, upd_same⟩ ?_ ?_
  · rintro i H1 hi ⟨s1, hD⟩
    rw [show (0 : Int) + ((i : Nat) : Int) = ((i : Nat) : Int) by omega]
    refine ⟨rfl, ⟨_, rfl, _, rfl, _, rfl, _, rfl, _, rfl, a, _, rfl, .inl (sL (s1 _ _ ha)), nAdd ⟨_, rfl, ?_⟩⟩⟩
    rw [l1]
    refine q_slE (hw.mono s1) (by omega) fun p H2 np s2 hp => ⟨_, rfl, q_eqL hp (hr.mono (s1.trans s2)) ⟨_, rfl, ?_⟩⟩
    rw [Nat.add_sub_cancel_left]
    have s12 := s1.trans s2
    by_cases hc : (wd.drop i).take row.length = row
    · refine yesD hc ⟨_, rfl, _, s2 _ _ hD, ?_, samePut s12 nD, ?_⟩
      · rw [natsV_len]
        exact Nat.lt_of_le_of_lt (Nat.le_trans (List.length_filter_le ..) (by rw [List.length_range]; exact Nat.le_of_lt_succ (show i < 10001 + 1 by omega))) (by decide)
      · rw [upd_same, List.range_succ, List.filter_append, natsV_push]
        simp [hc, natsV_push]
    · refine noD hc ⟨s12, ?_⟩
      rw [List.range_succ, List.filter_append]
      simp [hc]
      exact s2 _ _ hD
  · rintro H1 ⟨s1, hD⟩
    exact q H1 D s1 hD
end
end RH
set_option exponentiation.threshold 256
set_option Elab.async false
set_option linter.all false
set_option maxRecDepth 100000
set_option maxHeartbeats 4000000
set_option exponentiation.threshold 100
namespace RH
open PySem PySem.Spec PyProof.Rows L2
theorem cut_two {w : List Ent} {f : Nat} (h : f ≤ w.length) : (w.drop 0).take (f - 0) ++ (w.drop f).take (w.length - f) = w := by
  rw [List.drop_zero, Nat.sub_zero, List.take_of_length_le (l := w.drop f) (by rw [List.length_drop]; omega), List.take_append_drop]
theorem cut_three {w : List Ent} {f k : Nat} (h : f ≤ k) (hk : k ≤ w.length) : (w.drop 0).take (f - 0) ++ ((w.drop f).take (k - f) ++ (w.drop k).take (w.length - k)) = w := by
  rw [List.drop_zero, Nat.sub_zero, List.take_of_length_le (l := w.drop k) (by rw [List.length_drop]; omega)]
  have : w.drop k = (w.drop f).drop (k - f) := by rw [List.drop_drop, show f + (k - f) = k by omega]
  rw [this, List.take_append_drop, List.take_append_drop]
section
variable {g : G} {mg : Str → Option Value} {vs : List V} {H : Hp} {Q : VK} {E : XK}
/-- Word([]) -/
theorem q_W0 {R : VK} {p x dx : Addr} (np : H p = none) (nx : upd H p (.lst []) x = none) (nd : upd H p (.lst []) dx = none) (ne : dx ≠ x) (k : ∀ H', Same H H' → WR g H' (.ref x) [] 0 0 1 → R .non H') :
    spWordInit g (.ref x :: ([.ref p] ++ [])) (upd (upd (upd H p (.lst [])) dx (.own x)) x (.ins g.word dx [])) R E0 :=
  q_WordL (vs := [.ref p]) (dvs := []) (w := []) rfl upd_same trivial (fun _ z => absurd z List.not_mem_nil) (Nat.zero_le _) nx nd ne fun H' s' hx => k H' ((sameNew np).trans s') hx
/-- Word([e]) -/
theorem q_W1 {R : VK} {p x dx : Addr} {v : V} {e : Ent} (hv : EntV H e v) (ok : EntOk e) (np : H p = none) (nx : upd H p (.lst [v]) x = none) (nd : upd H p (.lst [v]) dx = none) (ne : dx ≠ x) (k : ∀ H', Same H H' → WR g H' (.ref x) [e] 0 0 1 → R .non H') :
    spWordInit g (.ref x :: ([.ref p] ++ [])) (upd (upd (upd H p (.lst [v])) dx (.own x)) x (.ins g.word dx [])) R E0 :=
  q_WordL (vs := [.ref p]) (dvs := []) (w := [e]) rfl upd_same ⟨hv.mono (sameNew np), trivial⟩ (fun y hy => by rw [List.mem_singleton.mp hy]; exact ok) (show 1 ≤ 1000000 by decide) nx nd ne fun H' s' hx => k H' ((sameNew np).trans s') hx
theorem WR.cast {v : V} {w w' : List Ent} {d n q : Nat} (h : WR g H v w d n q) (e : w = w') : WR g H v w' d n q := e ▸ h
theorem p_otherwise (T : Txt g mg) (h : spOtherwise g vs H Q E) : t_otherwise g (EndQ Q) (start N_otherwise vs) H := by
  obtain ⟨v1, v2, v3, w, n1, q1, ds, rfl, hw, hn1, hq1, hlr, hrow, hlen, ⟨ad, rfl, had⟩, hdl, q⟩ := h
  obtain ⟨l, es, rfl, hl, he⟩ := hlr
  have hL := LIM_ge
  have le := he.len
  obtain ⟨d1, h1⟩ := DR.get0 (H := H) (a := ad) (ds := ds) 0 (by omega)
  obtain ⟨d2, h2⟩ := DR.get0 (H := H) (a := ad) (ds := ds) 1 (by omega)
  refine ⟨_, rfl, ad, _, 0, _, rfl, rfl, sL had, h1, .inl ⟨_, rfl, _, rfl, l, es, rfl, .inl (sL hl), nAdd (b := 1) (nMod (by omega) ?_)⟩⟩
  refine ⟨_, rfl, ad, _, 1, _, rfl, rfl, sL had, h2, .inl ⟨_, rfl, _, rfl, l, es, rfl, .inl (sL hl), nAdd (b := 1) (nMod (by omega) ?_)⟩⟩
  have hm1 : d1 % (es.length + 1) ≤ w.length := by have := Nat.mod_lt d1 (show 0 < es.length + 1 by omega); omega
  have hm2 : d2 % (es.length + 1) ≤ w.length := by have := Nat.mod_lt d2 (show 0 < es.length + 1 by omega); omega
  generalize d1 % (es.length + 1) = a1 at hm1 ⊢
  generalize d2 % (es.length + 1) = a2 at hm2 ⊢
  refine ⟨small2, fun p2 np2 => ⟨p2, [((a1 : Nat) : Int), ((a2 : Nat) : Int)], rfl, sL upd_same, (show 2 < 64 by decide), fun ns p3 hp hs np3 => ?_⟩⟩
  obtain ⟨f, k, rfl, hfk, hf, hk⟩ := sort2 hp hs
  have hk' : k ≤ w.length := by omega
  have s2 := sameNew (o := .lst [.int (a1 : Nat), .int (a2 : Nat)]) np2
  have s3 := sameNew (o := .lst ([((f : Nat) : Int), ((k : Nat) : Int)].map V.int)) np3
  refine ⟨p3, _, rfl, sL upd_same, rfl, _, _, rfl, _, _, rfl, rfl, ?_⟩
  have s03 := s2.trans s3
  generalize upd (upd H p2 (.lst [.int (a1 : Nat), .int (a2 : Nat)])) p3 (.lst ([((f : Nat) : Int), ((k : Nat) : Int)].map V.int)) = H3 at s03 ⊢
  clear s2 s3 hp hs np2 np3
  -- cut in two
  obtain ⟨aw, dw, fw, rfl, haw, nw, nwc, nwe⟩ := hw.ents
  refine ⟨_, rfl, aw, dw, fw, rfl, s03 _ _ haw, nwc, _, rfl, _, w, 3, n1, q1, 0, f, rfl, hw.mono s03, Nat.zero_le _, by omega, by omega, fun H4 v4 s4 h4 => ?_⟩
  have s04 := s03.trans s4
  refine ⟨_, rfl, aw, dw, fw, rfl, s04 _ _ haw, nwc, _, rfl, _, rfl, l, es, rfl, .inl (sL (s04 _ _ hl)), _, w, 3, n1, q1, f, es.length, rfl, hw.mono s04, by omega, by omega, by omega, fun H5 v5 s5 h5 => ?_⟩
  refine q_addW (h4.mono s5) h5 (by omega) fun H6 v6 s6 h6 => ⟨small1, fun pF npF => ?_⟩
  rw [le] at h6
  have h6 := h6.cast (cut_two (by omega))
  have s7 := sameNew (o := .lst [v6]) npF
  have s07 := ((s04.trans s5).trans s6).trans s7
  have hF : upd H6 pF (.lst [v6]) pF = some (.lst [v6]) := upd_same
  have nF : H pF = none := by
    cases hh : H pF with
    | none => rfl
    | some o => rw [(((s04.trans s5).trans s6)) _ _ hh] at npF; cases npF
  have h6 := h6.mono s7
  generalize upd H6 pF (.lst [v6]) = H7 at s07 hF h6 ⊢
  clear s7 h4 h5 s4 s5 s6 npF s03
  -- cut in three
  refine ⟨_, rfl, Or.inl ⟨rfl, _, sL hF⟩, ?_⟩
  refine ⟨_, rfl, aw, dw, fw, rfl, s07 _ _ haw, nwc, _, rfl, _, w, 3, n1, q1, 0, f, rfl, hw.mono s07, Nat.zero_le _, by omega, by omega, fun H8 v8 s8 h8 => ?_⟩
  have s08 := s07.trans s8
  refine ⟨_, rfl, aw, dw, fw, rfl, s08 _ _ haw, nwc, _, rfl, _, rfl, _, w, 3, n1, q1, f, k, rfl, hw.mono s08, by omega, by omega, by omega, fun H9 v9 s9 h9 => ?_⟩
  have s09 := s08.trans s9
  refine ⟨_, rfl, aw, dw, fw, rfl, s09 _ _ haw, nwc, _, rfl, _, rfl, l, es, rfl, .inl (sL (s09 _ _ hl)), _, w, 3, n1, q1, k, es.length, rfl, hw.mono s09, by omega, by omega, by omega, fun H10 v10 s10 h10 => ?_⟩
  refine q_addW (h9.mono s10) h10 (by omega) fun H11 v11 s11 h11 => q_addW ((h8.mono s9).mono (s10.trans s11)) h11 (by omega) fun H12 v12 s12 h12 => ?_
  rw [le] at h12
  have h12 := h12.cast (cut_three hfk hk')
  have s712 := (((s8.trans s9).trans s10).trans s11).trans s12
  have hF12 := s712 _ _ hF
  refine ⟨pF, [v6], _, rfl, rfl, hF12, (show 1 < sizeLine by decide), ?_⟩
  have g6 := (h6.mono s712).put (o := .lst ([v6] ++ [v12])) hF12
  have g12 := h12.put (o := .lst ([v6] ++ [v12])) hF12
  have t : Same H (upd H12 pF (.lst ([v6] ++ [v12]))) := samePut (s07.trans s712) nF
  have hF : upd H12 pF (.lst ([v6] ++ [v12])) pF = some (.lst [v6, v12]) := upd_same
  generalize upd H12 pF (.lst ([v6] ++ [v12])) = HX at t hF g6 g12 ⊢
  clear h6 h8 h9 h10 h11 h12 s8 s9 s10 s11 s12 s712 hF12 s07 s08 s09 s04
  -- single entries
  refine ⟨small0, fun pa npa => ?_⟩
  intro x13 dx13 nx13 nd13 ne13
  refine q_W0 npa nx13 nd13 ne13 fun H13 s13 h13 => ⟨rfl, ?_⟩
  clear npa nx13 nd13 ne13
  have t13 := t.trans s13
  refine ⟨_, rfl, l, rfl, ⟨_, sL (t13 _ _ hl)⟩, ?_⟩
  refine for_list (K := g.K) (a := l) (xs := es) (fun i σ H' => ∃ sv x7, σ = [some (.ref aw), some (.ref l), some (.ref ad), some (.int (f : Nat)), some (.int (k : Nat)), some (.ref pF), some sv, x7, none] ∧ Same HX H' ∧ WR g H' sv (w.take i) 3 0 (i + 1)) ⟨.ref x13, _, rfl, s13, (h13.up (by decide)).cast (by rw [List.take_zero])⟩ (fun i σ H' _ x => by obtain ⟨sv, x7, _, sx, _⟩ := x; exact sL ((t.trans sx) _ _ hl)) ?_ ?_
  · rintro i y σ H1 hy ⟨sv, x7, rfl, s1, hsv⟩
    obtain ⟨e, hei, hev⟩ := he.get hy
    have hi : i < w.length := (List.getElem?_eq_some_iff.mp hei).1
    refine ⟨_, rfl, _, rfl, small1, fun pa npa => ?_⟩
    intro x2 dx2 nx2 nd2 ne2
    refine q_W1 (e := e) (hev.mono (t.trans s1)) (hrow.ok e (List.mem_of_getElem? hei)) npa nx2 nd2 ne2 fun H2 s2 h2 => ⟨rfl, ?_⟩
    refine q_addW (hsv.mono s2) (h2.up (Nat.zero_le 3)) (by omega) fun H3 v3 s3 h3 => ?_
    exact ⟨v3, _, rfl, (s1.trans s2).trans s3, h3.cast (by rw [List.take_succ, hei]; rfl)⟩
  rintro σ H14 ⟨sv, x7, rfl, s14, hsv⟩
  have hsv := hsv.cast (w' := w) (by rw [le, List.take_length])
  -- backward
  refine ⟨small0, fun pa npa => ?_⟩
  intro x15 dx15 nx15 nd15 ne15
  refine q_W0 npa nx15 nd15 ne15 fun H15 s15 h15 => ⟨rfl, ?_⟩
  clear npa nx15 nd15 ne15
  have t15 := t.trans (s14.trans s15)
  refine ⟨_, rfl, l, es, rfl, sL (t15 _ _ hl), fun pR npR => ⟨pR, rfl, ⟨_, sL upd_same⟩, ?_⟩⟩
  have s16 := sameNew (o := .lst es.reverse) npR
  have hR : upd H15 pR (.lst es.reverse) pR = some (.lst es.reverse) := upd_same
  have h15 := h15.mono s16
  have hsv := hsv.mono (s15.trans s16)
  have sX := (s14.trans s15).trans s16
  generalize upd H15 pR (.lst es.reverse) = H16 at hR h15 hsv sX ⊢
  clear s16 s15 s14 npR t15 h13 s13 t13
  refine for_list (K := g.K) (a := pR) (xs := es.reverse) (fun i σ H' => ∃ bv x7, σ = [some (.ref aw), some (.ref l), some (.ref ad), some (.int (f : Nat)), some (.int (k : Nat)), some (.ref pF), some sv, x7, some bv] ∧ Same H16 H' ∧ WR g H' bv (w.drop (w.length - i)) 3 0 (i + 1)) ⟨.ref x15, _, rfl, Same.refl _, (h15.up (by decide)).cast (by rw [Nat.sub_zero, List.drop_length])⟩ (fun i σ H' _ x => by obtain ⟨bv, x7, _, sx, _⟩ := x; exact sL (sx _ _ hR)) ?_ ?_
  · rintro i y σ H1 hy ⟨bv, x7, rfl, s1, hbv⟩
    have tt := t.trans (sX.trans s1)
    have hi : i < es.reverse.length := (List.getElem?_eq_some_iff.mp hy).1
    rw [List.length_reverse] at hi
    rw [List.getElem?_reverse hi] at hy
    obtain ⟨e, hei, hev⟩ := he.get hy
    refine ⟨_, rfl, small1, fun pa npa => ?_⟩
    intro x2 dx2 nx2 nd2 ne2
    refine q_W1 (e := e) (hev.mono tt) (hrow.ok e (List.mem_of_getElem? hei)) npa nx2 nd2 ne2 fun H2 s2 h2 => ⟨rfl, _, rfl, ?_⟩
    refine q_addW (h2.up (Nat.zero_le 3)) (hbv.mono s2) (by omega) fun H3 v3 s3 h3 => ?_
    rw [show (1 + (i + 1) : Nat) = i + 1 + 1 by omega] at h3
    refine ⟨v3, _, rfl, (s1.trans s2).trans s3, h3.cast ?_⟩
    have hx : w.length - (i + 1) < w.length := by omega
    rw [List.drop_eq_getElem_cons hx, show w.length - (i + 1) + 1 = w.length - i by omega]
    have : w[w.length - (i + 1)]? = some e := by rw [← hei, le, show w.length - 1 - i = w.length - (i + 1) by omega]
    rw [List.getElem?_eq_getElem hx] at this
    rw [Option.some.inj this]; rfl
  rintro σ H17 ⟨bv, x7, rfl, s17, hbv⟩
  have hbv := hbv.cast (w' := w) (by rw [List.length_reverse, le, Nat.sub_self, List.drop_zero])
  have sX17 := sX.trans s17
  have hsv := hsv.mono s17
  -- the last
  refine ⟨_, rfl, _, rfl, _, rfl, small0, fun pa npa => ?_⟩
  intro x18 dx18 nx18 nd18 ne18
  refine q_W0 npa nx18 nd18 ne18 fun H18 s18 h18 => ⟨rfl, _, rfl, ?_⟩
  clear npa nx18 nd18 ne18
  have t18 := t.trans (sX17.trans s18)
  refine q_mulW (t := 1) (hw.mono t18) (by omega) (by decide) (by omega) fun H19 v19 s19 h19 => ?_
  refine q_addW ((h18.mono s19).up (Nat.zero_le 4)) h19 (by omega) fun H20 v20 s20 h20 => ⟨small0, fun pa npa => ?_⟩
  intro x21 dx21 nx21 nd21 ne21
  refine q_W0 npa nx21 nd21 ne21 fun H21 s21 h21 => ⟨rfl, ?_⟩
  clear npa nx21 nd21 ne21
  refine q_mulW (t := 9) h21 (by decide) (by decide) (Nat.zero_le _) fun H22 v22 s22 h22 => ?_
  refine q_addW (h20.mono (s21.trans s22)) (h22.up (show 1 ≤ 4 by decide)) (by omega) fun H23 v23 s23 h23 => ⟨small3, fun p24 np24 => ?_⟩
  have s24 := sameNew (o := .lst [sv, bv, v23]) np24
  have u := ((((s18.trans s19).trans s20).trans s21).trans s22).trans (s23.trans s24)
  have uX := sX17.trans u
  refine ⟨pF, p24, [v6, v12], [sv, bv, v23], rfl, rfl, uX _ _ hF, upd_same, (show 2 + 3 ≤ sizeLine by decide), fun p25 np25 => ?_⟩
  have s25 := sameNew (o := .lst ([v6, v12] ++ [sv, bv, v23])) np25
  have uY := uX.trans s25
  refine q _ p25 _ (t.trans uY) upd_same fun x hx => ?_
  have h23 := h23.cast (w' := w) (by rw [rp_one, rp_nil, List.nil_append, List.append_nil])
  rcases List.mem_cons.mp hx with rfl | hx
  · exact ⟨_, _, (g6.mono uY).up (by decide)⟩
  rcases List.mem_cons.mp hx with rfl | hx
  · exact ⟨_, _, (g12.mono uY).up (by decide)⟩
  rcases List.mem_cons.mp hx with rfl | hx
  · exact ⟨_, _, (hsv.mono (u.trans s25)).up (by decide)⟩
  rcases List.mem_cons.mp hx with rfl | hx
  · exact ⟨_, _, (hbv.mono (u.trans s25)).up (by decide)⟩
  · rw [List.mem_singleton.mp hx]
    exact ⟨_, _, h23.mono (s24.trans s25)⟩
end
end RH
set_option exponentiation.threshold 256
set_option Elab.async false
set_option linter.all false
set_option maxRecDepth 100000
set_option maxHeartbeats 4000000
set_option exponentiation.threshold 100
namespace RH
open PySem PySem.Spec PyProof.Rows L2
section
variable {g : G} {mg : Str → Option Value} {vs : List V} {H : Hp} {Q : VK} {E : XK}
theorem p_powers_right (T : Txt g mg) {n : Nat} (hn : 20 ≤ n) (h : spPowersRight g vs H Q E) : t_powers_right g n (EndQ Q) (start N_powers_right vs) H := by
  obtain ⟨v1, v2, r, ds, rfl, ⟨l, es, rfl, hl, he⟩, hrow, hlen, ⟨ad, rfl, had⟩, hdl, q⟩ := h
  have hL := LIM_ge
  have le := he.len
  obtain ⟨d1, h1⟩ := DR.get0 (H := H) (a := ad) (ds := ds) 0 (by omega)
  obtain ⟨d2, h2⟩ := DR.get0 (H := H) (a := ad) (ds := ds) 1 (by omega)
  refine ⟨_, rfl, ?_⟩
  intro x dx nx nd ne
  refine q_WordL (vs := [.ref l]) (dvs := []) rfl hl he hrow.ok (by omega) nx nd ne fun H1 s1 hb => ⟨rfl, ?_⟩
  clear nx nd ne
  refine ⟨_, rfl, ad, _, 0, _, rfl, rfl, sL (s1 _ _ had), h1, .inl ⟨_, rfl, nMod (b := 5) (by decide) ?_⟩⟩
  refine ⟨_, rfl, ad, _, 1, _, rfl, rfl, sL (s1 _ _ had), h2, .inl ⟨_, rfl, nMod (b := 5) (by decide) ⟨small2, fun p2 np2 => ⟨p2, _, rfl, sT upd_same, rfl, _, _, rfl, _, _, rfl, rfl, ?_⟩⟩⟩⟩
  obtain ⟨t1, et1⟩ : ∃ t1, d1 % 5 = t1 := ⟨_, rfl⟩
  obtain ⟨t2, et2⟩ : ∃ t2, d2 % 5 = t2 := ⟨_, rfl⟩
  have ht1 : t1 ≤ 4 := by omega
  have ht2 : t2 ≤ 4 := by omega
  rw [et1, et2]
  have s2 := sameNew (o := .tup [.int (t1 : Nat), .int (t2 : Nat)]) np2
  have sA := s1.trans s2
  have hb := hb.mono s2
  generalize upd H1 p2 (.tup [.int (t1 : Nat), .int (t2 : Nat)]) = HA at sA hb ⊢
  clear s1 s2 h1 h2 np2
  have hN : t1 * t2 ≤ 16 := Nat.mul_le_mul ht1 ht2
  have hl1 : ∀ t : Nat, t ≤ 16 → (rp t r).length ≤ 1000 := fun t ht => by rw [rp_len]; exact Nat.le_trans (Nat.mul_le_mul ht hlen) (by decide)
  have big : ∀ t : Nat, t ≤ 1000 → t < 2 ^ 100000 := fun t ht => lim1 (by omega)
  -- four products
  refine ⟨_, rfl, _, rfl, q_mulW hb (by decide) (by omega) (by omega) fun B1 u1 r1 k1 => ⟨_, rfl, q_mulW k1 (by decide) (by omega) (hl1 _ (by omega)) fun B2 u2 r2 k2 => ?_⟩⟩
  have r12 := r1.trans r2
  refine ⟨_, rfl, _, rfl, q_mulW (hb.mono r12) (by decide) (by omega) (by omega) fun B3 u3 r3 k3 => ⟨_, rfl, q_mulW k3 (by decide) (by omega) (hl1 _ (by omega)) fun B4 u4 r4 k4 => ?_⟩⟩
  have r34 := r3.trans r4
  refine ⟨_, rfl, _, rfl, q_mulW (hb.mono (r12.trans r34)) (by decide) (by omega) (by omega) fun B5 u5 r5 k5 => ⟨_, rfl, q_mulW k5 (by decide) (by omega) (hl1 _ (by omega)) fun B6 u6 r6 k6 => ?_⟩⟩
  have r56 := r5.trans r6
  refine ⟨_, rfl, _, rfl, _, rfl, nMul (big _ (by omega)) (big _ (by omega)) (q_mulW (hb.mono ((r12.trans r34).trans r56)) (by decide) (by omega) (by omega) fun B7 u7 r7 k7 => ⟨small4, fun pL npL => ?_⟩)⟩
  have r8 := sameNew (o := .lst [u2, u4, u6, u7]) npL
  rw [rp_mul] at k2 k4 k6
  rw [Nat.mul_comm t2 t1] at k4
  have z : ∀ v ∈ [u2, u4, u6, u7], ∃ nn qq, WR g (upd B7 pL (.lst [u2, u4, u6, u7])) v (rp (t1 * t2) r) 2 nn qq := fun v hv => by
    rcases List.mem_cons.mp hv with rfl | hv
    · exact ⟨_, _, k2.mono (((r34.trans r56).trans r7).trans r8)⟩
    rcases List.mem_cons.mp hv with rfl | hv
    · exact ⟨_, _, k4.mono ((r56.trans r7).trans r8)⟩
    rcases List.mem_cons.mp hv with rfl | hv
    · exact ⟨_, _, k6.mono (r7.trans r8)⟩
    · rw [List.mem_singleton.mp hv]
      exact ⟨_, _, (k7.mono r8).up (by decide)⟩
  have rA := (((r12.trans r34).trans r56).trans r7).trans r8
  have sB := sA.trans rA
  have hb := hb.mono rA
  have hpL : upd B7 pL (.lst [u2, u4, u6, u7]) pL = some (.lst [u2, u4, u6, u7]) := upd_same
  have nL : H pL = none := by
    cases hh : H pL with
    | none => rfl
    | some o => rw [(sA.trans (((r12.trans r34).trans r56).trans r7)) _ _ hh] at npL; cases npL
  generalize upd B7 pL (.lst [u2, u4, u6, u7]) = HB at sB hb z hpL ⊢
  clear rA r8 npL k1 k2 k3 k4 k5 k6 k7 r12 r34 r56 r1 r2 r3 r4 r5 r6 r7 sA
  -- what is left by the ifs
  refine ⟨fun σ' H' => σ' = [some (.ref l), some (.ref ad), some (.ref x), some (.int (t1 : Nat)), some (.int (t2 : Nat)), some (.ref pL), none, none] ∧ Same H H' ∧ WR g H' (.ref x) r 0 0 1 ∧ ∃ xs, H' pL = some (.lst xs) ∧ xs.length ≤ 5 ∧ ∀ v ∈ xs, ∃ nn qq, WR g H' v (rp (t1 * t2) r) 2 nn qq, ⟨_, rfl, nGt (b := 0) ⟨_, rfl, ?_⟩⟩, ?_⟩
  · by_cases h0 : 0 < t2
    · refine yesD h0 ⟨_, rfl, Or.inl ⟨rfl, _, sL hpL⟩, ?_⟩
      have hle : t1 ≤ t1 * t2 := Nat.le_mul_of_pos_right _ h0
      refine ⟨_, rfl, _, rfl, q_mulW hb (by decide) (by omega) (by omega) fun B1 u1 r1 k1 => ⟨_, rfl, _, rfl, _, rfl, nMul (big _ (by omega)) (big _ (by omega)) ⟨_, rfl, nSub hle ?_⟩⟩⟩
      refine q_mulW (hb.mono r1) (by decide) (by omega) (by omega) fun B2 u2' r2 k2 => q_addW (k1.mono r2) k2 (by decide) fun B3 u3' r3 k3 => ?_
      have r13 := (r1.trans r2).trans r3
      have hp3 := r13 _ _ hpL
      refine ⟨pL, _, _, rfl, rfl, hp3, (show 4 < sizeLine by decide), rfl, samePut (sB.trans r13) nL, (hb.mono r13).put hp3, _, upd_same, (show 5 ≤ 5 by decide), fun v hv => ?_⟩
      rcases List.mem_append.mp hv with hv | hv
      · obtain ⟨nn, qq, hz⟩ := z v hv
        exact ⟨_, _, (hz.mono r13).put hp3⟩
      · rw [List.mem_singleton.mp hv]
        refine ⟨_, _, ((k3.put hp3).cast ?_).up (by decide)⟩
        rw [← rp_add, show t1 + (t1 * t2 - t1) = t1 * t2 by omega]
    · exact noD h0 ⟨rfl, sB, hb, _, hpL, (show 4 ≤ 5 by decide), z⟩
  clear z hpL sB hb
  rintro σ H2 ⟨rfl, s2, hb, xs, hpL, hxl, z⟩
  refine ⟨fun σ' H' => σ' = [some (.ref l), some (.ref ad), some (.ref x), some (.int (t1 : Nat)), some (.int (t2 : Nat)), some (.ref pL), none, none] ∧ Same H H' ∧ WR g H' (.ref x) r 0 0 1 ∧ ∃ xs, H' pL = some (.lst xs) ∧ ∀ v ∈ xs, ∃ nn qq, WR g H' v (rp (t1 * t2) r) 2 nn qq, ⟨_, rfl, nGt (b := 1) ⟨_, rfl, ?_⟩⟩, ?_⟩
  · by_cases h0 : 1 < t1
    · refine yesD h0 ⟨_, rfl, Or.inl ⟨rfl, _, sL hpL⟩, ?_⟩
      have hle : 2 * t2 ≤ t1 * t2 := Nat.mul_le_mul_right _ h0
      refine ⟨_, rfl, _, rfl, q_addW hb hb (by decide) fun B0 u0 r0 k0 => ⟨_, rfl, q_mulW k0 (by decide) (by omega) (by rw [List.length_append]; omega) fun B1 u1 r1 k1 => ⟨_, rfl, _, rfl, _, rfl, nMul (big _ (by omega)) (big _ (by omega)) ⟨_, rfl, nMul (a := 2) (big _ (by decide)) (big _ (by omega)) (nSub hle ?_)⟩⟩⟩⟩
      refine q_mulW (hb.mono (r0.trans r1)) (by decide) (by omega) (by omega) fun B2 u2' r2 k2 => q_addW (k1.mono r2) k2 (by decide) fun B3 u3' r3 k3 => ?_
      have r13 := ((r0.trans r1).trans r2).trans r3
      have hp3 := r13 _ _ hpL
      refine ⟨pL, _, _, rfl, rfl, hp3, Nat.lt_of_le_of_lt hxl (by decide), rfl, samePut (s2.trans r13) nL, (hb.mono r13).put hp3, _, upd_same, fun v hv => ?_⟩
      rcases List.mem_append.mp hv with hv | hv
      · obtain ⟨nn, qq, hz⟩ := z v hv
        exact ⟨_, _, (hz.mono r13).put hp3⟩
      · rw [List.mem_singleton.mp hv]
        refine ⟨_, _, ((k3.put hp3).cast ?_).up (by decide)⟩
        have e2 : r ++ r = rp 2 r := by rw [show (2 : Nat) = 1 + 1 from rfl, rp_add, rp_one]
        rw [e2, rp_mul, ← rp_add, show 2 * t2 + (t1 * t2 - 2 * t2) = t1 * t2 by omega]
    · exact noD h0 ⟨rfl, s2, hb, _, hpL, z⟩
  clear z hpL s2 hb
  rintro σ H3 ⟨rfl, s3, hb, xs, hpL, z⟩
  have hlr3 : LR H3 (.ref l) r := ⟨l, es, rfl, s3 _ _ hl, he.mono s3⟩
  -- all are equal
  refine ⟨_, rfl, pL, rfl, ⟨_, sL hpL⟩, fun D nD => ?_⟩
  refine lc_list (K := g.K) (a := pL) (xs := xs) (fun i H' => Same H3 H' ∧ H' D = some (.lst [])) ⟨sameNew nD, upd_same⟩ (fun i H' _ y => sL (y.1 _ _ hpL)) ?_ ?_
  · rintro i y H4 hy ⟨s4, hD⟩
    obtain ⟨nn, qq, hz⟩ := z y (List.mem_of_getElem? hy)
    refine ⟨rfl, ⟨_, rfl, _, rfl, _, rfl, _, rfl, nMul (big _ (by omega)) (big _ (by omega)) (q_repL (hlr3.mono s4) (by omega) (by omega) fun p5 H5 s5 h5 => ?_)⟩⟩
    intro x' dx' nx' nd' ne'
    obtain ⟨_, es5, ee, hl5, he5⟩ := h5
    cases ee
    refine q_WordL (vs := [.ref p5]) (dvs := []) rfl hl5 he5 (hrow.rp _).ok (by have := hl1 (t1 * t2) (by omega); omega) nx' nd' ne' fun H6 s6 hx' => ⟨rfl, ?_⟩
    have s46 := s5.trans s6
    have hz := hz.mono (s4.trans s46)
    obtain ⟨ay, dy, fy, rfl, hay, _⟩ := hz.ents
    obtain ⟨_, dx9, f9, ee, hax, _⟩ := hx'.ents
    cases ee
    have := hl1 (t1 * t2) (by omega)
    refine ⟨ay, dy, fy, x', dx9, f9, rfl, rfl, hay, hax, _, _, _, _, _, _, _, _, _, _, rfl, hz, hx', by omega, by omega, by omega, fun H7 s7 => ⟨_, rfl, _, rfl, no (by rw [decide_eq_true rfl]; rfl) ⟨(s4.trans s46).trans s7, s7 _ _ (s46 _ _ hD)⟩⟩⟩
  rintro H4 ⟨s4, hD⟩
  refine ⟨small0, fun p9 np9 => ?_⟩
  have s9 := sameNew (o := .lst []) np9
  refine q_neL (w1 := []) (w2 := []) ⟨D, [], rfl, s9 _ _ hD, trivial⟩ ⟨p9, [], rfl, upd_same, trivial⟩ ⟨_, rfl, no (by rw [decide_eq_true rfl]; rfl) ?_⟩
  have s39 := s4.trans s9
  generalize upd H4 p9 (.lst []) = H5 at s39
  clear nD hD s4 s9 np9
  -- one more
  refine ⟨_, rfl, _, rfl, _, rfl, nMul (big _ (by omega)) (big _ (by omega)) (nAdd (b := 1) (q_mulW (hb.mono s39) (by decide) (by omega) (by omega) fun H6 v6 s6 h6 => ?_))⟩
  have s36 := s39.trans s6
  have s06 := s3.trans s36
  refine ⟨_, rfl, small0, fun p7 np7 => ?_⟩
  have s7 := sameNew (o := .lst []) np7
  refine q_eqL (w2 := []) ((hlr3.mono s36).mono s7) ⟨p7, [], rfl, upd_same, trivial⟩ ⟨_, rfl, ?_⟩
  by_cases hr0 : r = []
  · rw [decide_eq_true hr0]
    exact iteT (q _ (s06.trans s7))
  rw [decide_eq_false hr0]
  have s37 := s36.trans s7
  have h6 := h6.mono s7
  generalize upd H6 p7 (.lst []) = H7 at s37 h6
  clear np7 s7
  have hrp : 0 < r.length := List.length_pos_iff.mpr hr0
  refine iteF ⟨_, rfl, pL, rfl, ⟨_, sL (s37 _ _ hpL)⟩, fun D nD => ?_⟩
  refine lc_list (K := g.K) (a := pL) (xs := xs) (fun i H' => Same H7 H' ∧ H' D = some (.lst [])) ⟨sameNew nD, upd_same⟩ (fun i H' _ y => sL ((s37.trans y.1) _ _ hpL)) ?_ ?_
  · rintro i y H8 hy ⟨s8, hD⟩
    obtain ⟨nn, qq, hz⟩ := z y (List.mem_of_getElem? hy)
    have hz := hz.mono (s37.trans s8)
    have h6 := h6.mono s8
    obtain ⟨ay, dy, fy, rfl, hay, _⟩ := hz.ents
    obtain ⟨a6, dx6, f6, rfl, ha6, _⟩ := h6.ents
    have l1 := hl1 (t1 * t2) (by omega)
    have l2 : (rp (t1 * t2 + 1) r).length ≤ 1000 := by rw [rp_len]; exact Nat.le_trans (Nat.mul_le_mul (show t1 * t2 + 1 ≤ 17 by omega) hlen) (by decide)
    refine ⟨rfl, ⟨_, rfl, _, rfl, ay, dy, fy, a6, dx6, f6, rfl, rfl, hay, ha6, _, _, _, _, _, _, _, _, _, _, rfl, hz, h6, by omega, by omega, by omega, fun H9 s9 => ⟨_, rfl, noD (fun e => ?_) ⟨s8.trans s9, s9 _ _ hD⟩⟩⟩⟩
    have := congrArg List.length e
    rw [rp_len, rp_len, Nat.add_mul, Nat.one_mul] at this
    omega
  rintro H8 ⟨s8, hD⟩
  refine ⟨small0, fun p9 np9 => ?_⟩
  have s9 := sameNew (o := .lst []) np9
  exact q_eqL (w1 := []) (w2 := []) ⟨D, [], rfl, s9 _ _ hD, trivial⟩ ⟨p9, [], rfl, upd_same, trivial⟩ (q _ (s3.trans (s37.trans (s8.trans s9))))
end
end RH
set_option exponentiation.threshold 256
set_option Elab.async false
set_option linter.all false
set_option maxRecDepth 100000
set_option maxHeartbeats 4000000
set_option exponentiation.threshold 100
namespace RH
open PySem PySem.Spec PyProof.Rows L2
theorem UnV.keeps {C : Addr} {H H' : Hp} (s : Keeps H H') {u : UD} {v : V} (h : UnV C H u v) : UnV C H' u v := by
  unfold UnV at h ⊢
  cases e : u.s with
  | none => rw [e] at h; obtain ⟨h1, x, h2, h3⟩ := h; exact ⟨h1, x, h2, h3.keeps s⟩
  | some dz => rw [e] at h; exact ⟨h.1, h.2.keeps s⟩
theorem UR.keeps {C : Addr} {H H' : Hp} (s : Keeps H H') : ∀ {us : List UD} {v : V}, UR C H us v → UR C H' us v
  | [], _, h => h
  | _ :: _, _, ⟨a, uv, r, h1, h2, h3, h4⟩ => ⟨a, uv, r, h1, s.tup _ _ h2, h3.keeps s, UR.keeps s h4⟩
theorem keeps_lst {H : Hp} {a : Addr} {es : List V} {o : HO} (h : H a = some (.lst es)) : Keeps H (upd H a o) where
  tup := fun b xs e => by rw [upd_ne (ne_of e h (fun z => by cases z))]; exact e
  prt := fun b C' dx' l lv rv t tf w e => by rw [upd_ne (ne_of e h (fun z => by cases z))]; exact e
section
variable {g : G} {mg : Str → Option Value} {vs : List V} {H : Hp} {Q : VK} {E : XK}
theorem p_cut (T : Txt g mg) (h : spCut g vs H Q E) : t_cut g (EndQ Q) (start N_cut vs) H := by
  obtain ⟨v, w, d, n, q', f, l, rfl, hw, hfl, hl, hlim, q⟩ := h
  obtain ⟨a1, dx1, fs1, p1, z1, rfl, ha1, hf1, hp1⟩ := hw
  have l1 := wf_part hf1
  refine ⟨_, rfl, ?_⟩
  refine q_wide T hp1 (fun R r => ⟨_, rfl, a1, _, dx1, fs1, p1, rfl, ha1, T.word, T.w_part, l1.1, r⟩) ⟨(f : Int), 0, (w.length : Int), rfl, by omega, by omega, ?_⟩
  refine ⟨_, rfl, _, rfl, ?_⟩
  refine q_wide T hp1 (fun R r => ⟨_, rfl, a1, _, dx1, fs1, p1, rfl, ha1, T.word, T.w_part, l1.1, r⟩) ⟨(l : Int), (f : Int), (w.length : Int), rfl, by omega, by omega, ?_⟩
  refine ⟨_, rfl, a1, _, dx1, fs1, _, rfl, ha1, T.word, T.w_part, l1.1, small3, fun pa npa => ?_⟩
  have sa : Same H (upd H pa (.tup [p1, .int 1, .non])) := sameNew npa
  refine ⟨_, rfl, _, [⟨w, 1, some (d, z1)⟩], f, rfl, fun hp => ⟨ur_one upd_same (len_ne (by omega)) (hp1.mono sa), by rw [den_one]; omega, sm_one hlim⟩, fun H2 vb us2 s2 e0 e1 => ?_⟩
  have f1 : 0 < w.length → UR g.part H2 us2 vb ∧ den us2 = w.drop f ∧ (∀ u ∈ us2, udp u ≤ d) ∧ Sm us2 := fun hp => by
    by_cases hf0 : f = 0
    · obtain ⟨rfl, rfl⟩ := e0 hf0
      exact ⟨(ur_one upd_same (len_ne hp) (hp1.mono sa)).mono s2, by rw [den_one, hf0, List.drop_zero], udp_one, sm_one hlim⟩
    · obtain ⟨x1, x2, x3, x4⟩ := e1 (Nat.pos_of_ne_zero hf0)
      exact ⟨x1, by rw [x2, den_one], x3 d udp_one, x4⟩
  have s12 := sa.trans s2
  refine ⟨_, rfl, _, rfl, nSub hfl ⟨vb, us2, l - f, d, rfl, fun hm => ?_, fun H3 v3 z3 s3 hv3 => ?_⟩⟩
  · obtain ⟨x1, x2, x3, x4⟩ := f1 (by omega)
    exact ⟨x1, by rw [x2, List.length_drop]; omega, x4, x3⟩
  have s13 := s12.trans s3
  refine ⟨_, rfl, a1, _, dx1, fs1, _, rfl, s13 _ _ ha1, T.word, T.w_nesting, l1.2.1, _, rfl, a1, _, dx1, fs1, _, rfl, s13 _ _ ha1, T.word, T.w_pieces, l1.2.2.1, ?_⟩
  intro x dx nx nd ne
  refine q_MadeR (vs := [v3, .int (n : Nat), .int (q' : Nat)]) (dvs := []) rfl nx nd ne fun H4 s4 hx => ⟨rfl, ?_⟩
  intro y dy ny nyd nye
  refine q_WordM (vs := [.ref x]) (dvs := []) rfl hx ny nyd nye fun H5 s5 hy => ⟨rfl, ?_⟩
  refine q H5 _ ((s13.trans s4).trans s5) ⟨y, dy, _, v3, z3, rfl, hy, .inl rfl, ?_⟩
  have hv3 := hv3.mono (s4.trans s5)
  by_cases hm : l - f = 0
  · rw [hm, List.take_zero] at hv3 ⊢
    exact hv3
  · rw [(f1 (by omega)).2.1] at hv3
    exact hv3
/-- the loop of entries -/
def EntW (g : G) (H : Hp) (v : V) (D : Addr) (w : List Ent) (d l : Nat) (fv lv : V) (n : Nat) (σ : L2.St) (H' : Hp) : Prop :=
  ∃ us vu es R x5 x6 x7, σ = [some v, some fv, some lv, some (.ref D), some vu, x5, x6, x7] ∧ Same H H' ∧ H' D = some (.lst es) ∧ es.length ≤ l ∧ EntsV H' (w.take es.length) es ∧ R ≤ 2 * d ∧
    (es.length < l → UR g.part H' us vu ∧ den us = w.drop es.length ∧ (∀ m, Rk (2 * d) us m) ∧ Rk R us 1) ∧ n = (l - es.length) * (2 * d + 1) + R
theorem p_entries (T : Txt g mg) (h : spEntries g vs H Q E) : t_entries g (EndQ Q) (start N_entries vs) H := by
  obtain ⟨v, w, d, n, q', f, l, rfl, hw, hfl, hl, hl1000, hlim, q⟩ := h
  obtain ⟨a1, dx1, fs1, p1, z1, rfl, ha1, hf1, hp1⟩ := hw
  have l1 := wf_part hf1
  refine ⟨_, rfl, ?_⟩
  refine q_wide T hp1 (fun R r => ⟨_, rfl, a1, _, dx1, fs1, p1, rfl, ha1, T.word, T.w_part, l1.1, r⟩) ⟨(f : Int), 0, (w.length : Int), rfl, by omega, by omega, ?_⟩
  refine ⟨_, rfl, _, rfl, ?_⟩
  refine q_wide T hp1 (fun R r => ⟨_, rfl, a1, _, dx1, fs1, p1, rfl, ha1, T.word, T.w_part, l1.1, r⟩) ⟨_, rfl, nAdd (b := 1000) (nMin2 ⟨(l : Int), (f : Int), ((min w.length (f + 1000) : Nat) : Int), rfl, by omega, by omega, ?_⟩)⟩
  refine ⟨small0, fun D nD => ?_⟩
  have sD : Same H (upd H D (.lst [])) := sameNew nD
  refine ⟨_, rfl, a1, _, dx1, fs1, _, rfl, sD _ _ ha1, T.word, T.w_part, l1.1, small3, fun pa npa => ?_⟩
  have sa := sD.trans (sameNew (o := .tup [p1, .int 1, .non]) npa)
  refine ⟨_, rfl, _, [⟨w, 1, some (d, z1)⟩], f, rfl, fun hp => ⟨ur_one upd_same (len_ne (by omega)) (hp1.mono sa), by rw [den_one]; omega, sm_one hlim⟩, fun H2 vb us2 s2 e0 e1 => ?_⟩
  have f1 : 0 < w.length → UR g.part H2 us2 vb ∧ den us2 = w.drop f ∧ (∀ u ∈ us2, udp u ≤ d) ∧ Sm us2 := fun hp => by
    by_cases hf0 : f = 0
    · obtain ⟨rfl, rfl⟩ := e0 hf0
      exact ⟨(ur_one upd_same (len_ne hp) (hp1.mono sa)).mono s2, by rw [den_one, hf0, List.drop_zero], udp_one, sm_one hlim⟩
    · obtain ⟨x1, x2, x3, x4⟩ := e1 (Nat.pos_of_ne_zero hf0)
      exact ⟨x1, by rw [x2, den_one], x3 d udp_one, x4⟩
  have s12 := sa.trans s2
  have hD2 : H2 D = some (.lst []) := s2 _ _ ((sameNew npa) _ _ upd_same)
  refine ⟨EntW g H (.ref a1) D (w.drop f) d (l - f) (.int (f : Nat)) (.int (l : Nat)), ⟨_, us2, vb, [], 2 * d, none, none, none, rfl, s12, hD2, Nat.zero_le _, trivial, Nat.le_refl _, fun hlt => ?_, rfl⟩, ?_⟩
  · obtain ⟨x1, x2, x3, x4⟩ := f1 (by have : ([] : List V).length = 0 := rfl; omega)
    exact ⟨x1, x2, fun m => Rk.of_udp x3, Rk.of_udp x3⟩
  rintro n σ H3 ⟨us, vu, es, R, x5, x6, x7, rfl, s3, hD3, hel, hee, hR, hrest, rfl⟩
  refine ⟨_, rfl, D, es, rfl, .inl (sL hD3), _, rfl, _, rfl, nSub hfl (nLt ⟨_, rfl, ?_⟩)⟩
  by_cases hlt : es.length < l - f
  · obtain ⟨hu, hden, hrk, hr1⟩ := hrest hlt
    refine yesD hlt ⟨fun σ' H' => ∃ n', n' < (l - f - es.length) * (2 * d + 1) + R ∧ EntW g H (.ref a1) D (w.drop f) d (l - f) (.int (f : Nat)) (.int (l : Nat)) n' σ' H', fun _ _ x => x, ?_⟩
    have hdl : 0 < (den us).length := by rw [hden, List.length_drop, List.length_drop]; omega
    refine ⟨_, rfl, vu, us, rfl, hu, fun h0 => absurd (congrArg List.length h0) (by show ¬ _ = 0; omega), fun H4 v4 u us4 s4 hu4 hden4 ht hpt hrk4 hsm4 _ => ?_⟩
    obtain ⟨p, uv, r, rfl, hpp, huv, hr⟩ := hu4
    refine ⟨p, _, rfl, sT hpp, rfl, _, _, rfl, _, _, rfl, _, _, rfl, rfl, ?_⟩
    refine ⟨_, rfl, _, rfl, nSub (b := 1) ht ⟨_, rfl, small3, fun p5 np5 => ?_⟩⟩
    have s5 := sameNew (o := .tup [uv, .int ((u.t - 1 : Nat) : Int), r]) np5
    have hk4 : ∀ m, Rk (2 * d) (u :: us4) m := fun m => hrk4 _ _ (hrk m)
    have hh4 : Rk R (u :: us4) 1 := hrk4 _ _ hr1
    have hwp := huv.pos
    have hD5 := s5 _ _ (s4 _ _ hD3)
    refine q_isU T (u := u) rfl (huv.mono s5) ?_
    cases hs : u.s with
    | none =>
      have huv' := huv
      unfold UnV at huv'
      rw [hs] at huv'
      obtain ⟨ht1, e, hwe, hev⟩ := huv'
      have ht1 : u.t = 1 := by omega
      refine iteT ⟨_, rfl, Or.inl ⟨rfl, _, sL hD5⟩, _, rfl, D, _, _, rfl, rfl, hD5, Nat.lt_of_lt_of_le (show es.length < 1000 by omega) (by decide), ?_⟩
      have kp : Keeps (upd H4 p5 (.tup [uv, .int ((u.t - 1 : Nat) : Int), r])) (upd (upd H4 p5 (.tup [uv, .int ((u.t - 1 : Nat) : Int), r])) D (.lst (es ++ [uv]))) := keeps_lst hD5
      have hdr : (w.drop f).drop es.length = e :: den us4 := by rw [← hden, ← hden4, den_cons, ht1, rp_one, hwe]; rfl
      have hlen1 : (es ++ [uv]).length = es.length + 1 := by rw [List.length_append]; rfl
      refine ⟨(l - f - (es.length + 1)) * (2 * d + 1) + 2 * d, ?_, ⟨u.w, u.t - 1, u.s⟩ :: us4, .ref p5, es ++ [uv], 2 * d, _, _, _, rfl, samePut ((s3.trans s4).trans s5) nD, upd_same, by omega, ?_, Nat.le_refl _, fun _ => ⟨?_, ?_, ?_, ?_⟩, by rw [hlen1]⟩
      · have e1 : l - f - es.length = (l - f - (es.length + 1)) + 1 := by omega
        rw [e1, Nat.add_mul, Nat.one_mul]
        omega
      · rw [hlen1, List.take_succ]
        have : (w.drop f)[es.length]? = some e := by
          have := congrArg List.head? hdr
          rwa [List.head?_drop] at this
        rw [this]
        exact ((hee.mono (s4.trans s5)).append (show EntsV _ [e] [uv] from ⟨hev.mono s5, trivial⟩)).keeps kp
      · exact UR.keeps kp ⟨p5, uv, r, rfl, upd_same, (huv.times (by omega)).mono s5, hr.mono s5⟩
      · rw [hlen1, den_zero (u := ⟨u.w, u.t - 1, u.s⟩) (by show u.t - 1 = 0; omega), ← List.drop_drop, hdr]; rfl
      · intro m
        refine Rk.cons ?_ ?_
        · unfold rkm; rw [hs]; exact Nat.zero_le _
        · have := (hk4 (m + 1)).tail
          rw [ht1, hwe] at this
          show Rk _ us4 (m - (u.t - 1) * u.w.length)
          rw [ht1]
          simpa using this
      · refine Rk.cons ?_ ?_
        · unfold rkm; rw [hs]; exact Nat.zero_le _
        · have := (hk4 (1 + 1)).tail
          rw [ht1, hwe] at this
          show Rk _ us4 (1 - (u.t - 1) * u.w.length)
          rw [ht1]
          simpa using this
    | some dz =>
      obtain ⟨dd, z⟩ := dz
      have ht2 : 2 ≤ u.t := hpt (by rw [hs]; exact fun z => nomatch z)
      have hrkm : 2 * dd + 1 ≤ rkm u 1 := by
        unfold rkm; rw [hs]
        show 2 * dd + 1 ≤ (if u.t = 0 then 0 else if u.t = 1 then 2 * dd else if 1 ≤ u.w.length then 2 * dd + 1 else 2 * dd + 2)
        rw [if_neg (by omega), if_neg (by omega)]
        split <;> omega
      have hRR := Nat.le_trans hrkm (hh4.head (by decide))
      have hRd : 2 * dd + 1 ≤ 2 * d := Nat.le_trans hrkm ((hk4 1).head (by decide))
      refine iteF ⟨_, rfl, _, rfl, uv, .ref p5, u.w, dd, z, ⟨u.w, u.t - 1, u.s⟩ :: us4, rfl, (huv.part hs).mono s5, ⟨p5, uv, r, rfl, upd_same, (huv.times (by omega)).mono s5, hr.mono s5⟩, fun H6 v6 cs s6 hu6 o => ?_⟩
      have s46 := (s4.trans s5).trans s6
      have hcs : (den cs).length = u.w.length := by rw [o.den]
      have hrx : ∀ c ∈ cs, rkx c ≤ 2 * dd := fun c hc => by rw [rkx_udp]; have := o.udp c hc; omega
      refine ⟨(l - f - es.length) * (2 * d + 1) + 2 * dd, by omega, cs ++ ⟨u.w, u.t - 1, u.s⟩ :: us4, v6, es, 2 * dd, _, _, _, rfl, s3.trans s46, s6 _ _ hD5, hel, hee.mono s46, by omega, fun _ => ⟨hu6, ?_, fun m => ?_, ?_⟩, rfl⟩
      · rw [den_append, o.den, den_cons, ← hden, ← hden4, den_cons, ← List.append_assoc]
        congr 1
        rw [show u.t = (u.t - 1) + 1 by omega, rp_succ]; rfl
      · refine Rk.front (fun c hc => Nat.le_trans (hrx c hc) (by omega)) ?_
        rw [hcs]
        have := (hk4 m).less (n := 1) (by omega)
        rwa [Nat.one_mul] at this
      · refine Rk.front hrx ?_
        rw [hcs, show 1 - u.w.length = 0 by omega]
        exact Rk.zero
  · refine noD hlt ⟨_, rfl, q H3 _ s3 ⟨D, es, rfl, hD3, ?_⟩ (fun _ z => by cases z; exact nD)⟩
    have e : es.length = l - f := by omega
    rwa [e] at hee
theorem p_getitem (T : Txt g mg) (h : spGetItem g vs H Q E) : t_getitem g (EndQ Q) (start N_getitem vs) H := by
  obtain ⟨v, w, d, n, q', i, e, rfl, hw, he, hlim, q⟩ := h
  have hw0 := hw
  obtain ⟨a1, dx1, fs1, p1, z1, rfl, ha1, hf1, hp1⟩ := hw
  have l1 := wf_part hf1
  have hi := (List.getElem?_eq_some_iff.mp he).1
  refine ⟨_, rfl, ?_⟩
  refine q_wide T hp1 (fun R r => ⟨_, rfl, a1, _, dx1, fs1, p1, rfl, ha1, T.word, T.w_part, l1.1, r⟩) (nSub (b := 1) (by omega) ⟨(i : Int), 0, ((w.length - 1 : Nat) : Int), rfl, by omega, by omega, ?_⟩)
  have hne : fs1.lookup ("entries" : Str) = none := by rcases hf1 with rfl | rfl <;> rfl
  refine ⟨_, rfl, a1, dx1, fs1, rfl, ha1, hne, _, rfl, _, rfl, nAdd (b := 1) ⟨_, w, d, n, q', i, i + 1, rfl, hw0, by omega, by omega, by omega, hlim, fun H2 v2 s2 h2 _ => ?_⟩⟩
  obtain ⟨b, es, rfl, hb, hes⟩ := h2
  have e1 : (w.drop i).take (i + 1 - i) = [e] := by
    rw [show i + 1 - i = 1 by omega, List.take_one, List.head?_drop, he]; rfl
  rw [e1] at hes
  match es, hes with
  | [x], hx => exact ⟨b, _, 0, x, rfl, rfl, sL hb, rfl, q H2 x s2 hx.1⟩
end
end RH
set_option exponentiation.threshold 256
set_option Elab.async false
set_option linter.all false
set_option maxRecDepth 100000
set_option maxHeartbeats 4000000
set_option exponentiation.threshold 100
namespace RH
open PySem PySem.Spec PyProof.Rows L2
theorem step5 {w : List Ent} (i : Nat) : w.take (5 * i) ++ (w.drop (5 * i)).take (5 * i + 5 - 5 * i) = w.take (5 * (i + 1)) := by
  rw [show 5 * i + 5 - 5 * i = 5 by omega, show 5 * (i + 1) = 5 * i + 5 by omega, List.take_add]
theorem back5 {w : List Ent} {i : Nat} (h : w.length = 2000) (hi : i < 400) : (w.drop (1995 - 5 * i)).take (2000 - 5 * i - (1995 - 5 * i)) ++ w.drop (2000 - 5 * i) = w.drop (2000 - 5 * (i + 1)) := by
  have e : w.drop (2000 - 5 * i) = (w.drop (1995 - 5 * i)).drop 5 := by rw [List.drop_drop, show 1995 - 5 * i + 5 = 2000 - 5 * i by omega]
  rw [e, show 2000 - 5 * i - (1995 - 5 * i) = 5 by omega, List.take_append_drop, show 2000 - 5 * (i + 1) = 1995 - 5 * i by omega]
section
variable {g : G} {mg : Str → Option Value} {vs : List V} {H : Hp} {Q : VK} {E : XK}
/-- Word(list) -/
theorem q_WL {R : VK} {v : V} {l x dx : Addr} {w : List Ent} (h : LR H v w) (ev : v = .ref l) (hr : isRow w) (hz : w.length ≤ 1000000) (nx : H x = none) (nd : H dx = none) (ne : dx ≠ x) (k : ∀ H', Same H H' → WR g H' (.ref x) w 0 0 1 → R .non H') :
    spWordInit g (.ref x :: ([.ref l] ++ [])) (upd (upd H dx (.own x)) x (.ins g.word dx [])) R E0 := by
  obtain ⟨a, es, e, ha, he⟩ := h
  rw [ev] at e
  cases e
  exact q_WordL (vs := [.ref l]) (dvs := []) rfl ha he hr.ok hz nx nd ne k
theorem q_neW {n : Nat} {v1 v2 : V} {w1 w2 : List Ent} {d1 n1 q1 d2 n2 q2 : Nat} {R : VK} (h1 : WR g H v1 w1 d1 n1 q1) (h2 : WR g H v2 w2 d2 n2 q2) (l1 : w1.length < LIM) (l2 : w2.length < LIM) (hd : 2 * d1 + 2 * d2 ≤ n) (q : ∀ H', Same H H' → R (.bl (!decide (w1 = w2))) H') : rNeO g.word (spWordEq g n) E0 v1 v2 H R := by
  obtain ⟨a, dx, fs, rfl, ha, _⟩ := h1.ents
  obtain ⟨b, dy, gs, rfl, hb, _⟩ := h2.ents
  exact ⟨a, dx, fs, b, dy, gs, rfl, rfl, ha, hb, _, _, _, _, _, _, _, _, _, _, rfl, h1, h2, l1, l2, hd, fun H' s => ⟨_, rfl, q H' s⟩⟩
theorem agr_none {w1 w2 : List Ent} {k : Nat} {b : V} (h : Agr w1 w2 (min w1.length w2.length) k) (e : w1 = w2) : (if k = w1.length ∧ w1.length = w2.length then V.non else b) = .non := if_pos ((agr_all h).mpr e)
theorem p_long_right (T : Txt g mg) {n : Nat} (hn : 20 ≤ n) (h : spLongRight g vs H Q E) : t_long_right g n (EndQ Q) (start N_long_right vs) H := by
  obtain ⟨v, ds, rfl, ⟨ad, rfl, had⟩, hdl, q⟩ := h
  have hL := LIM_ge
  have big : ∀ t : Nat, t ≤ 10000 → t < 2 ^ 100000 := fun t ht => lim1 (by omega)
  -- the row
  refine ⟨_, rfl, by decide, by decide, fun D nD => ?_⟩
  refine lc_range (lo := 0) (n := 2000) (fun i H' => Same H H' ∧ ∃ es w, H' D = some (.lst es) ∧ EntsV H' w es ∧ isRow w ∧ w.length = i) ⟨sameNew nD, [], [], upd_same, trivial, fun _ z => absurd z List.not_mem_nil, rfl⟩ ?_ ?_
  · rintro i H1 hi ⟨s1, es, w, hD, he, hr, hlen⟩
    rw [show (0 : Int) + ((i : Nat) : Int) = ((i : Nat) : Int) by omega]
    obtain ⟨d, hd⟩ := DR.get0 (H := H) (a := ad) (ds := ds) (i % 13) (by rw [hdl]; exact Nat.mod_lt _ (by decide))
    refine ⟨rfl, q_yes (yes rfl ⟨_, rfl, _, rfl, .inl ⟨_, rfl, nMod (b := 13) (by decide) ⟨ad, _, _, _, rfl, rfl, sL (s1 _ _ had), hd, _, rfl, .inl ⟨_, rfl, nMod (b := 7) (by decide) (nAdd (a := 1) (nDiv (by omega) (by omega) ⟨_, rfl, nDiv (b := 97) (by decide) (by omega) (nAdd ?_)⟩))⟩⟩⟩⟩)⟩
    refine ⟨_, rfl, fun H2 v2 s2 h2 => ⟨es, s2 _ _ hD, ?_, samePut (s1.trans s2) nD, es ++ [v2], w ++ [ent4 (d / (1 + i % 7) + i / 97)], upd_same, ?_, hr.push, by rw [List.length_append, hlen]; rfl⟩⟩
    · rw [he.len, hlen]
      exact Nat.lt_of_lt_of_le hi (by decide)
    · exact ((he.mono s2).append (show EntsV H2 [_] [v2] from ⟨h2, trivial⟩)).keeps (keeps_list (s2 _ _ hD))
  rintro H1 ⟨s1, es, w, hD, he, hr, hlen⟩
  have hlr : LR H1 (.ref D) w := ⟨D, es, rfl, hD, he⟩
  -- two empty words
  refine ⟨small0, fun pa npa => ?_⟩
  intro x2 dx2 nx2 nd2 ne2
  refine q_W0 npa nx2 nd2 ne2 fun H2 s2 h2 => ⟨rfl, small0, fun pb npb => ?_⟩
  intro x3 dx3 nx3 nd3 ne3
  refine q_W0 npb nx3 nd3 ne3 fun H3 s3 h3 => ⟨rfl, _, _, rfl, ?_⟩
  have s13 := s2.trans s3
  have h2 := h2.mono s3
  clear npa nx2 nd2 ne2 npb nx3 nd3 ne3 s2 s3
  -- piece by piece
  refine ⟨400, rfl, by decide, by decide, ?_⟩
  refine for_range (lo := 0) (n := 400) (fun i σ H' => ∃ fv bv x4, σ = [some (.ref ad), some (.ref D), some fv, some bv, x4, none] ∧ Same H1 H' ∧ WR g H' fv (w.take (5 * i)) 0 0 (i + 1) ∧ WR g H' bv (w.drop (2000 - 5 * i)) 0 0 (i + 1)) ⟨_, _, _, rfl, s13, h2.cast (by rw [Nat.mul_zero, List.take_zero]), h3.cast (by rw [List.drop_eq_nil_of_le (by omega)])⟩ ?_ ?_
  · rintro i σ H4 hi ⟨fv, bv, x4, rfl, s4, hf, hb⟩
    have hi : i < 400 := hi
    rw [show (0 : Int) + ((i : Nat) : Int) = ((i : Nat) : Int) by omega]
    refine ⟨_, rfl, _, rfl, _, rfl, nMul (a := 5) (big _ (by decide)) (big _ (by omega)) ⟨_, rfl, _, rfl, nMul (a := 5) (big _ (by decide)) (big _ (by omega)) (nAdd (b := 5) ⟨_, rfl, q_slE (hlr.mono s4) (by omega) fun p5 H5 np5 s5 h5 => ?_⟩)⟩⟩
    intro x6 dx6 nx6 nd6 ne6
    refine q_WL h5 rfl ((hr.drop _).take _) (by rw [List.length_take, List.length_drop]; omega) nx6 nd6 ne6 fun H6 s6 h6 => ⟨rfl, ?_⟩
    have s46 := s5.trans s6
    refine q_addW (hf.mono s46) h6 (by omega) fun H7 v7 s7 h7 => ?_
    have s47 := s46.trans s7
    have s17 := s4.trans s47
    refine ⟨_, rfl, _, rfl, nMul (a := 5) (big _ (by decide)) (big _ (by omega)) (nSub (a := 1995) (by omega) ⟨_, rfl, _, rfl, nMul (a := 5) (big _ (by decide)) (big _ (by omega)) (nSub (a := 2000) (by omega) ⟨_, rfl, q_slE (hlr.mono s17) (by omega) fun p8 H8 np8 s8 h8 => ?_⟩)⟩)⟩
    intro x9 dx9 nx9 nd9 ne9
    refine q_WL h8 rfl ((hr.drop _).take _) (by rw [List.length_take, List.length_drop]; omega) nx9 nd9 ne9 fun H9 s9 h9 => ⟨rfl, _, rfl, ?_⟩
    have s79 := s8.trans s9
    refine q_addW h9 (hb.mono (s47.trans s79)) (by omega) fun H10 v10 s10 h10 => ?_
    rw [show (1 + (i + 1) : Nat) = i + 1 + 1 by omega] at h10
    exact ⟨v7, v10, _, rfl, s17.trans (s79.trans s10), (h7.mono (s79.trans s10)).cast (step5 i), h10.cast (back5 hlen hi)⟩
  rintro σ H4 ⟨fv, bv, x4, rfl, s4, hf, hb⟩
  have hf := hf.cast (w' := w) (List.take_of_length_le (by omega))
  have hb := hb.cast (w' := w) (by rw [show 2000 - 5 * 400 = 0 by decide, List.drop_zero])
  clear h2 h3 s13
  refine ⟨_, rfl, _, rfl, q_neW hf hb (by omega) (by omega) (by omega) fun H5 s5 => ⟨_, rfl, no (by rw [decide_eq_true rfl]; rfl) ?_⟩⟩
  refine ⟨_, rfl, _, rfl, ?_⟩
  intro x6 dx6 nx6 nd6 ne6
  refine q_WL (hlr.mono (s4.trans s5)) rfl hr (by omega) nx6 nd6 ne6 fun H6 s6 h6 => ⟨rfl, q_neW (hb.mono (s5.trans s6)) h6 (by omega) (by omega) (by omega) fun H7 s7 => ⟨_, rfl, no (by rw [decide_eq_true rfl]; rfl) ?_⟩⟩
  have s47 := (s5.trans s6).trans s7
  refine ⟨_, rfl, _, rfl, q_addW (hb.mono s47) (hf.mono s47) (by decide) fun H8 v8 s8 h8 => ⟨_, rfl, _, rfl, q_addW (hf.mono (s47.trans s8)) (hb.mono (s47.trans s8)) (by decide) fun H9 v9 s9 h9 => ?_⟩⟩
  have hww : (w ++ w).length < LIM := by rw [List.length_append]; omega
  refine ⟨_, _, _, _, _, _, _, _, _, _, rfl, h8.mono s9, h9, hww, hww, by omega, fun H10 k s10 ha => ⟨rfl, _, rfl, no (by rw [agr_none ha rfl]; rfl) ?_⟩⟩
  have s410 := (s47.trans (s8.trans s9)).trans s10
  have hf := hf.mono s410
  have hb := hb.mono s410
  have s10' := s4.trans s410
  clear h8 h9 s8 s9 s10 s47 s5 s6 s7 s410 s4 h6 ha
  -- single entries, cuts
  have g1 : w[1313]? = some (w[1313]'(by omega)) := List.getElem?_eq_getElem (by omega)
  generalize w[1313]'(by omega) = e1 at g1
  obtain ⟨ab, db, fb', rfl, hab, _, nbc, _⟩ := hb.ents
  obtain ⟨af, df, ff, rfl, haf, _, nfc, _⟩ := hf.ents
  refine ⟨_, rfl, ab, db, fb', _, rfl, rfl, hab, _, w, _, _, _, 1313, e1, rfl, hb, g1, by omega, fun H11 v11 s11 h11 => ?_⟩
  obtain ⟨u11, hu1, hu2⟩ := LR.atE (a := D) (he.mono (s10'.trans s11)) g1
  refine ⟨_, rfl, D, es, 1313, u11, rfl, rfl, sL ((s10'.trans s11) _ _ hD), hu1, q_neE h11 hu2 ⟨_, rfl, no (by rw [decide_eq_true rfl]; rfl) ?_⟩⟩
  refine ⟨_, rfl, af, df, ff, rfl, s11 _ _ haf, nfc, _, w, 0, 0, _, 700, 1900, rfl, hf.mono s11, by decide, by omega, by omega, fun H12 v12 s12 h12 => ?_⟩
  refine ⟨_, rfl, ab, db, fb', rfl, (s11.trans s12) _ _ hab, nbc, _, w, 0, 0, _, 700, 1900, rfl, hb.mono (s11.trans s12), by decide, by omega, by omega, fun H13 v13 s13 h13 => ?_⟩
  refine q_neW (h12.mono s13) h13 (by rw [List.length_take]; omega) (by rw [List.length_take]; omega) (by omega) fun H14 s14 => ⟨_, rfl, no (by rw [decide_eq_true rfl]; rfl) ?_⟩
  have u := ((s11.trans s12).trans s13).trans s14
  have hf := hf.mono u
  have hb := hb.mono u
  have s114 := s10'.trans u
  -- how often a row stands
  refine ⟨_, rfl, _, rfl, _, rfl, q_slE (f := 500) (l := 502) (hlr.mono s114) (by decide) fun p15 H15 np15 s15 h15 => ?_⟩
  have hrl : ((w.drop 500).take (502 - 500)).length = 2 := by rw [List.length_take, List.length_drop]; omega
  generalize hro : (w.drop 500).take (502 - 500) = row at h15 hrl
  have hrow : isRow row := by rw [← hro]; exact (hr.drop _).take _
  have hwt : w.take 2000 = w := List.take_of_length_le (by omega)
  refine ⟨_, rfl, _, rfl, _, _, 2000, w, row, _, _, rfl, hb.mono s15, h15, by omega, by omega, hrow.ok, by omega, by omega, fun H16 s16 => ?_⟩
  refine ⟨_, rfl, _, rfl, _, _, 2000, w, row, _, _, rfl, hf.mono (s15.trans s16), h15.mono s16, by omega, by omega, hrow.ok, by omega, by omega, fun H17 s17 => ?_⟩
  have s1517 := s16.trans s17
  refine nEq ⟨_, rfl, yesD rfl ⟨_, rfl, _, rfl, _, _, row, w, rfl, h15.mono s1517, hlr.mono (s114.trans (s15.trans s1517)), by omega, by omega, fun H18 l18 s18 h18 => ⟨l18, _, rfl, .inl (sL h18), ?_⟩⟩⟩
  rw [natsV_len, hwt, visS_stands (by omega) (by omega)]
  refine nEq ?_
  rw [decide_eq_true rfl]
  exact q H18 (s1.trans ((s114.trans (s15.trans s1517)).trans s18))
end
end RH
set_option exponentiation.threshold 256
set_option Elab.async false
set_option linter.all false
set_option maxRecDepth 100000
set_option maxHeartbeats 4000000
set_option exponentiation.threshold 100
namespace RH
open PySem PySem.Spec PyProof.Rows L2
section
variable {g : G} {mg : Str → Option Value} {vs : List V} {H : Hp} {Q : VK} {E : XK}
theorem q_orEq {σ : L2.St} {i j a b : Nat} {R : Bool → Hp → Prop} (hi : σ[i]? = some (some (.int (a : Nat)))) (hj : σ[j]? = some (some (.int (b : Nat)))) (q : R (decide (a = 0 ∨ b = 0)) H) :
    tOr (tTest (tOp rEqS (tVar i) (tC (.int 0)))) (tTest (tOp rEqS (tVar j) (tC (.int 0)))) σ H R := by
  refine ⟨_, hi, nEq (b := 0) ⟨_, rfl, ?_⟩⟩
  by_cases h1 : a = 0
  · rw [decide_eq_true (Or.inl h1)] at q
    exact yesD h1 q
  · refine noD h1 ⟨_, hj, nEq (b := 0) ⟨_, rfl, ?_⟩⟩
    by_cases h2 : b = 0
    · rw [decide_eq_true (Or.inr h2)] at q
      rw [decide_eq_true h2]; exact q
    · rw [decide_eq_false (fun z => z.elim h1 h2)] at q
      rw [decide_eq_false h2]; exact q
theorem maxLen_pos : ∀ k, 4 ≤ maxLen k
  | 0 => Nat.le_refl _
  | k + 1 => by have := maxLen_pos k; show 4 ≤ 3 * maxLen k; omega
theorem maxPc_pos : ∀ k, 1 ≤ maxPc k
  | 0 => Nat.le_refl _
  | k + 1 => by have := maxPc_pos k; show 1 ≤ 3 * maxPc k; omega
theorem p_built (T : Txt g mg) {k : Nat} {sp : Sp} (hk3 : k ≤ 4) (hsub : ∀ j, k = j + 1 → sp = spBuilt g j) (h : spBuilt g k vs H Q E) : t_built g sp (EndQ Q) (start N_built vs) H := by
  obtain ⟨v, ds, rfl, ⟨a, rfl, ha⟩, hd, q⟩ := h
  obtain ⟨d0, h0⟩ := DR.get0 (H := H) (a := a) (ds := ds) 0 (by omega)
  refine ⟨_, rfl, a, _, 0, _, rfl, rfl, sL ha, h0, .inl ⟨_, rfl, iMod (by decide) ?_⟩⟩
  have ew : ((d0 : Nat) : Int) % 4 = ((d0 % 4 : Nat) : Int) := by omega
  rw [ew]
  refine q_orEq (a := k) (b := d0 % 4) rfl rfl ?_
  by_cases hc : k = 0 ∨ d0 % 4 = 0
  · refine yesD hc ?_
    refine ⟨_, rfl, _, rfl, a, _, rfl, sL ha, fun p np => ?_⟩
    rw [show cutV (natsV ds) (some 1) none = natsV (ds.drop 1) from cut1 ds 1]
    refine ⟨_, rfl, a, _, 0, _, rfl, rfl, sL (sameNew np _ _ ha), h0, iDiv (cdiv (by decide) (by decide)) (.inl ⟨_, rfl, iMod (by decide) ?_⟩)⟩
    have e5 : ((d0 : Nat) : Int) / 4 % 5 = ((d0 / 4 % 5 : Nat) : Int) := by omega
    rw [e5]
    refine ⟨.ref p, ds.drop 1, d0 / 4 % 5, rfl, by omega, ⟨p, rfl, upd_same⟩, fun H2 r w s2 hr hw h1 h2 => ?_⟩
    refine ⟨_, rfl, ?_⟩
    have s02 := (sameNew (o := .lst (natsV (ds.drop 1))) np).trans s2
    obtain ⟨l, es, rfl, hl, he⟩ := hr
    intro x dx nx nd ne
    refine q_WordL (vs := [.ref l]) (dvs := []) rfl hl he hw.ok (by omega) nx nd ne fun H3 s3 hx => ⟨rfl, ?_⟩
    refine ⟨_, rfl, small2, fun p4 np4 => ?_⟩
    have s4 := sameNew (o := .tup [.ref x, .ref l]) np4
    have s34 := s3.trans s4
    have := maxLen_pos k
    exact q _ p4 (.ref x) (.ref l) w 0 1 (s02.trans s34) upd_same ((hx.mono s4).up (Nat.zero_le _)) ⟨l, es, rfl, s34 _ _ hl, he.mono s34⟩ hw (by omega) (Nat.zero_le _) (maxPc_pos k)
  · refine noD hc ?_
    obtain ⟨j, rfl⟩ : ∃ j, k = j + 1 := ⟨k - 1, by omega⟩
    obtain rfl := hsub j rfl
    have ej : ((j + 1 : Nat) : Int) - 1 = ((j : Nat) : Int) := by omega
    refine ⟨_, rfl, _, rfl, a, _, rfl, sL ha, fun p np => ?_⟩
    rw [show cutV (natsV ds) (some 1) none = natsV (ds.drop 1) from cut1 ds 1]
    refine ⟨_, rfl, iSub ?_⟩
    rw [ej]
    refine ⟨.ref p, ds.drop 1, rfl, ⟨p, rfl, upd_same⟩, by rw [List.length_drop]; omega, fun H2 p2 wv lv w n' q' s2 hp2 hwv hlv hw hlen hn' hq' => ?_⟩
    have s02 := (sameNew (o := .lst (natsV (ds.drop 1))) np).trans s2
    refine ⟨p2, _, rfl, sT hp2, rfl, wv, _, rfl, lv, _, rfl, rfl, ?_⟩
    have hL : maxLen j ≤ 108 := by
      have : j = 0 ∨ j = 1 ∨ j = 2 ∨ j = 3 := by omega
      rcases this with rfl | rfl | rfl | rfl <;> decide
    have hP : maxPc j ≤ 27 := by
      have : j = 0 ∨ j = 1 ∨ j = 2 ∨ j = 3 := by omega
      rcases this with rfl | rfl | rfl | rfl <;> decide
    refine ⟨_, rfl, nEq (b := 1) ⟨_, rfl, ?_⟩⟩
    by_cases hw1 : d0 % 4 = 1
    · refine yesD hw1 ?_
      refine ⟨_, rfl, a, _, 0, _, rfl, rfl, sL (s02 _ _ ha), h0, iDiv (cdiv (by decide) (by decide)) (.inl ⟨_, rfl, iMod (by decide) ?_⟩)⟩
      have e5 : ((d0 : Nat) : Int) / 4 % 4 = ((d0 / 4 % 4 : Nat) : Int) := by omega
      rw [e5]
      obtain ⟨t, et⟩ : ∃ t, d0 / 4 % 4 = t := ⟨_, rfl⟩
      have ht : t ≤ 3 := by omega
      rw [et]
      refine ⟨_, rfl, _, rfl, q_mulW hwv (by omega) (by omega) (by omega) fun H3 v3 s3 hv3 => ⟨_, rfl, _, rfl, q_repL (hlv.mono s3) (by omega) (by omega) fun p4 H4 s4 h4 => ?_⟩⟩
      refine ⟨small2, fun p5 np5 => ?_⟩
      have s5 := sameNew (o := .tup [v3, .ref p4]) np5
      refine q _ p5 v3 (.ref p4) (rp t w) (n' + 1) q' (((s02.trans s3).trans s4).trans s5) upd_same (hv3.mono (s4.trans s5)) (h4.mono s5) (hw.rp t) ?_ (by omega) ?_
      · rw [rp_len]; exact Nat.mul_le_mul ht hlen
      · show q' ≤ 3 * maxPc j; omega
    · refine noD hw1 ?_
      refine ⟨_, rfl, _, rfl, a, _, rfl, sL (s02 _ _ ha), fun p3 np3 => ?_⟩
      rw [show cutV (natsV ds) (some 7) none = natsV (ds.drop 7) from cut1 ds 7]
      refine ⟨_, rfl, iSub ?_⟩
      rw [ej]
      refine ⟨.ref p3, ds.drop 7, rfl, ⟨p3, rfl, upd_same⟩, by rw [List.length_drop]; omega, fun H4 p4 wv2 lv2 w2 n2 q2 s4 hp4 hwv2 hlv2 hw2 hlen2 hn2 hq2 => ?_⟩
      have s24 := (sameNew (o := .lst (natsV (ds.drop 7))) np3).trans s4
      refine ⟨p4, _, rfl, sT hp4, rfl, wv2, _, rfl, lv2, _, rfl, rfl, ?_⟩
      refine ⟨_, rfl, nEq (b := 2) ⟨_, rfl, ?_⟩⟩
      have hwv := hwv.mono s24
      have hlv := hlv.mono s24
      by_cases hw2' : d0 % 4 = 2
      · refine yesD hw2' ?_
        refine ⟨_, rfl, _, rfl, q_addW hwv hwv2 (by omega) fun H5 v5 s5 hv5 => ⟨_, rfl, _, rfl, q_catL (hlv.mono s5) (hlv2.mono s5) (by omega) (by omega) fun p6 H6 s6 h6 => ?_⟩⟩
        refine ⟨small2, fun p7 np7 => ?_⟩
        have s7 := sameNew (o := .tup [v5, .ref p6]) np7
        refine q _ p7 v5 (.ref p6) (w ++ w2) (max n' n2) (q' + q2) ((((s02.trans s24).trans s5).trans s6).trans s7) upd_same ((hv5.mono (s6.trans s7)).up (by omega)) (h6.mono s7) (hw.append hw2) ?_ (by omega) ?_
        · rw [List.length_append]; show _ ≤ 3 * maxLen j; omega
        · show q' + q2 ≤ 3 * maxPc j; omega
      · refine noD hw2' ?_
        refine ⟨_, rfl, _, rfl, q_addW hwv hwv2 (by omega) fun H5 v5 s5 hv5 => ⟨_, rfl, q_addW hv5 (hwv.mono s5) (by omega) fun H6 v6 s6 hv6 => ?_⟩⟩
        have s56 := s5.trans s6
        refine ⟨_, rfl, _, rfl, q_catL (hlv.mono s56) (hlv2.mono s56) (by omega) (by omega) fun p7 H7 s7 h7 => ⟨_, rfl, q_catL h7 (hlv.mono (s56.trans s7)) (by rw [List.length_append]; omega) (by omega) fun p8 H8 s8 h8 => ?_⟩⟩
        refine ⟨small2, fun p9 np9 => ?_⟩
        have s9 := sameNew (o := .tup [v6, .ref p8]) np9
        refine q _ p9 v6 (.ref p8) (w ++ w2 ++ w) (max (max n' n2) n') (q' + q2 + q') (((((s02.trans s24).trans s56).trans s7).trans s8).trans s9) upd_same ((hv6.mono ((s7.trans s8).trans s9)).up (by omega)) (h8.mono s9) ((hw.append hw2).append hw) ?_ (by omega) ?_
        · rw [List.length_append, List.length_append]; show _ ≤ 3 * maxLen j; omega
        · show q' + q2 + q' ≤ 3 * maxPc j; omega
end
end RH
set_option exponentiation.threshold 256
set_option Elab.async false
set_option linter.all false
set_option maxRecDepth 100000
set_option maxHeartbeats 4000000
set_option exponentiation.threshold 100
namespace RH
open PySem PySem.Spec PyProof.Rows L2
section
variable {g : G} {mg : Str → Option Value} {vs : List V} {H : Hp} {Q : VK} {E : XK}
theorem p_agreeing (T : Txt g mg) {n : Nat} (h : spAgreeing g n vs H Q E) : t_agreeing g n (EndQ Q) (start N_agreeing vs) H := by
  obtain ⟨v1, v2, w1, w2, d1, n1, q1, d2, n2, q2, f, s, rfl, h1, h2, hf, hs, hl1, hl2, hn, q⟩ := h
  have h10 := h1
  have h20 := h2
  obtain ⟨a1, dx1, fs1, p1, z1, rfl, ha1, hf1, hp1⟩ := h1
  obtain ⟨a2, dx2, fs2, p2, z2, rfl, ha2, hf2, hp2⟩ := h2
  have l1 := wf_part hf1
  have l2 := wf_part hf2
  refine ⟨_, rfl, _, rfl, a1, dx1, fs1, rfl, ha1, l1.2.2.2, _, w1, d1, n1, q1, rfl, h10, (f : Int), 0, (w1.length : Int), rfl, by omega, by omega, ?_⟩
  refine ⟨_, rfl, _, rfl, a2, dx2, fs2, rfl, ha2, l2.2.2.2, _, w2, d2, n2, q2, rfl, h20, (s : Int), 0, (w2.length : Int), rfl, by omega, by omega, ?_⟩
  refine ⟨_, rfl, a1, dx1, fs1, rfl, ha1, l1.2.2.2, _, w1, d1, n1, q1, rfl, h10, _, rfl, nSub hf ⟨_, rfl, a2, dx2, fs2, rfl, ha2, l2.2.2.2, _, w2, d2, n2, q2, rfl, h20, _, rfl, nSub hs (nMin2 ?_)⟩⟩
  refine ⟨_, rfl, a1, _, dx1, fs1, _, rfl, ha1, T.word, T.w_part, l1.1, small3, fun pa npa => ?_⟩
  have sa : Same H (upd H pa (.tup [p1, .int 1, .non])) := sameNew npa
  refine ⟨_, rfl, _, [⟨w1, 1, some (d1, z1)⟩], f, rfl, fun hp => ⟨ur_one upd_same (len_ne (by omega)) (hp1.mono sa), by rw [den_one]; exact hf, sm_one hl1⟩, fun H2 vb us2 s2 e0 e1 => ?_⟩
  have f1 : 0 < w1.length → UR g.part H2 us2 vb ∧ den us2 = w1.drop f ∧ (∀ u ∈ us2, udp u ≤ d1) ∧ Sm us2 := fun hp => by
    by_cases hf0 : f = 0
    · obtain ⟨rfl, rfl⟩ := e0 hf0
      exact ⟨(ur_one upd_same (len_ne hp) (hp1.mono sa)).mono s2, by rw [den_one, hf0, List.drop_zero], udp_one, sm_one hl1⟩
    · obtain ⟨x1, x2, x3, x4⟩ := e1 (Nat.pos_of_ne_zero hf0)
      exact ⟨x1, by rw [x2, den_one], x3 d1 udp_one, x4⟩
  have s12 := sa.trans s2
  refine ⟨_, rfl, a2, _, dx2, fs2, _, rfl, s12 _ _ ha2, T.word, T.w_part, l2.1, small3, fun pb npb => ?_⟩
  have sb : Same H2 (upd H2 pb (.tup [p2, .int 1, .non])) := sameNew npb
  refine ⟨_, rfl, _, [⟨w2, 1, some (d2, z2)⟩], s, rfl, fun hp => ⟨ur_one upd_same (len_ne (by omega)) (hp2.mono (s12.trans sb)), by rw [den_one]; exact hs, sm_one hl2⟩, fun H4 vd us4 s4 e2 e3 => ?_⟩
  have f2 : 0 < w2.length → UR g.part H4 us4 vd ∧ den us4 = w2.drop s ∧ (∀ u ∈ us4, udp u ≤ d2) ∧ Sm us4 := fun hp => by
    by_cases hs0 : s = 0
    · obtain ⟨rfl, rfl⟩ := e2 hs0
      exact ⟨(ur_one upd_same (len_ne hp) (hp2.mono (s12.trans sb))).mono s4, by rw [den_one, hs0, List.drop_zero], udp_one, sm_one hl2⟩
    · obtain ⟨x1, x2, x3, x4⟩ := e3 (Nat.pos_of_ne_zero hs0)
      exact ⟨x1, by rw [x2, den_one], x3 d2 udp_one, x4⟩
  have s34 := sb.trans s4
  refine ⟨_, rfl, vb, vd, us2, us4, min (w1.length - f) (w2.length - s), 2 * d1, 2 * d2, rfl, fun hm => ?_, fun H5 k s5 hk => ?_⟩
  · obtain ⟨x1, x2, x3, x4⟩ := f1 (by omega)
    obtain ⟨y1, y2, y3, y4⟩ := f2 (by omega)
    exact ⟨x1.mono s34, y1, by rw [x2, List.length_drop]; omega, by rw [y2, List.length_drop]; omega, x4, y4, Rk.of_udp x3, Rk.of_udp y3, by omega⟩
  · refine q H5 k ((s12.trans s34).trans s5) ?_
    by_cases hm : min (w1.length - f) (w2.length - s) = 0
    · rw [hm] at hk ⊢
      have : k = 0 := by have := hk.le; omega
      subst this
      exact ⟨Nat.le_refl _, by rw [List.take_zero, List.take_zero], fun z => absurd z (Nat.lt_irrefl _)⟩
    · have x2 := (f1 (by omega)).2.1
      have y2 := (f2 (by omega)).2.1
      rw [← x2, ← y2]
      exact hk
end
end RH
set_option exponentiation.threshold 256
set_option Elab.async false
set_option linter.all false
set_option maxRecDepth 100000
set_option maxHeartbeats 4000000
set_option exponentiation.threshold 100
namespace RH
open PySem PySem.Spec PyProof.Rows L2
section
variable {g : G} {mg : Str → Option Value} {vs : List V} {H : Hp} {Q : VK} {E : XK}
theorem p_first_difference (T : Txt g mg) {n : Nat} (h : spFirstDiff g n vs H Q E) : t_first_difference g n (EndQ Q) (start N_first_difference vs) H := by
  obtain ⟨v1, v2, w1, w2, d1, n1, q1, d2, n2, q2, rfl, h1, h2, hl1, hl2, hn, q⟩ := h
  refine ⟨_, rfl, _, rfl, v1, v2, w1, w2, d1, n1, q1, d2, n2, q2, 0, 0, rfl, h1, h2, Nat.zero_le _, Nat.zero_le _, hl1, hl2, hn, fun H1 k s1 hk => ?_⟩
  rw [List.drop_zero, List.drop_zero, Nat.sub_zero, Nat.sub_zero] at hk
  have qk := q H1 k s1 hk
  have h10 := h1.mono s1
  have h20 := h2.mono s1
  obtain ⟨a1, dx1, fs1, p1, z1, rfl, ha1, hf1, hp1⟩ := h1.mono s1
  obtain ⟨a2, dx2, fs2, p2, z2, rfl, ha2, hf2, hp2⟩ := h2.mono s1
  have l1 := wf_part hf1
  have l2 := wf_part hf2
  refine ⟨_, rfl, _, rfl, a1, dx1, fs1, rfl, ha1, l1.2.2.2, _, w1, d1, n1, q1, rfl, h10, nEq ⟨_, rfl, ?_⟩⟩
  by_cases e1 : k = w1.length
  · refine yesD e1 ⟨_, rfl, a2, dx2, fs2, rfl, ha2, l2.2.2.2, _, w2, d2, n2, q2, rfl, h20, nEq ⟨_, rfl, ?_⟩⟩
    by_cases e2 : w1.length = w2.length
    · refine yesD e2 ?_
      rw [if_pos ⟨e1, e2⟩] at qk
      exact qk
    · refine noD e2 ⟨_, rfl, ?_⟩
      rw [if_neg (fun z => e2 z.2)] at qk
      exact qk
  · refine noD e1 ⟨_, rfl, no rfl ⟨_, rfl, ?_⟩⟩
    rw [if_neg (fun z => e1 z.1)] at qk
    exact qk
end
end RH
set_option exponentiation.threshold 256
set_option Elab.async false
set_option linter.all false
set_option maxRecDepth 100000
set_option maxHeartbeats 4000000
set_option exponentiation.threshold 100
namespace RH
open PySem PySem.Spec PyProof.Rows L2
section
variable {g : G} {mg : Str → Option Value} {vs : List V} {H : Hp} {Q : VK} {E : XK}
theorem ty_word (T : Txt g mg) {a dx : Addr} {fs : List (Str × V)} (h : H a = some (.ins g.word dx fs)) : TyX g.K H (.ref a) (.ref g.word) := .base (.ins h T.word T.word_cl T.cls_get T.cls_tk T.word_ob)
theorem p_Word_eq (T : Txt g mg) {n : Nat} (h : spWordEq g n vs H Q E) : t_Word_eq g n (EndQ Q) (start N_Word_eq vs) H := by
  obtain ⟨v1, v2, w1, w2, d1, n1, q1, d2, n2, q2, rfl, h1, h2, hl1, hl2, hn, q⟩ := h
  obtain ⟨a1, dx1, fs1, p1, z1, rfl, ha1, hf1, hp1⟩ := h1
  obtain ⟨a2, dx2, fs2, p2, z2, rfl, ha2, hf2, hp2⟩ := h2
  have l1 := wf_part hf1
  have l2 := wf_part hf2
  refine ⟨_, rfl, .ref a2, .ref g.word, _, _, true, rfl, .own g.word, ty_word T ha2, T.word_word, true, rfl, iteF ?_⟩
  refine q_wide T hp1 (fun R r => ⟨_, rfl, a1, _, dx1, fs1, p1, rfl, ha1, T.word, T.w_part, l1.1, r⟩) ?_
  refine q_wide T hp2 (fun R r => ⟨_, rfl, a2, _, dx2, fs2, p2, rfl, ha2, T.word, T.w_part, l2.1, r⟩) (nNe ⟨_, rfl, ?_⟩)
  by_cases hlen : w1.length = w2.length
  · refine no (by rw [decide_eq_true hlen]; rfl) ?_
    refine ⟨_, rfl, a1, _, dx1, fs1, _, rfl, ha1, T.word, T.w_part, l1.1, small3, fun pa npa => ?_⟩
    have sa : Same H (upd H pa (.tup [p1, .int 1, .non])) := sameNew npa
    refine ⟨_, rfl, a2, _, dx2, fs2, _, rfl, sa _ _ ha2, T.word, T.w_part, l2.1, small3, fun pb npb => ?_⟩
    have sb := sameNew (o := .tup [p2, .int 1, .non]) npb
    have sab := sa.trans sb
    refine q_wide T (hp1.mono sab) (fun R r => ⟨_, rfl, a1, _, dx1, fs1, p1, rfl, sab _ _ ha1, T.word, T.w_part, l1.1, r⟩) ?_
    refine ⟨.ref pa, .ref pb, [⟨w1, 1, some (d1, z1)⟩], [⟨w2, 1, some (d2, z2)⟩], w1.length, 2 * d1, 2 * d2, rfl, fun hm => ?_, fun H5 k s5 hk => ?_⟩
    · exact ⟨(ur_one upd_same (len_ne hm) (hp1.mono sa)).mono sb, ur_one upd_same (len_ne (by omega)) (hp2.mono sab), by rw [den_one]; exact Nat.le_refl _, by rw [den_one]; omega, sm_one hl1, sm_one hl2, Rk.of_udp udp_one, Rk.of_udp udp_one, by omega⟩
    · have s := sab.trans s5
      refine q_wide T (hp1.mono s) (fun R r => ⟨_, rfl, a1, _, dx1, fs1, p1, rfl, s _ _ ha1, T.word, T.w_part, l1.1, r⟩) (nEq ?_)
      rw [den_one, den_one] at hk
      have hk2 : Agr w1 w2 (min w1.length w2.length) k := by rw [show min w1.length w2.length = w1.length by omega]; exact hk
      have e : decide (k = w1.length) = decide (w1 = w2) := by
        by_cases hh : w1 = w2
        · rw [decide_eq_true hh, decide_eq_true ((agr_all hk2).mpr hh).1]
        · rw [decide_eq_false hh, decide_eq_false (fun z => hh ((agr_all hk2).mp ⟨z, hlen⟩))]
      rw [e]
      exact q H5 s
  · refine yes (by rw [decide_eq_false hlen]; rfl) ?_
    have := q H (Same.refl H)
    rwa [decide_eq_false (fun z => hlen (by rw [z]))] at this
end
end RH
set_option exponentiation.threshold 256
set_option Elab.async false
set_option linter.all false
set_option maxRecDepth 100000
set_option maxHeartbeats 4000000
set_option exponentiation.threshold 100
namespace RH
open PySem PySem.Spec PyProof.Rows L2
def zf : Ent := ⟨"final", some "zz"⟩
theorem zf_ok : EntOk zf := ⟨.inr rfl, ⟨by decide +kernel, by decide +kernel, by decide +kernel⟩⟩
theorem zf_s : EntS zf := ⟨by decide +kernel, fun x e => by injection e with e; rw [← e]; decide +kernel⟩
theorem zf_ne (i : Nat) : zf ≠ ent4 i := by
  have hn : i % 4 = 0 ∨ i % 4 = 1 ∨ i % 4 = 2 ∨ i % 4 = 3 := by omega
  rcases hn with h | h | h | h
  · rw [ent4_0 h]; decide +kernel
  · rw [ent4_1 h]; decide +kernel
  · rw [ent4_2 h]; decide +kernel
  · rw [ent4_3 h]; decide +kernel
theorem agr_at {w1 w2 : List Ent} {m k at' : Nat} (h : Agr w1 w2 m k) (hlt : at' < m) (he : ∀ i, i < at' → w1[i]? = w2[i]?) (hne : w1[at']? ≠ w2[at']?) : k = at' := by
  rcases Nat.lt_trichotomy k at' with hk | hk | hk
  · exact absurd (he k hk) (h.ne (by omega))
  · exact hk
  · have := congrArg (fun l : List Ent => l[at']?) h.eq
    simp only [List.getElem?_take_of_lt hk] at this
    exact absurd this hne
/-- one entry otherwise -/
def bent (w : List Ent) (i : Nat) : List Ent := (w.drop 0).take (i - 0) ++ [zf] ++ (w.drop (i + 1)).take (w.length - (i + 1))
theorem bent_len {w : List Ent} {i : Nat} (h : i < w.length) : (bent w i).length = w.length := by
  unfold bent
  rw [List.length_append, List.length_append, List.length_take, List.length_take, List.length_drop, List.length_drop, List.length_singleton]; omega
theorem bent_lo {w : List Ent} {i j : Nat} (h : i < w.length) (hj : j < i) : (bent w i)[j]? = w[j]? := by
  unfold bent
  rw [List.drop_zero, Nat.sub_zero, List.append_assoc, List.getElem?_append_left (by rw [List.length_take]; omega), List.getElem?_take_of_lt hj]
theorem bent_at {w : List Ent} {i : Nat} (h : i < w.length) : (bent w i)[i]? = some zf := by
  unfold bent
  rw [List.drop_zero, Nat.sub_zero, List.append_assoc, List.getElem?_append_right (by rw [List.length_take]; omega), List.length_take, show i - min i w.length = 0 by omega]; rfl
section
variable {g : G} {mg : Str → Option Value} {vs : List V} {H : Hp} {Q : VK} {E : XK}
theorem p_law (T : Txt g mg) {n : Nat} (hn : 20 ≤ n) (h : spLaw g vs H Q E) : t_law g n (EndQ Q) (start N_law vs) H := by
  obtain ⟨a, ns, rfl, hl, hns, q⟩ := h
  have hL := LIM_ge
  refine ⟨_, rfl, a, ns, 0, rfl, hl, fun c => ⟨c, 13, rfl, by decide, fun H1 v ds s1 hds hdl _ => ⟨v, ds, rfl, hds, hdl, fun H2 s2 => ⟨true, rfl, no rfl ?_⟩⟩⟩⟩
  have s02 := s1.trans s2
  clear s1 s2 hds hdl
  refine ⟨_, rfl, a, _, rfl, .inl (SqL.same s02 hl), iAdd ?_⟩
  rw [List.length_map, show (1 : Int) + ((ns.length : Nat) : Int) = ((1 + ns.length : Nat) : Int) by omega]
  refine nMin2 (a := 4) ⟨_, rfl, by omega, by omega, ?_⟩
  refine for_range (lo := 0) (fun i σ H' => ∃ x1 x2 x3 x4 x5 x6 x7 : Option V, σ = [some (.ref a), x1, x2, x3, x4, x5, x6, x7] ∧ Same H H') ⟨_, _, _, _, _, _, _, rfl, s02⟩ ?_ ?_
  · rintro i σ H1 hi ⟨x1, x2, x3, x4, x5, x6, x7, rfl, s1⟩
    rw [show (0 : Int) + ((i : Nat) : Int) = ((i : Nat) : Int) by omega]
    refine ⟨_, rfl, _, rfl, a, ns, i, rfl, SqL.same s1 hl, fun c => ⟨c, 70, rfl, by decide, fun H2 v ds s2 hds hdl _ => ?_⟩⟩
    refine ⟨_, rfl, v, ds, rfl, hds, by omega, fun H3 p3 wv lv w n1 q1 s3 hp3 hwv hlv hrow hlen hn1 hq1 => ⟨p3, _, rfl, sT hp3, rfl, wv, _, rfl, lv, _, rfl, rfl, ?_⟩⟩
    obtain ⟨ad, rfl, had⟩ := hds
    have hlen : w.length ≤ 108 := hlen
    have hq1 : q1 ≤ 27 := hq1
    have had := s3 _ _ had
    have s13 := (s1.trans s2).trans s3
    clear s1 s2 s3 hp3
    -- put together otherwise
    refine ⟨_, rfl, _, rfl, _, rfl, _, rfl, ad, _, rfl, sL had, fun p4 np4 => ?_⟩
    rw [show cutV (natsV ds) (some 40) none = natsV (ds.drop 40) from cut1 ds 40]
    have s4 := sameNew (o := .lst (natsV (ds.drop 40))) np4
    refine ⟨wv, lv, .ref p4, w, n1, q1, ds.drop 40, rfl, hwv.mono s4, hn1, hq1, hlv.mono s4, hrow, hlen, ⟨p4, rfl, upd_same⟩, by rw [List.length_drop]; omega, fun H5 l5 xs s5 hl5 hxs => ?_⟩
    have s35 := s4.trans s5
    refine ⟨l5, rfl, ⟨_, sL hl5⟩, ?_⟩
    refine for_list (K := g.K) (a := l5) (xs := xs) (fun i' σ H' => ∃ x5, σ = [some (.ref a), some (.int (i : Nat)), some (.ref ad), some wv, some lv, x5, x6, x7] ∧ Same H5 H') ⟨_, rfl, Same.refl _⟩ (fun i' σ H' _ x => by obtain ⟨_, _, s⟩ := x; exact sL (s _ _ hl5)) ?_ ?_
    · rintro j y σ H6 hy ⟨x5, rfl, s6⟩
      obtain ⟨n2, q2, hy⟩ := hxs y (List.mem_of_getElem? hy)
      have hy := hy.mono s6
      have s36 := s35.trans s6
      refine ⟨_, rfl, _, rfl, q_neW hy (hwv.mono s36) (by omega) (by omega) (by omega) fun H7 s7 => ⟨_, rfl, no (by rw [decide_eq_true rfl]; rfl) ?_⟩⟩
      have s37 := s36.trans s7
      refine ⟨_, rfl, _, rfl, _, _, _, _, _, _, _, _, _, _, rfl, hwv.mono s37, hy.mono s7, by omega, by omega, by omega, fun H8 k s8 hk => ⟨rfl, _, rfl, no (by rw [agr_none hk rfl]; rfl) ?_⟩⟩
      have s38 := s37.trans s8
      have hy8 := hy.mono (s7.trans s8)
      obtain ⟨ay, dy, fy, rfl, hay, _, _, nye⟩ := hy8.ents
      obtain ⟨l, es, rfl, hl8, he⟩ := hlv.mono s38
      have le := he.len
      refine ⟨_, rfl, ay, dy, fy, rfl, hay, nye, _, rfl, l, es, rfl, .inl (sL hl8), _, w, 4, n2, q2, 0, es.length, rfl, hy8, by omega, by omega, by omega, by omega, fun H9 v9 s9 h9 _ => ⟨_, rfl, ?_⟩⟩
      have h9 : LR H9 v9 w := by
        rw [List.drop_zero, Nat.sub_zero, le, List.take_length] at h9
        exact h9
      refine q_neL h9 ⟨l, es, rfl, s9 _ _ hl8, he.mono s9⟩ ⟨_, rfl, no (by rw [decide_eq_true rfl]; rfl) ?_⟩
      exact ⟨_, rfl, s6.trans ((s7.trans s8).trans s9)⟩
    rintro σ H6 ⟨x5, rfl, s6⟩
    have s36 := s35.trans s6
    have had := s36 _ _ had
    have hwv := hwv.mono s36
    have hlv := hlv.mono s36
    have s16 := s13.trans s36
    clear hxs hl5 s35 s36 s6 s5 s4 np4 s13
    -- powers
    obtain ⟨d50, h50⟩ := DR.get0 (H := H) (a := ad) (ds := ds) 50 (by omega)
    refine ⟨_, rfl, _, rfl, ad, _, rfl, sL had, fun p7 np7 => ?_⟩
    rw [show cutV (natsV ds) (some 50) none = natsV (ds.drop 50) from cut1 ds 50]
    have s7 := sameNew (o := .lst (natsV (ds.drop 50))) np7
    refine ⟨_, rfl, ad, _, 50, _, rfl, rfl, sL (s7 _ _ had), h50, .inl ⟨_, rfl, nMod (b := 5) (by decide) ?_⟩⟩
    have h5 : d50 % 5 ≤ 4 := by omega
    generalize d50 % 5 = m5 at h5
    refine ⟨.ref p7, ds.drop 50, m5, rfl, by omega, ⟨p7, rfl, upd_same⟩, fun H8 r8 w8 s8 hr8 hrow8 hl8 _ => ?_⟩
    have s78 := s7.trans s8
    refine ⟨_, rfl, _, rfl, ad, _, rfl, sL (s78 _ _ had), fun p9 np9 => ?_⟩
    rw [show cutV (natsV ds) (some 56) none = natsV (ds.drop 56) from cut1 ds 56]
    have s9 := sameNew (o := .lst (natsV (ds.drop 56))) np9
    refine ⟨r8, .ref p9, w8, ds.drop 56, rfl, hr8.mono s9, hrow8, by omega, ⟨p9, rfl, upd_same⟩, by rw [List.length_drop]; omega, fun H10 s10 => ⟨true, rfl, no rfl ?_⟩⟩
    have s610 := (s78.trans s9).trans s10
    have had := s610 _ _ had
    have hwv := hwv.mono s610
    have hlv := hlv.mono s610
    have s110 := s16.trans s610
    clear s78 s7 s8 s9 s10 np7 np9 hr8 s610 s16
    -- one entry otherwise
    refine ⟨_, rfl, small0, fun p11 np11 => ?_⟩
    have s11 := sameNew (o := .lst []) np11
    refine q_neL (w2 := []) (hlv.mono s11) ⟨p11, [], rfl, upd_same, trivial⟩ ⟨_, rfl, ?_⟩
    have had := s11 _ _ had
    have hwv := hwv.mono s11
    have hlv := hlv.mono s11
    have s111 := s110.trans s11
    generalize upd H10 p11 (.lst []) = H11 at had hwv hlv s111 ⊢
    clear s11 np11 s110
    by_cases hw0 : w = []
    · refine no (by rw [decide_eq_true hw0]; rfl) ?_
      exact ⟨_, _, _, _, _, _, _, rfl, s111⟩
    refine yes (by rw [decide_eq_false hw0]; rfl) ?_
    have hwp : 0 < w.length := List.length_pos_iff.mpr hw0
    obtain ⟨l, es, rfl, hl11, he⟩ := hlv
    have le := he.len
    obtain ⟨d58, h58⟩ := DR.get0 (H := H) (a := ad) (ds := ds) 58 (by omega)
    refine ⟨_, rfl, ad, _, 58, _, rfl, rfl, sL had, h58, .inl ⟨_, rfl, _, rfl, l, es, rfl, .inl (sL hl11), nMod (by omega) ?_⟩⟩
    have hat : d58 % es.length < w.length := by rw [le]; exact Nat.mod_lt _ hwp
    generalize d58 % es.length = at' at hat
    obtain ⟨aw, dw, fw, rfl, haw, _, nwc, _⟩ := hwv.ents
    refine ⟨_, rfl, aw, dw, fw, rfl, haw, nwc, _, rfl, _, w, 3, n1, q1, 0, at', rfl, hwv, by omega, by omega, by omega, fun H12 v12 s12 h12 => ?_⟩
    refine ⟨small2, fun p13 np13 => ⟨small1, fun p14 np14 => ?_⟩⟩
    have s13 := sameNew (o := .tup [.str "final", .str "zz"]) np13
    have s14 := sameNew (o := .lst [.ref p13]) np14
    intro x15 dx15 nx15 nd15 ne15
    refine q_WordL (vs := [.ref p14]) (dvs := []) (w := [zf]) rfl upd_same ⟨⟨zf_s, p13, rfl, s14 _ _ upd_same⟩, trivial⟩ (fun y hy => by rw [List.mem_singleton.mp hy]; exact zf_ok) (show 1 ≤ 1000000 by decide) nx15 nd15 ne15 fun H15 s15 h15 => ⟨rfl, ?_⟩
    have s1215 := (s13.trans s14).trans s15
    refine q_addW (h12.mono s1215) (h15.up (Nat.zero_le 3)) (by omega) fun H16 v16 s16 h16 => ?_
    have s1116 := (s12.trans s1215).trans s16
    refine ⟨_, rfl, aw, dw, fw, rfl, s1116 _ _ haw, nwc, _, rfl, nAdd (b := 1) ⟨_, rfl, l, es, rfl, .inl (sL (s1116 _ _ hl11)), _, w, 3, n1, q1, at' + 1, es.length, rfl, hwv.mono s1116, by omega, by omega, by omega, fun H17 v17 s17 h17 => ?_⟩⟩
    refine q_addW (h16.mono s17) h17 (by omega) fun H18 v18 s18 h18 => ?_
    rw [le] at h18
    have h18 := h18.cast (w' := bent w at') rfl
    have s1118 := (s1116.trans s17).trans s18
    have hwv := hwv.mono s1118
    have s118 := s111.trans s1118
    have bl := bent_len hat
    have hba := bent_at hat
    have hwa : w[at']? ≠ some zf := fun e => by
      obtain ⟨i, hi⟩ := hrow _ (List.mem_of_getElem? e)
      exact zf_ne i hi
    clear h12 h15 h16 h17 s12 s13 s14 s15 s16 s17 s18 s1118 s1116 s1215 np13 np14 nx15 nd15 ne15
    obtain ⟨ab, db, fb', rfl, hab, _⟩ := h18.ents
    obtain ⟨_, dw', fw', ew, haw', _⟩ := hwv.ents
    cases ew
    refine ⟨_, rfl, _, rfl, ab, db, fb', aw, dw', fw', rfl, rfl, hab, haw', _, _, _, _, _, _, _, _, _, _, rfl, h18, hwv, by omega, by omega, by omega, fun H19 s19 => ⟨_, rfl, noD (fun e => ?_) ?_⟩⟩
    · rw [e] at hba; exact hwa hba
    refine ⟨_, rfl, _, rfl, _, _, _, _, _, _, _, _, _, _, rfl, h18.mono s19, hwv.mono s19, by omega, by omega, by omega, fun H20 k s20 hk => ?_⟩
    have ek : k = at' := agr_at hk (by rw [bl]; omega) (fun i hi => bent_lo hat hi) (by rw [hba]; exact fun z => hwa z.symm)
    rw [if_neg (by rw [bl]; omega), ek]
    refine ⟨_, rfl, nNe ⟨_, rfl, no (by rw [decide_eq_true rfl]; rfl) ?_⟩⟩
    have s1920 := s19.trans s20
    refine ⟨_, rfl, _, rfl, _, _, _, _, _, _, _, _, _, _, rfl, hwv.mono s1920, h18.mono s1920, by omega, by omega, by omega, fun H21 k2 s21 hk2 => ?_⟩
    have ek : k2 = at' := agr_at hk2 (by rw [bl]; omega) (fun i hi => (bent_lo hat hi).symm) (by rw [hba]; exact hwa)
    rw [if_neg (by omega), ek]
    refine ⟨_, rfl, nNe ⟨_, rfl, no (by rw [decide_eq_true rfl]; rfl) ?_⟩⟩
    exact ⟨_, _, _, _, _, _, _, rfl, s118.trans (s1920.trans s21)⟩
  · rintro σ H1 ⟨x1, x2, x3, x4, x5, x6, x7, rfl, s1⟩
    exact q H1
end
end RH
set_option exponentiation.threshold 256
set_option Elab.async false
set_option linter.all false
set_option maxRecDepth 100000
set_option maxHeartbeats 4000000
set_option exponentiation.threshold 100
namespace RH
open PySem PySem.Spec PyProof.Rows L2
def FnF (K : PySem.W.Frag) (mg : Str → Option Value) (x qual : Str) (st : Stmt) (ps : List Str) : Prop := ∃ (f : Addr) (fd : FuncData), L2.Fun K x qual st f fd ∧ mg x = some (.ref f) ∧ PySem.W.keepIn K (.ref f) = true ∧ Binds K fd ps []
def MtF (K : PySem.W.Frag) (C : Addr) (x m qual : Str) (st : Stmt) (ps : List Str) : Prop := ∃ (f : Addr) (fd : FuncData), Cls K C ∧ Meth K C m f ∧ PySem.W.selfFirst K C = true ∧ L2.Fun K x qual st f fd ∧ Binds K fd ps []
def MkF (K : PySem.W.Frag) (mg : Str → Option Value) (x : Str) (C : Addr) (qual : Str) (st : Stmt) (ps : List Str) : Prop := ∃ (f : Addr) (fd : FuncData), Mk K C f ∧ L2.Fun K "__init__" qual st f fd ∧ mg x = some (.ref C) ∧ Binds K fd ps []
def MkD (K : PySem.W.Frag) (mg : Str → Option Value) (x : Str) (C : Addr) (qual : Str) (st : Stmt) (ps : List Str) (dvs : List V) : Prop :=
  ∃ (f : Addr) (fd : FuncData), Mk K C f ∧ FunD K "__init__" qual (defArgs st) (defBody st) (defScope st) dvs [] f fd ∧ mg x = some (.ref C) ∧ (∃ ds, Vals [] ds ∧ Binds K fd ps ds) ∧ ∃ ds, Vals dvs ds ∧ Binds K fd ps ds
section
variable {P : Program} {w : World} {K : PySem.W.Frag} {mg : Str → Option Value} {base : Heap} {x m qual : Str} {st : Stmt} {C : Addr} {N ps : List Str} {k : Nat} {sp : Sp} {dvs : List V}
theorem fnf_of (F : FnF K mg x qual st ps) (S : FnScope N ps (defScope st)) (len : ∀ vs H Q E, sp vs H Q E → vs.length = ps.length)
    (hbody : ∀ {f : Addr} (cdv : Value) (A : Around) (outer : List Env) (s : Shared) (H : Hp) (vs : List V) (Q : VK) (E : XK), Room k (A.deeper (envOfC qual (defScope st) s.heap.objs.size f cdv)) → sp vs H Q E →
      ∃ t, PSs (cxOf CX0 P w K mg base N qual (defScope st) f cdv A outer s H E).nox (defBody st) t ∧ t { nx := fun _ H' => Q .non H', rt := Q } (start N vs) H) : Cl P w K mg base (k + 1) x sp [] := by
  obtain ⟨f, fd, F, hm, kp, b⟩ := F
  exact ⟨f, fd, ps, [], F.ok S len hbody, hm, kp, b, .nil⟩
theorem mtf_of (F : MtF K C x m qual st ps) (S : FnScope N ps (defScope st)) (len : ∀ vs H Q E, sp vs H Q E → vs.length = ps.length)
    (hbody : ∀ {f : Addr} (cdv : Value) (A : Around) (outer : List Env) (s : Shared) (H : Hp) (vs : List V) (Q : VK) (E : XK), Room k (A.deeper (envOfC qual (defScope st) s.heap.objs.size f cdv)) → sp vs H Q E →
      ∃ t, PSs (cxOf CX0 P w K mg base N qual (defScope st) f cdv A outer s H E).nox (defBody st) t ∧ t { nx := fun _ H' => Q .non H', rt := Q } (start N vs) H) : Mtl P w K mg base (k + 1) C m sp := by
  obtain ⟨f, fd, c, M, sf, F, b⟩ := F
  exact ⟨f, fd, ps, c, M, sf, F.ok S len hbody, b⟩
theorem gtf_of (F : MtF K C x "__getitem__" qual st ps) (S : FnScope N ps (defScope st)) (len : ∀ vs H Q E, sp vs H Q E → vs.length = ps.length)
    (hbody : ∀ {f : Addr} (cdv : Value) (A : Around) (outer : List Env) (s : Shared) (H : Hp) (vs : List V) (Q : VK) (E : XK), Room k (A.deeper (envOfC qual (defScope st) s.heap.objs.size f cdv)) → sp vs H Q E →
      ∃ t, PSs (cxOf CX0 P w K mg base N qual (defScope st) f cdv A outer s H E).nox (defBody st) t ∧ t { nx := fun _ H' => Q .non H', rt := Q } (start N vs) H) : Gtl P w K mg base (k + 1) C sp := by
  obtain ⟨f, fd, c, M, sf, F, b⟩ := F
  refine ⟨f, fd, ps, M, ?_, F.ok S len hbody, b⟩
  obtain ⟨oc, od, kV, doc, pm, an, cdv, ct, osl, rfl, lk, hcd⟩ := F.ex
  unfold PySem.W.fnIn
  rw [lk]
theorem mkf_of (F : MkF K mg x C qual st ps) (S : FnScope N ps (defScope st)) (len : ∀ vs H Q E, sp vs H Q E → vs.length = ps.length)
    (hbody : ∀ {f : Addr} (cdv : Value) (A : Around) (outer : List Env) (s : Shared) (H : Hp) (vs : List V) (Q : VK) (E : XK), Room k (A.deeper (envOfC qual (defScope st) s.heap.objs.size f cdv)) → sp vs H Q E →
      ∃ t, PSs (cxOf CX0 P w K mg base N qual (defScope st) f cdv A outer s H E).nox (defBody st) t ∧ t { nx := fun _ H' => Q .non H', rt := Q } (start N vs) H) : Mkl P w K mg base (k + 1) x C sp [] := by
  obtain ⟨f, fd, M, F, hm, b⟩ := F
  exact ⟨f, fd, ps, [], M, F.ok S len hbody, hm, b, .nil⟩
theorem mkd_of (F : MkD K mg x C qual st ps dvs) (S : FnScope N ps (defScope st)) (len : ∀ vs H Q E, sp vs H Q E → vs.length = ps.length)
    (hbody : ∀ {f : Addr} (cdv : Value) (A : Around) (outer : List Env) (s : Shared) (H : Hp) (vs : List V) (Q : VK) (E : XK), Room k (A.deeper (envOfC qual (defScope st) s.heap.objs.size f cdv)) → sp vs H Q E →
      ∃ t, PSs (cxOf CX0 P w K mg base N qual (defScope st) f cdv A outer s H E).nox (defBody st) t ∧ t { nx := fun _ H' => Q .non H', rt := Q } (start N vs) H) : Mkl P w K mg base (k + 1) x C sp [] ∧ Mkl P w K mg base (k + 1) x C sp dvs := by
  obtain ⟨f, fd, M, F, hm, ⟨d0, v0, b0⟩, d1, v1, b1⟩ := F
  have ok : FnOk P w K mg base CX0 (k + 1) f fd ps sp := F.ok S len fun cdv A outer s H vs Q E hr h => by
    obtain ⟨t, h1, h2⟩ := hbody cdv A outer s H vs Q E hr h
    exact ⟨t, h1.nox, h2⟩
  exact ⟨⟨f, fd, ps, d0, M, ok, hm, b0, v0⟩, ⟨f, fd, ps, d1, M, ok, hm, b1, v1⟩⟩
end
theorem no_alike_for {g : G} {vs : List V} {H : Hp} {Q : VK} {E : XK} (h : spAlikeFor g 0 vs H Q E) : False := by
  obtain ⟨v1, v2, w1, w2, d1, d2, z1, z2, _, _, _, _, _, _, _, h, _⟩ := h
  omega
theorem rkm_pos {u : UD} {m : Nat} (hs : u.s ≠ none) (ht : 2 ≤ u.t) : 1 ≤ rkm u m := by
  unfold rkm
  cases e : u.s with
  | none => exact absurd e hs
  | some p =>
    obtain ⟨d, z⟩ := p
    show 1 ≤ (if u.t = 0 then 0 else if u.t = 1 then 2 * d else if m ≤ u.w.length then 2 * d + 1 else 2 * d + 2)
    rw [if_neg (by omega), if_neg (by omega)]
    split <;> omega
theorem no_alike_ahead {g : G} {vs : List V} {H : Hp} {Q : VK} {E : XK} (h : spAlikeAhead g 0 vs H Q E) : False := by
  obtain ⟨v1, v2, u1, us1, u2, us2, m, m0, a, b, _, _, _, hm, hm0, _, _, _, _, r1, r2, hab, c1, c2, c3, c4, _⟩ := h
  have k1 := r1.head (by omega)
  have k2 := r2.head (by omega)
  have n1 : ¬ Wd u1 us1 m := fun z => by have := rkm_pos (m := m0) z.part z.t; omega
  have n2 : ¬ Wd u2 us2 m := fun z => by have := rkm_pos (m := m0) z.part z.t; omega
  by_cases e1 : u1.s = none
  · exact n2 (c3 e1)
  · by_cases e2 : u2.s = none
    · exact n1 (c4 e2)
    · rcases Nat.lt_or_ge u1.w.length u2.w.length with h | h
      · exact n2 (c2 e1 e2 h)
      · exact n1 (c1 e1 e2 h)
def spLawK (K : PySem.W.Frag) : Sp := fun vs H Q _ => ∃ (a : Addr) (ns : List Int), vs = [.ref a] ∧ SqL K H a (ns.map V.int) ∧ ns.length ≤ 63 ∧ ∀ H', Q (.bl true) H'
end RH
set_option exponentiation.threshold 256
set_option Elab.async false
set_option linter.all false
set_option maxRecDepth 100000
set_option maxHeartbeats 4000000
set_option exponentiation.threshold 100
namespace RH
open PySem PySem.Spec PyProof.Rows L2
section
variable {P : Program} {w : World} {mg : Str → Option Value} {base : Heap} {g : G}
theorem law_ok (T : Txt g mg)
    (F_is_integer : FnF g.K mg "is_integer" "is_integer" s_is_integer P_is_integer)
    (F_is_between : FnF g.K mg "is_between" "is_between" s_is_between P_is_between)
    (F_is_name : FnF g.K mg "is_name" "is_name" s_is_name P_is_name)
    (F_is_entry : FnF g.K mg "is_entry" "is_entry" s_is_entry P_is_entry)
    (F_Part_init : MkD g.K mg "Part" g.part "Part.__init__" s_Part_init P_Part_init [.non])
    (F_joined : FnF g.K mg "joined" "joined" s_joined P_joined)
    (F_repeated : FnF g.K mg "repeated" "repeated" s_repeated P_repeated)
    (F_width : FnF g.K mg "width" "width" s_width P_width)
    (F_opened : FnF g.K mg "opened" "opened" s_opened P_opened)
    (F_first_unit : FnF g.K mg "first_unit" "first_unit" s_first_unit P_first_unit)
    (F_behind : FnF g.K mg "behind" "behind" s_behind P_behind)
    (F_part_of : FnF g.K mg "part_of" "part_of" s_part_of P_part_of)
    (F_rotated : FnF g.K mg "rotated" "rotated" s_rotated P_rotated)
    (F_gone_by : FnF g.K mg "gone_by" "gone_by" s_gone_by P_gone_by)
    (F_alike_ahead : FnF g.K mg "alike_ahead" "alike_ahead" s_alike_ahead P_alike_ahead)
    (F_run_ahead : FnF g.K mg "run_ahead" "run_ahead" s_run_ahead P_run_ahead)
    (F_agreement : FnF g.K mg "agreement" "agreement" s_agreement P_agreement)
    (F_alike_for : FnF g.K mg "alike_for" "alike_for" s_alike_for P_alike_for)
    (F_check_index : FnF g.K mg "check_index" "check_index" s_check_index P_check_index)
    (F_Made_init : MkD g.K mg "Made" g.made "Made.__init__" s_Made_init P_Made_init [.int 1])
    (F_Word_init : MkF g.K mg "Word" g.word "Word.__init__" s_Word_init P_Word_init)
    (F_Word_add : MtF g.K g.word "__add__" (PySem.dunder (Operator.info .Add).2) "Word.__add__" s_Word_add P_Word_add)
    (F_Word_mul : MtF g.K g.word "__mul__" (PySem.dunder (Operator.info .Mult).2) "Word.__mul__" s_Word_mul P_Word_mul)
    (F_length : MtF g.K g.word "length" "length" "Word.length" s_length P_length)
    (F_cell : FnF g.K mg "_law_cell" "_law_cell" s_cell P_cell)
    (F_digits : FnF g.K mg "_law_digits" "_law_digits" s_digits P_digits)
    (F_entry : FnF g.K mg "_law_entry" "_law_entry" s_entry P_entry)
    (F_row : FnF g.K mg "_law_row" "_law_row" s_row P_row)
    (F_cut : MtF g.K g.word "cut" "cut" "Word.cut" s_cut P_cut)
    (F_entries : MtF g.K g.word "entries" "entries" "Word.entries" s_entries P_entries)
    (F_getitem : MtF g.K g.word "__getitem__" "__getitem__" "Word.__getitem__" s_getitem P_getitem)
    (F_Word_eq : MtF g.K g.word "__eq__" "__eq__" "Word.__eq__" s_Word_eq P_Word_eq)
    (F_built : FnF g.K mg "_law_built" "_law_built" s_built P_built)
    (F_agreeing : FnF g.K mg "agreeing" "agreeing" s_agreeing P_agreeing)
    (F_first_difference : FnF g.K mg "first_difference" "first_difference" s_first_difference P_first_difference)
    (F_check_number : FnF g.K mg "check_number" "check_number" s_check_number P_check_number)
    (F_Walk_init : MkF g.K mg "Walk" g.walk "Walk.__init__" s_Walk_init P_Walk_init)
    (F_next_state : MtF g.K g.walk "next_state" "next_state" "Walk.next_state" s_next_state P_next_state)
    (F_once : MtF g.K g.walk "once" "once" "Walk.once" s_once P_once)
    (F_returns : MtF g.K g.pass "returns" "returns" "Passages.returns" s_returns P_returns)
    (F_done : MtF g.K g.pass "done" "done" "Passages.done" s_done P_done)
    (F_note : MtF g.K g.pass "note" "note" "Passages.note" s_note P_note)
    (F_Passages_init : MkF g.K mg "Passages" g.pass "Passages.__init__" s_Passages_init P_Passages_init)
    (F_passages : MtF g.K g.walk "passages" "passages" "Walk.passages" s_passages P_passages)
    (F_folded : MtF g.K g.pass "folded" "folded" "Passages.folded" s_folded P_folded)
    (F_end : MtF g.K g.pass "end" "end" "Passages.end" s_end P_end)
    (F_go_from : MtF g.K g.walk "go_from" "go_from" "Walk.go_from" s_go_from P_go_from)
    (F_check_row : FnF g.K mg "check_row" "check_row" s_check_row P_check_row)
    (F_matched : FnF g.K mg "matched" "matched" s_matched P_matched)
    (F_row_walk : FnF g.K mg "row_walk" "row_walk" s_row_walk P_row_walk)
    (F_count_row : FnF g.K mg "count_row" "count_row" s_count_row P_count_row)
    (F_stands : FnF g.K mg "_law_stands" "_law_stands" s_stands P_stands)
    (F_otherwise : FnF g.K mg "_law_otherwise" "_law_otherwise" s_otherwise P_otherwise)
    (F_powers_right : FnF g.K mg "_law_powers_right" "_law_powers_right" s_powers_right P_powers_right)
    (F_long_right : FnF g.K mg "_law_long_right" "_law_long_right" s_long_right P_long_right)
    {f_law : Addr} {fd_law : FuncData} (F_law : Fun g.K "law" "law" s_law f_law fd_law) : FnOk P w g.K mg base CX0 (12 + 2 * 20) f_law fd_law P_law (spLaw g) := by
  have h_is_integer : Cl P w g.K mg base 1 "is_integer" spIsInteger [] := fnf_of F_is_integer sc_is_integer (fun vs H Q E h => by unfold spIsInteger at h; repeat (first | (obtain ⟨e, _⟩ := h; subst e; rfl) | (obtain ⟨_, h⟩ := h))) (fun cdv A outer s H vs Q E hr h => ⟨_, d_is_integer T hr, by first | exact p_is_integer T h | exact p_is_integer h⟩)
  have h_is_between : Cl P w g.K mg base 2 "is_between" spIsBetween [] := fnf_of F_is_between sc_is_between (fun vs H Q E h => by unfold spIsBetween at h; repeat (first | (obtain ⟨e, _⟩ := h; subst e; rfl) | (obtain ⟨_, h⟩ := h))) (fun cdv A outer s H vs Q E hr h => ⟨_, d_is_between T hr h_is_integer, by first | exact p_is_between T h | exact p_is_between h⟩)
  have h_is_name : Cl P w g.K mg base 1 "is_name" spIsName [] := fnf_of F_is_name sc_is_name (fun vs H Q E h => by rcases h with ⟨x, rfl, _⟩ | ⟨rfl, _⟩ <;> rfl) (fun cdv A outer s H vs Q E hr h => ⟨_, d_is_name T hr, by first | exact p_is_name T h | exact p_is_name h⟩)
  have h_is_entry : Cl P w g.K mg base 2 "is_entry" spIsEntry [] := fnf_of F_is_entry sc_is_entry (fun vs H Q E h => by unfold spIsEntry at h; repeat (first | (obtain ⟨e, _⟩ := h; subst e; rfl) | (obtain ⟨_, h⟩ := h))) (fun cdv A outer s H vs Q E hr h => ⟨_, d_is_entry T hr h_is_name, by first | exact p_is_entry T h | exact p_is_entry h⟩)
  have o_Part_init := mkd_of (P := P) (w := w) (base := base) F_Part_init sc_Part_init (sp := (spPartInit g)) (fun vs H Q E h => by unfold spPartInit at h; repeat (first | (obtain ⟨e, _⟩ := h; subst e; rfl) | (obtain ⟨_, h⟩ := h))) (fun cdv A outer s H vs Q E hr h => ⟨_, d_Part_init T hr, by first | exact p_Part_init T h | exact p_Part_init h⟩)
  have h_Part : Mkl P w g.K mg base 1 "Part" g.part (spPartInit g) [] := o_Part_init.1
  have h_Part_d : Mkl P w g.K mg base 1 "Part" g.part (spPartInit g) [.non] := o_Part_init.2
  have h_joined : Cl P w g.K mg base 3 "joined" (spJoined g) [] := fnf_of F_joined sc_joined (fun vs H Q E h => by unfold spJoined at h; repeat (first | (obtain ⟨e, _⟩ := h; subst e; rfl) | (obtain ⟨_, h⟩ := h))) (fun cdv A outer s H vs Q E hr h => ⟨_, d_joined T hr h_Part_d, by first | exact p_joined T h | exact p_joined h⟩)
  have h_repeated : Cl P w g.K mg base 3 "repeated" (spRepeated g) [] := fnf_of F_repeated sc_repeated (fun vs H Q E h => by unfold spRepeated at h; repeat (first | (obtain ⟨e, _⟩ := h; subst e; rfl) | (obtain ⟨_, h⟩ := h))) (fun cdv A outer s H vs Q E hr h => ⟨_, d_repeated T hr h_Part_d, by first | exact p_repeated T h | exact p_repeated h⟩)
  have h_width : Cl P w g.K mg base 1 "width" (spWidth g) [] := fnf_of F_width sc_width (fun vs H Q E h => by unfold spWidth at h; repeat (first | (obtain ⟨e, _⟩ := h; subst e; rfl) | (obtain ⟨_, h⟩ := h))) (fun cdv A outer s H vs Q E hr h => ⟨_, d_width T hr, by first | exact p_width T h | exact p_width h⟩)
  have h_opened : Cl P w g.K mg base 1 "opened" (spOpened g) [] := fnf_of F_opened sc_opened (fun vs H Q E h => by unfold spOpened at h; repeat (first | (obtain ⟨e, _⟩ := h; subst e; rfl) | (obtain ⟨_, h⟩ := h))) (fun cdv A outer s H vs Q E hr h => ⟨_, d_opened T hr, by first | exact p_opened T h | exact p_opened h⟩)
  have h_first_unit : Cl P w g.K mg base 2 "first_unit" (spFirstUnit g) [] := fnf_of F_first_unit sc_first_unit (fun vs H Q E h => by unfold spFirstUnit at h; repeat (first | (obtain ⟨e, _⟩ := h; subst e; rfl) | (obtain ⟨_, h⟩ := h))) (fun cdv A outer s H vs Q E hr h => ⟨_, d_first_unit T hr h_opened, by first | exact p_first_unit T h | exact p_first_unit h⟩)
  have h_behind : Cl P w g.K mg base 2 "behind" (spBehind g) [] := fnf_of F_behind sc_behind (fun vs H Q E h => by unfold spBehind at h; repeat (first | (obtain ⟨e, _⟩ := h; subst e; rfl) | (obtain ⟨_, h⟩ := h))) (fun cdv A outer s H vs Q E hr h => ⟨_, d_behind T hr h_width h_opened, by first | exact p_behind T h | exact p_behind h⟩)
  have h_part_of : Cl P w g.K mg base 4 "part_of" (spPartOf g) [] := fnf_of F_part_of sc_part_of (fun vs H Q E h => by unfold spPartOf at h; repeat (first | (obtain ⟨e, _⟩ := h; subst e; rfl) | (obtain ⟨_, h⟩ := h))) (fun cdv A outer s H vs Q E hr h => ⟨_, d_part_of T hr h_opened h_width h_repeated h_joined h_Part_d, by first | exact p_part_of T h | exact p_part_of h⟩)
  have h_rotated : Cl P w g.K mg base 5 "rotated" (spRotated g) [] := fnf_of F_rotated sc_rotated (fun vs H Q E h => by unfold spRotated at h; repeat (first | (obtain ⟨e, _⟩ := h; subst e; rfl) | (obtain ⟨_, h⟩ := h))) (fun cdv A outer s H vs Q E hr h => ⟨_, d_rotated T hr h_Part h_part_of h_behind h_joined, by first | exact p_rotated T h | exact p_rotated h⟩)
  have h_gone_by : Cl P w g.K mg base 6 "gone_by" (spGoneBy g) [] := fnf_of F_gone_by sc_gone_by (fun vs H Q E h => by unfold spGoneBy at h; repeat (first | (obtain ⟨e, _⟩ := h; subst e; rfl) | (obtain ⟨_, h⟩ := h))) (fun cdv A outer s H vs Q E hr h => ⟨_, d_gone_by T hr h_width h_opened h_rotated h_behind h_part_of, by first | exact p_gone_by T h | exact p_gone_by h⟩)

  have h_run_ahead : Cl P w g.K mg base 3 "run_ahead" (spRunAhead g) [] := fnf_of F_run_ahead sc_run_ahead (fun vs H Q E h => by unfold spRunAhead at h; repeat (first | (obtain ⟨e, _⟩ := h; subst e; rfl) | (obtain ⟨_, h⟩ := h))) (fun cdv A outer s H vs Q E hr h => ⟨_, d_run_ahead T hr h_first_unit, by first | exact p_run_ahead T h | exact p_run_ahead h⟩)
  have h_agr : ∀ n, Cl P w g.K mg base (7 + 2 * (n)) "alike_for" (spAlikeFor g (n)) [] → Cl P w g.K mg base (7 + 2 * (n)) "alike_ahead" (spAlikeAhead g (n)) [] → Cl P w g.K mg base (8 + 2 * (n)) "agreement" (spAgreement g (n)) [] := fun n h_alike_for h_alike_ahead =>
    (fnf_of F_agreement sc_agreement (fun vs H Q E h => by unfold spAgreement at h; repeat (first | (obtain ⟨e, _⟩ := h; subst e; rfl) | (obtain ⟨_, h⟩ := h))) (fun cdv A outer s H vs Q E hr h => ⟨_, d_agreement (n := n) T hr h_gone_by h_alike_ahead h_run_ahead h_width h_alike_for h_first_unit, by first | exact p_agreement T h | exact p_agreement h⟩)).mono (by omega)
  have h_rec : ∀ n, Cl P w g.K mg base (7 + 2 * (n)) "alike_for" (spAlikeFor g (n)) [] ∧ Cl P w g.K mg base (7 + 2 * (n)) "alike_ahead" (spAlikeAhead g (n)) [] ∧ Cl P w g.K mg base (8 + 2 * (n)) "agreement" (spAgreement g (n)) [] := by
    intro n
    induction n with
    | zero =>
      have a : Cl P w g.K mg base (7 + 2 * (0)) "alike_for" (spAlikeFor g (0)) [] := (fnf_of (k := 6) F_alike_for sc_alike_for (fun vs H Q E h => (no_alike_for h).elim) (fun _ _ _ _ _ _ _ _ _ h => (no_alike_for h).elim)).mono (by omega)
      have b : Cl P w g.K mg base (7 + 2 * (0)) "alike_ahead" (spAlikeAhead g (0)) [] := (fnf_of (k := 6) F_alike_ahead sc_alike_ahead (fun vs H Q E h => (no_alike_ahead h).elim) (fun _ _ _ _ _ _ _ _ _ h => (no_alike_ahead h).elim)).mono (by omega)
      exact ⟨a, b, h_agr 0 a b⟩
    | succ n ih =>
      obtain ⟨_, _, h_agreement⟩ := ih
      have a : Cl P w g.K mg base (7 + 2 * (n + 1)) "alike_for" (spAlikeFor g (n + 1)) [] := (fnf_of F_alike_for sc_alike_for (fun vs H Q E h => by unfold spAlikeFor at h; repeat (first | (obtain ⟨e, _⟩ := h; subst e; rfl) | (obtain ⟨_, h⟩ := h))) (fun cdv A outer s H vs Q E hr h => ⟨_, d_alike_for (n := n) T hr h_opened h_agreement, by first | exact p_alike_for T h | exact p_alike_for h⟩)).mono (by omega)
      have b : Cl P w g.K mg base (7 + 2 * (n + 1)) "alike_ahead" (spAlikeAhead g (n + 1)) [] := (fnf_of F_alike_ahead sc_alike_ahead (fun vs H Q E h => by unfold spAlikeAhead at h; repeat (first | (obtain ⟨e, _⟩ := h; subst e; rfl) | (obtain ⟨_, h⟩ := h))) (fun cdv A outer s H vs Q E hr h => ⟨_, d_alike_ahead (n := n) T hr h_opened h_agreement, by first | exact p_alike_ahead T h | exact p_alike_ahead h⟩)).mono (by omega)
      exact ⟨a, b, h_agr (n + 1) a b⟩
  obtain ⟨h_alike_for, h_alike_ahead, h_agreement⟩ := h_rec 20

  have h_check_index : Cl P w g.K mg base 3 "check_index" spCheckIndex [] := fnf_of F_check_index sc_check_index (fun vs H Q E h => by unfold spCheckIndex at h; repeat (first | (obtain ⟨e, _⟩ := h; subst e; rfl) | (obtain ⟨_, h⟩ := h))) (fun cdv A outer s H vs Q E hr h => ⟨_, d_check_index T hr h_is_between, by first | exact p_check_index T h | exact p_check_index h⟩)
  have o_Made_init := mkd_of (P := P) (w := w) (base := base) F_Made_init sc_Made_init (sp := (spMadeInit g)) (fun vs H Q E h => by unfold spMadeInit at h; repeat (first | (obtain ⟨e, _⟩ := h; subst e; rfl) | (obtain ⟨_, h⟩ := h))) (fun cdv A outer s H vs Q E hr h => ⟨_, d_Made_init T hr, by first | exact p_Made_init T h | exact p_Made_init h⟩)
  have h_Made : Mkl P w g.K mg base 1 "Made" g.made (spMadeInit g) [] := o_Made_init.1
  have h_Word : Mkl P w g.K mg base 4 "Word" g.word (spWordInit g) [] := mkf_of F_Word_init sc_Word_init (fun vs H Q E h => by rcases h with ⟨a, dx, b, dy, p, n, q, rfl, _⟩ | ⟨a, dx, l, es, w, rfl, _⟩ <;> rfl) (fun cdv A outer s H vs Q E hr h => ⟨_, d_Word_init T hr h_Part_d h_joined h_is_entry, by first | exact p_Word_init T h | exact p_Word_init h⟩)
  have h_Word_add : Mtl P w g.K mg base 6 g.word (PySem.dunder (Operator.info .Add).2) (spWordAdd g) := mtf_of F_Word_add sc_Word_add (fun vs H Q E h => by unfold spWordAdd at h; repeat (first | (obtain ⟨e, _⟩ := h; subst e; rfl) | (obtain ⟨_, h⟩ := h))) (fun cdv A outer s H vs Q E hr h => ⟨_, d_Word_add T hr h_joined h_Made h_Word, by first | exact p_Word_add T h | exact p_Word_add h⟩)
  have h_Word_mul : Mtl P w g.K mg base 6 g.word (PySem.dunder (Operator.info .Mult).2) (spWordMul g) := mtf_of F_Word_mul sc_Word_mul (fun vs H Q E h => by unfold spWordMul at h; repeat (first | (obtain ⟨e, _⟩ := h; subst e; rfl) | (obtain ⟨_, h⟩ := h))) (fun cdv A outer s H vs Q E hr h => ⟨_, d_Word_mul T hr h_repeated h_Made h_Word h_is_between, by first | exact p_Word_mul T h | exact p_Word_mul h⟩)
  have h_length : Mtl P w g.K mg base 1 g.word "length" (spLength g) := mtf_of F_length sc_length (fun vs H Q E h => by unfold spLength at h; repeat (first | (obtain ⟨e, _⟩ := h; subst e; rfl) | (obtain ⟨_, h⟩ := h))) (fun cdv A outer s H vs Q E hr h => ⟨_, d_length T hr, by first | exact p_length T h | exact p_length h⟩)
  have h_cell : Cl P w g.K mg base 1 "_law_cell" (spCell g) [] := fnf_of F_cell sc_cell (fun vs H Q E h => by unfold spCell at h; repeat (first | (obtain ⟨e, _⟩ := h; subst e; rfl) | (obtain ⟨_, h⟩ := h))) (fun cdv A outer s H vs Q E hr h => ⟨_, d_cell T hr, by first | exact p_cell T h | exact p_cell h⟩)
  have h_digits : Cl P w g.K mg base 1 "_law_digits" spDigits [] := fnf_of F_digits sc_digits (fun vs H Q E h => by unfold spDigits at h; repeat (first | (obtain ⟨e, _⟩ := h; subst e; rfl) | (obtain ⟨_, h⟩ := h))) (fun cdv A outer s H vs Q E hr h => ⟨_, d_digits T hr, by first | exact p_digits T h | exact p_digits h⟩)
  have h_entry : Cl P w g.K mg base 1 "_law_entry" spEntry [] := fnf_of F_entry sc_entry (fun vs H Q E h => by unfold spEntry at h; repeat (first | (obtain ⟨e, _⟩ := h; subst e; rfl) | (obtain ⟨_, h⟩ := h))) (fun cdv A outer s H vs Q E hr h => ⟨_, d_entry T hr, by first | exact p_entry T h | exact p_entry h⟩)
  have h_row : Cl P w g.K mg base 2 "_law_row" spRow [] := fnf_of F_row sc_row (fun vs H Q E h => by unfold spRow at h; repeat (first | (obtain ⟨e, _⟩ := h; subst e; rfl) | (obtain ⟨_, h⟩ := h))) (fun cdv A outer s H vs Q E hr h => ⟨_, d_row T hr h_entry, by first | exact p_row T h | exact p_row h⟩)
  have h_cut : Mtl P w g.K mg base 6 g.word "cut" (spCut g) := mtf_of F_cut sc_cut (fun vs H Q E h => by unfold spCut at h; repeat (first | (obtain ⟨e, _⟩ := h; subst e; rfl) | (obtain ⟨_, h⟩ := h))) (fun cdv A outer s H vs Q E hr h => ⟨_, d_cut T hr h_behind h_part_of h_Made h_Word h_check_index, by first | exact p_cut T h | exact p_cut h⟩)
  have h_entries : Mtl P w g.K mg base 4 g.word "entries" (spEntries g) := mtf_of F_entries sc_entries (fun vs H Q E h => by unfold spEntries at h; repeat (first | (obtain ⟨e, _⟩ := h; subst e; rfl) | (obtain ⟨_, h⟩ := h))) (fun cdv A outer s H vs Q E hr h => ⟨_, d_entries T hr h_opened h_first_unit h_behind h_check_index, by first | exact p_entries T h | exact p_entries h⟩)
  have h_getitem : Gtl P w g.K mg base 5 g.word (spGetItem g) := gtf_of F_getitem sc_getitem (fun vs H Q E h => by unfold spGetItem at h; repeat (first | (obtain ⟨e, _⟩ := h; subst e; rfl) | (obtain ⟨_, h⟩ := h))) (fun cdv A outer s H vs Q E hr h => ⟨_, d_getitem T hr h_entries h_check_index, by first | exact p_getitem T h | exact p_getitem h⟩)
  have h_Word_eq : Mtl P w g.K mg base (9 + 2 * 20) g.word "__eq__" (spWordEq g 20) := mtf_of F_Word_eq sc_Word_eq (fun vs H Q E h => by unfold spWordEq at h; repeat (first | (obtain ⟨e, _⟩ := h; subst e; rfl) | (obtain ⟨_, h⟩ := h))) (fun cdv A outer s H vs Q E hr h => ⟨_, d_Word_eq (n := 20) T hr h_agreement, by first | exact p_Word_eq T h | exact p_Word_eq h⟩)
  have h_b : Cl P w g.K mg base (6 + 0) "_law_built" (fun _ _ _ _ => False) [] := fnf_of (k := 5) F_built sc_built (fun _ _ _ _ h => h.elim) (fun _ _ _ _ _ _ _ _ _ h => h.elim)
  have h_b : Cl P w g.K mg base (6 + 1) "_law_built" (spBuilt g 0) [] := fnf_of (k := 6 + 0) F_built sc_built (fun vs H Q E h => by unfold spBuilt at h; repeat (first | (obtain ⟨e, _⟩ := h; subst e; rfl) | (obtain ⟨_, h⟩ := h))) (fun cdv A outer s H vs Q E hr h => ⟨_, d_built (k := 0) (sp := (fun _ _ _ _ => False)) T hr h_Word_add h_b h_Word_mul h_Word h_row, by exact p_built T (by decide) (fun j z => absurd z (by omega)) h⟩)
  have h_b : Cl P w g.K mg base (6 + 2) "_law_built" (spBuilt g 1) [] := fnf_of (k := 6 + 1) F_built sc_built (fun vs H Q E h => by unfold spBuilt at h; repeat (first | (obtain ⟨e, _⟩ := h; subst e; rfl) | (obtain ⟨_, h⟩ := h))) (fun cdv A outer s H vs Q E hr h => ⟨_, d_built (k := 1) (sp := (spBuilt g 0)) T hr h_Word_add h_b h_Word_mul h_Word h_row, by exact p_built T (by decide) (fun j z => by cases z; rfl) h⟩)
  have h_b : Cl P w g.K mg base (6 + 3) "_law_built" (spBuilt g 2) [] := fnf_of (k := 6 + 2) F_built sc_built (fun vs H Q E h => by unfold spBuilt at h; repeat (first | (obtain ⟨e, _⟩ := h; subst e; rfl) | (obtain ⟨_, h⟩ := h))) (fun cdv A outer s H vs Q E hr h => ⟨_, d_built (k := 2) (sp := (spBuilt g 1)) T hr h_Word_add h_b h_Word_mul h_Word h_row, by exact p_built T (by decide) (fun j z => by cases z; rfl) h⟩)
  have h_b : Cl P w g.K mg base (6 + 4) "_law_built" (spBuilt g 3) [] := fnf_of (k := 6 + 3) F_built sc_built (fun vs H Q E h => by unfold spBuilt at h; repeat (first | (obtain ⟨e, _⟩ := h; subst e; rfl) | (obtain ⟨_, h⟩ := h))) (fun cdv A outer s H vs Q E hr h => ⟨_, d_built (k := 3) (sp := (spBuilt g 2)) T hr h_Word_add h_b h_Word_mul h_Word h_row, by exact p_built T (by decide) (fun j z => by cases z; rfl) h⟩)
  have h_built : Cl P w g.K mg base 10 "_law_built" (spBuilt g 3) [] := h_b
  have h_agreeing : Cl P w g.K mg base (9 + 2 * 20) "agreeing" (spAgreeing g 20) [] := fnf_of F_agreeing sc_agreeing (fun vs H Q E h => by unfold spAgreeing at h; repeat (first | (obtain ⟨e, _⟩ := h; subst e; rfl) | (obtain ⟨_, h⟩ := h))) (fun cdv A outer s H vs Q E hr h => ⟨_, d_agreeing (n := 20) T hr h_behind h_agreement h_length h_check_index, by first | exact p_agreeing T h | exact p_agreeing h⟩)
  have h_first_difference : Cl P w g.K mg base (10 + 2 * 20) "first_difference" (spFirstDiff g 20) [] := fnf_of F_first_difference sc_first_difference (fun vs H Q E h => by unfold spFirstDiff at h; repeat (first | (obtain ⟨e, _⟩ := h; subst e; rfl) | (obtain ⟨_, h⟩ := h))) (fun cdv A outer s H vs Q E hr h => ⟨_, d_first_difference (n := 20) T hr h_length h_agreeing, by first | exact p_first_difference T h | exact p_first_difference h⟩)
  have h_check_number : Cl P w g.K mg base 3 "check_number" spCheckIndex [] := fnf_of F_check_number sc_check_number (fun vs H Q E h => by unfold spCheckIndex at h; repeat (first | (obtain ⟨e, _⟩ := h; subst e; rfl) | (obtain ⟨_, h⟩ := h))) (fun cdv A outer s H vs Q E hr h => ⟨_, d_check_number T hr h_is_between, by first | exact p_check_number T h | exact p_check_number h⟩)
  have h_Walk : Mkl P w g.K mg base 1 "Walk" g.walk (spWalkInit g) [] := mkf_of F_Walk_init sc_Walk_init (fun vs H Q E h => by unfold spWalkInit at h; repeat (first | (obtain ⟨e, _⟩ := h; subst e; rfl) | (obtain ⟨_, h⟩ := h))) (fun cdv A outer s H vs Q E hr h => ⟨_, d_Walk_init T hr, by first | exact p_Walk_init T h | exact p_Walk_init h⟩)
  have h_next_state : Mtl P w g.K mg base 1 g.walk "next_state" (spNextState g w) := mtf_of F_next_state sc_next_state (fun vs H Q E h => by unfold spNextState at h; repeat (first | (obtain ⟨e, _⟩ := h; subst e; rfl) | (obtain ⟨_, h⟩ := h))) (fun cdv A outer s H vs Q E hr h => ⟨_, d_next_state T hr, by first | exact p_next_state T h | exact p_next_state h⟩)
  have h_once : Mtl P w g.K mg base 2 g.walk "once" (spOnce g w) := mtf_of F_once sc_once (fun vs H Q E h => by unfold spOnce at h; repeat (first | (obtain ⟨e, _⟩ := h; subst e; rfl) | (obtain ⟨_, h⟩ := h))) (fun cdv A outer s H vs Q E hr h => ⟨_, d_once T hr h_next_state, by first | exact p_once T h | exact p_once h⟩)
  have h_returns : Mtl P w g.K mg base 1 g.pass "returns" (spReturns g) := mtf_of F_returns sc_returns (fun vs H Q E h => by unfold spReturns at h; repeat (first | (obtain ⟨e, _⟩ := h; subst e; rfl) | (obtain ⟨_, h⟩ := h))) (fun cdv A outer s H vs Q E hr h => ⟨_, d_returns T hr, by first | exact p_returns T h | exact p_returns h⟩)
  have h_done : Mtl P w g.K mg base 1 g.pass "done" (spDone g) := mtf_of F_done sc_done (fun vs H Q E h => by unfold spDone at h; repeat (first | (obtain ⟨e, _⟩ := h; subst e; rfl) | (obtain ⟨_, h⟩ := h))) (fun cdv A outer s H vs Q E hr h => ⟨_, d_done T hr, by first | exact p_done T h | exact p_done h⟩)
  have h_note : Mtl P w g.K mg base 1 g.pass "note" (spNote g) := mtf_of F_note sc_note (fun vs H Q E h => by unfold spNote at h; repeat (first | (obtain ⟨e, _⟩ := h; subst e; rfl) | (obtain ⟨_, h⟩ := h))) (fun cdv A outer s H vs Q E hr h => ⟨_, d_note T hr, by first | exact p_note T h | exact p_note h⟩)
  have h_Passages : Mkl P w g.K mg base 1 "Passages" g.pass (spPassInit g) [] := mkf_of F_Passages_init sc_Passages_init (fun vs H Q E h => by unfold spPassInit at h; repeat (first | (obtain ⟨e, _⟩ := h; subst e; rfl) | (obtain ⟨_, h⟩ := h))) (fun cdv A outer s H vs Q E hr h => ⟨_, d_Passages_init T hr, by first | exact p_Passages_init T h | exact p_Passages_init h⟩)
  have h_passages : Mtl P w g.K mg base 3 g.walk "passages" (spPassages g w) := mtf_of F_passages sc_passages (fun vs H Q E h => by unfold spPassages at h; repeat (first | (obtain ⟨e, _⟩ := h; subst e; rfl) | (obtain ⟨_, h⟩ := h))) (fun cdv A outer s H vs Q E hr h => ⟨_, d_passages T hr h_returns h_done h_note h_once h_Passages, by first | exact p_passages T h | exact p_passages h⟩)
  have h_folded : Mtl P w g.K mg base 2 g.pass "folded" (spFolded g) := mtf_of F_folded sc_folded (fun vs H Q E h => by unfold spFolded at h; repeat (first | (obtain ⟨e, _⟩ := h; subst e; rfl) | (obtain ⟨_, h⟩ := h))) (fun cdv A outer s H vs Q E hr h => ⟨_, d_folded T hr h_done, by first | exact p_folded T h | exact p_folded h⟩)
  have h_end : Mtl P w g.K mg base 3 g.pass "end" (spEnd g) := mtf_of F_end sc_end (fun vs H Q E h => by unfold spEnd at h; repeat (first | (obtain ⟨e, _⟩ := h; subst e; rfl) | (obtain ⟨_, h⟩ := h))) (fun cdv A outer s H vs Q E hr h => ⟨_, d_end T hr h_folded, by first | exact p_end T h | exact p_end h⟩)
  have h_go_from : Mtl P w g.K mg base 4 g.walk "go_from" (spGoFrom g w) := mtf_of F_go_from sc_go_from (fun vs H Q E h => by unfold spGoFrom at h; repeat (first | (obtain ⟨e, _⟩ := h; subst e; rfl) | (obtain ⟨_, h⟩ := h))) (fun cdv A outer s H vs Q E hr h => ⟨_, d_go_from T hr h_opened h_width h_end h_passages h_first_unit, by first | exact p_go_from T h | exact p_go_from h⟩)
  have h_check_row : Cl P w g.K mg base 3 "check_row" spCheckRow [] := fnf_of F_check_row sc_check_row (fun vs H Q E h => by unfold spCheckRow at h; repeat (first | (obtain ⟨e, _⟩ := h; subst e; rfl) | (obtain ⟨_, h⟩ := h))) (fun cdv A outer s H vs Q E hr h => ⟨_, d_check_row T hr h_is_entry, by first | exact p_check_row T h | exact p_check_row h⟩)
  have h_matched : Cl P w g.K mg base 1 "matched" spMatched [] := fnf_of F_matched sc_matched (fun vs H Q E h => by unfold spMatched at h; repeat (first | (obtain ⟨e, _⟩ := h; subst e; rfl) | (obtain ⟨_, h⟩ := h))) (fun cdv A outer s H vs Q E hr h => ⟨_, d_matched T hr, by first | exact p_matched T h | exact p_matched h⟩)
  have h_row_walk : Cl P w g.K mg base 3 "row_walk" (spRowWalk g w) [] := fnf_of F_row_walk sc_row_walk (fun vs H Q E h => by unfold spRowWalk at h; repeat (first | (obtain ⟨e, _⟩ := h; subst e; rfl) | (obtain ⟨_, h⟩ := h))) (fun cdv A outer s H vs Q E hr h => ⟨_, d_row_walk T hr h_Walk h_matched, by first | exact p_row_walk T h | exact p_row_walk h⟩)
  have h_count_row : Cl P w g.K mg base 5 "count_row" (spCountRow g) [] := fnf_of F_count_row sc_count_row (fun vs H Q E h => by unfold spCountRow at h; repeat (first | (obtain ⟨e, _⟩ := h; subst e; rfl) | (obtain ⟨_, h⟩ := h))) (fun cdv A outer s H vs Q E hr h => ⟨_, d_count_row T hr h_go_from h_row_walk h_length h_check_number h_check_row, by first | exact p_count_row T h | exact p_count_row h⟩)
  have h_stands : Cl P w g.K mg base 1 "_law_stands" spStands [] := fnf_of F_stands sc_stands (fun vs H Q E h => by unfold spStands at h; repeat (first | (obtain ⟨e, _⟩ := h; subst e; rfl) | (obtain ⟨_, h⟩ := h))) (fun cdv A outer s H vs Q E hr h => ⟨_, d_stands T hr, by first | exact p_stands T h | exact p_stands h⟩)
  have h_otherwise : Cl P w g.K mg base 11 "_law_otherwise" (spOtherwise g) [] := fnf_of F_otherwise sc_otherwise (fun vs H Q E h => by unfold spOtherwise at h; repeat (first | (obtain ⟨e, _⟩ := h; subst e; rfl) | (obtain ⟨_, h⟩ := h))) (fun cdv A outer s H vs Q E hr h => ⟨_, d_otherwise T hr h_Word_add h_Word h_Word_mul h_cut, by first | exact p_otherwise T h | exact p_otherwise h⟩)
  have h_powers_right : Cl P w g.K mg base (11 + 2 * 20) "_law_powers_right" (spPowersRight g) [] := fnf_of F_powers_right sc_powers_right (fun vs H Q E h => by unfold spPowersRight at h; repeat (first | (obtain ⟨e, _⟩ := h; subst e; rfl) | (obtain ⟨_, h⟩ := h))) (fun cdv A outer s H vs Q E hr h => ⟨_, d_powers_right (n := 20) T hr h_Word_eq h_Word_mul h_Word h_Word_add, by exact p_powers_right T (by decide) h⟩)
  have h_long_right : Cl P w g.K mg base (11 + 2 * 20) "_law_long_right" (spLongRight g) [] := fnf_of F_long_right sc_long_right (fun vs H Q E h => by unfold spLongRight at h; repeat (first | (obtain ⟨e, _⟩ := h; subst e; rfl) | (obtain ⟨_, h⟩ := h))) (fun cdv A outer s H vs Q E hr h => ⟨_, d_long_right (n := 20) T hr h_count_row h_stands h_Word_eq h_cut h_getitem h_Word_add h_first_difference h_Word h_entry, by exact p_long_right T (by decide) h⟩)
  exact F_law.ok sc_law (fun vs H Q E h => by obtain ⟨a, ns, rfl, _⟩ := h; rfl) (fun cdv A outer s H vs Q E hr h => ⟨_, d_law (n := 20) T hr h_first_difference h_Word_eq h_Word_add h_cut h_Word h_row h_powers_right h_otherwise h_entries h_built h_cell h_digits h_long_right, by exact p_law T (by decide) h⟩)
end
theorem all_mk {P : Program} {w : World} {K : PySem.W.Frag} {h : Heap} {mg : Str → Option Value} {fa : Addr}
    {cPart cMade cWord cWalk cPassages kinds : Addr}
    {u_LETTERS : Value}
    {u_MOST_LETTERS : Value}
    {u_MOST_IN_ROW : Value}
    {u_MOST_DEPTH : Value}
    {u_MOST_PIECES : Value}
    {u_MOST_TOLD : Value}
    {u_MOST_ROW : Value}
    {o_kinds : Obj} {it_kinds : Array Value} {n_kinds : Nat}
    {f_is_integer : Addr} {oc_is_integer kV_is_integer dc_is_integer pm_is_integer cd_is_integer ct_is_integer : Value} {od_is_integer an_is_integer : Option Addr} {sl_is_integer : Array (Option Value)}
    {f_is_between : Addr} {oc_is_between kV_is_between dc_is_between pm_is_between cd_is_between ct_is_between : Value} {od_is_between an_is_between : Option Addr} {sl_is_between : Array (Option Value)}
    {f_is_name : Addr} {oc_is_name kV_is_name dc_is_name pm_is_name cd_is_name ct_is_name : Value} {od_is_name an_is_name : Option Addr} {sl_is_name : Array (Option Value)}
    {f_is_entry : Addr} {oc_is_entry kV_is_entry dc_is_entry pm_is_entry cd_is_entry ct_is_entry : Value} {od_is_entry an_is_entry : Option Addr} {sl_is_entry : Array (Option Value)}
    {f_Part_init : Addr} {oc_Part_init kV_Part_init dc_Part_init pm_Part_init cd_Part_init ct_Part_init : Value} {od_Part_init an_Part_init : Option Addr} {sl_Part_init : Array (Option Value)}
    {T_Part_init : Addr} {oT_Part_init : Obj} {iT_Part_init : List Value} {nT_Part_init : Nat}
    {f_joined : Addr} {oc_joined kV_joined dc_joined pm_joined cd_joined ct_joined : Value} {od_joined an_joined : Option Addr} {sl_joined : Array (Option Value)}
    {f_repeated : Addr} {oc_repeated kV_repeated dc_repeated pm_repeated cd_repeated ct_repeated : Value} {od_repeated an_repeated : Option Addr} {sl_repeated : Array (Option Value)}
    {f_width : Addr} {oc_width kV_width dc_width pm_width cd_width ct_width : Value} {od_width an_width : Option Addr} {sl_width : Array (Option Value)}
    {f_opened : Addr} {oc_opened kV_opened dc_opened pm_opened cd_opened ct_opened : Value} {od_opened an_opened : Option Addr} {sl_opened : Array (Option Value)}
    {f_first_unit : Addr} {oc_first_unit kV_first_unit dc_first_unit pm_first_unit cd_first_unit ct_first_unit : Value} {od_first_unit an_first_unit : Option Addr} {sl_first_unit : Array (Option Value)}
    {f_behind : Addr} {oc_behind kV_behind dc_behind pm_behind cd_behind ct_behind : Value} {od_behind an_behind : Option Addr} {sl_behind : Array (Option Value)}
    {f_part_of : Addr} {oc_part_of kV_part_of dc_part_of pm_part_of cd_part_of ct_part_of : Value} {od_part_of an_part_of : Option Addr} {sl_part_of : Array (Option Value)}
    {f_rotated : Addr} {oc_rotated kV_rotated dc_rotated pm_rotated cd_rotated ct_rotated : Value} {od_rotated an_rotated : Option Addr} {sl_rotated : Array (Option Value)}
    {f_gone_by : Addr} {oc_gone_by kV_gone_by dc_gone_by pm_gone_by cd_gone_by ct_gone_by : Value} {od_gone_by an_gone_by : Option Addr} {sl_gone_by : Array (Option Value)}
    {f_alike_ahead : Addr} {oc_alike_ahead kV_alike_ahead dc_alike_ahead pm_alike_ahead cd_alike_ahead ct_alike_ahead : Value} {od_alike_ahead an_alike_ahead : Option Addr} {sl_alike_ahead : Array (Option Value)}
    {f_run_ahead : Addr} {oc_run_ahead kV_run_ahead dc_run_ahead pm_run_ahead cd_run_ahead ct_run_ahead : Value} {od_run_ahead an_run_ahead : Option Addr} {sl_run_ahead : Array (Option Value)}
    {f_agreement : Addr} {oc_agreement kV_agreement dc_agreement pm_agreement cd_agreement ct_agreement : Value} {od_agreement an_agreement : Option Addr} {sl_agreement : Array (Option Value)}
    {f_alike_for : Addr} {oc_alike_for kV_alike_for dc_alike_for pm_alike_for cd_alike_for ct_alike_for : Value} {od_alike_for an_alike_for : Option Addr} {sl_alike_for : Array (Option Value)}
    {f_check_index : Addr} {oc_check_index kV_check_index dc_check_index pm_check_index cd_check_index ct_check_index : Value} {od_check_index an_check_index : Option Addr} {sl_check_index : Array (Option Value)}
    {f_Made_init : Addr} {oc_Made_init kV_Made_init dc_Made_init pm_Made_init cd_Made_init ct_Made_init : Value} {od_Made_init an_Made_init : Option Addr} {sl_Made_init : Array (Option Value)}
    {T_Made_init : Addr} {oT_Made_init : Obj} {iT_Made_init : List Value} {nT_Made_init : Nat}
    {f_Word_init : Addr} {oc_Word_init kV_Word_init dc_Word_init pm_Word_init cd_Word_init ct_Word_init : Value} {od_Word_init an_Word_init : Option Addr} {sl_Word_init : Array (Option Value)}
    {f_Word_add : Addr} {oc_Word_add kV_Word_add dc_Word_add pm_Word_add cd_Word_add ct_Word_add : Value} {od_Word_add an_Word_add : Option Addr} {sl_Word_add : Array (Option Value)}
    {f_Word_mul : Addr} {oc_Word_mul kV_Word_mul dc_Word_mul pm_Word_mul cd_Word_mul ct_Word_mul : Value} {od_Word_mul an_Word_mul : Option Addr} {sl_Word_mul : Array (Option Value)}
    {f_length : Addr} {oc_length kV_length dc_length pm_length cd_length ct_length : Value} {od_length an_length : Option Addr} {sl_length : Array (Option Value)}
    {f_cell : Addr} {oc_cell kV_cell dc_cell pm_cell cd_cell ct_cell : Value} {od_cell an_cell : Option Addr} {sl_cell : Array (Option Value)}
    {f_digits : Addr} {oc_digits kV_digits dc_digits pm_digits cd_digits ct_digits : Value} {od_digits an_digits : Option Addr} {sl_digits : Array (Option Value)}
    {f_entry : Addr} {oc_entry kV_entry dc_entry pm_entry cd_entry ct_entry : Value} {od_entry an_entry : Option Addr} {sl_entry : Array (Option Value)}
    {f_row : Addr} {oc_row kV_row dc_row pm_row cd_row ct_row : Value} {od_row an_row : Option Addr} {sl_row : Array (Option Value)}
    {f_cut : Addr} {oc_cut kV_cut dc_cut pm_cut cd_cut ct_cut : Value} {od_cut an_cut : Option Addr} {sl_cut : Array (Option Value)}
    {f_entries : Addr} {oc_entries kV_entries dc_entries pm_entries cd_entries ct_entries : Value} {od_entries an_entries : Option Addr} {sl_entries : Array (Option Value)}
    {f_getitem : Addr} {oc_getitem kV_getitem dc_getitem pm_getitem cd_getitem ct_getitem : Value} {od_getitem an_getitem : Option Addr} {sl_getitem : Array (Option Value)}
    {f_Word_eq : Addr} {oc_Word_eq kV_Word_eq dc_Word_eq pm_Word_eq cd_Word_eq ct_Word_eq : Value} {od_Word_eq an_Word_eq : Option Addr} {sl_Word_eq : Array (Option Value)}
    {f_built : Addr} {oc_built kV_built dc_built pm_built cd_built ct_built : Value} {od_built an_built : Option Addr} {sl_built : Array (Option Value)}
    {f_agreeing : Addr} {oc_agreeing kV_agreeing dc_agreeing pm_agreeing cd_agreeing ct_agreeing : Value} {od_agreeing an_agreeing : Option Addr} {sl_agreeing : Array (Option Value)}
    {f_first_difference : Addr} {oc_first_difference kV_first_difference dc_first_difference pm_first_difference cd_first_difference ct_first_difference : Value} {od_first_difference an_first_difference : Option Addr} {sl_first_difference : Array (Option Value)}
    {f_check_number : Addr} {oc_check_number kV_check_number dc_check_number pm_check_number cd_check_number ct_check_number : Value} {od_check_number an_check_number : Option Addr} {sl_check_number : Array (Option Value)}
    {f_Walk_init : Addr} {oc_Walk_init kV_Walk_init dc_Walk_init pm_Walk_init cd_Walk_init ct_Walk_init : Value} {od_Walk_init an_Walk_init : Option Addr} {sl_Walk_init : Array (Option Value)}
    {f_next_state : Addr} {oc_next_state kV_next_state dc_next_state pm_next_state cd_next_state ct_next_state : Value} {od_next_state an_next_state : Option Addr} {sl_next_state : Array (Option Value)}
    {f_once : Addr} {oc_once kV_once dc_once pm_once cd_once ct_once : Value} {od_once an_once : Option Addr} {sl_once : Array (Option Value)}
    {f_returns : Addr} {oc_returns kV_returns dc_returns pm_returns cd_returns ct_returns : Value} {od_returns an_returns : Option Addr} {sl_returns : Array (Option Value)}
    {f_done : Addr} {oc_done kV_done dc_done pm_done cd_done ct_done : Value} {od_done an_done : Option Addr} {sl_done : Array (Option Value)}
    {f_note : Addr} {oc_note kV_note dc_note pm_note cd_note ct_note : Value} {od_note an_note : Option Addr} {sl_note : Array (Option Value)}
    {f_Passages_init : Addr} {oc_Passages_init kV_Passages_init dc_Passages_init pm_Passages_init cd_Passages_init ct_Passages_init : Value} {od_Passages_init an_Passages_init : Option Addr} {sl_Passages_init : Array (Option Value)}
    {f_passages : Addr} {oc_passages kV_passages dc_passages pm_passages cd_passages ct_passages : Value} {od_passages an_passages : Option Addr} {sl_passages : Array (Option Value)}
    {f_folded : Addr} {oc_folded kV_folded dc_folded pm_folded cd_folded ct_folded : Value} {od_folded an_folded : Option Addr} {sl_folded : Array (Option Value)}
    {f_end : Addr} {oc_end kV_end dc_end pm_end cd_end ct_end : Value} {od_end an_end : Option Addr} {sl_end : Array (Option Value)}
    {f_go_from : Addr} {oc_go_from kV_go_from dc_go_from pm_go_from cd_go_from ct_go_from : Value} {od_go_from an_go_from : Option Addr} {sl_go_from : Array (Option Value)}
    {f_check_row : Addr} {oc_check_row kV_check_row dc_check_row pm_check_row cd_check_row ct_check_row : Value} {od_check_row an_check_row : Option Addr} {sl_check_row : Array (Option Value)}
    {f_matched : Addr} {oc_matched kV_matched dc_matched pm_matched cd_matched ct_matched : Value} {od_matched an_matched : Option Addr} {sl_matched : Array (Option Value)}
    {f_row_walk : Addr} {oc_row_walk kV_row_walk dc_row_walk pm_row_walk cd_row_walk ct_row_walk : Value} {od_row_walk an_row_walk : Option Addr} {sl_row_walk : Array (Option Value)}
    {f_count_row : Addr} {oc_count_row kV_count_row dc_count_row pm_count_row cd_count_row ct_count_row : Value} {od_count_row an_count_row : Option Addr} {sl_count_row : Array (Option Value)}
    {f_stands : Addr} {oc_stands kV_stands dc_stands pm_stands cd_stands ct_stands : Value} {od_stands an_stands : Option Addr} {sl_stands : Array (Option Value)}
    {f_otherwise : Addr} {oc_otherwise kV_otherwise dc_otherwise pm_otherwise cd_otherwise ct_otherwise : Value} {od_otherwise an_otherwise : Option Addr} {sl_otherwise : Array (Option Value)}
    {f_powers_right : Addr} {oc_powers_right kV_powers_right dc_powers_right pm_powers_right cd_powers_right ct_powers_right : Value} {od_powers_right an_powers_right : Option Addr} {sl_powers_right : Array (Option Value)}
    {f_long_right : Addr} {oc_long_right kV_long_right dc_long_right pm_long_right cd_long_right ct_long_right : Value} {od_long_right an_long_right : Option Addr} {sl_long_right : Array (Option Value)}
    {f_law : Addr} {oc_law kV_law dc_law pm_law cd_law ct_law : Value} {od_law an_law : Option Addr} {sl_law : Array (Option Value)}
    {fo_i ro_i : Option Value}
    (X : K.In h) (Gn : h.Ns mainGlobals mg) (hfa : mg "law" = some (.ref fa))
    (c_Part : PySem.W.nsIn K mainGlobals "Part" = some (some (.ref cPart)))
    (pg_Part : PySem.W.plainGet K cPart Str.empty = true)
    (hd_Part : PySem.W.hasDictIn K cPart = true)
    (po_Part : PySem.W.plainOver K cPart = true)
    (sa_Part : PySem.W.findIn K (.ref cPart) "__setattr__" = some (some (.builtin "object.__setattr__")))
    (mk_Part : PySem.W.makesIn K cPart = true)
    (kc_Part : PySem.W.keepIn K (.ref cPart) = true)
    (c_Made : PySem.W.nsIn K mainGlobals "Made" = some (some (.ref cMade)))
    (pg_Made : PySem.W.plainGet K cMade Str.empty = true)
    (hd_Made : PySem.W.hasDictIn K cMade = true)
    (po_Made : PySem.W.plainOver K cMade = true)
    (sa_Made : PySem.W.findIn K (.ref cMade) "__setattr__" = some (some (.builtin "object.__setattr__")))
    (mk_Made : PySem.W.makesIn K cMade = true)
    (kc_Made : PySem.W.keepIn K (.ref cMade) = true)
    (c_Word : PySem.W.nsIn K mainGlobals "Word" = some (some (.ref cWord)))
    (pg_Word : PySem.W.plainGet K cWord Str.empty = true)
    (hd_Word : PySem.W.hasDictIn K cWord = true)
    (po_Word : PySem.W.plainOver K cWord = true)
    (sa_Word : PySem.W.findIn K (.ref cWord) "__setattr__" = some (some (.builtin "object.__setattr__")))
    (mk_Word : PySem.W.makesIn K cWord = true)
    (kc_Word : PySem.W.keepIn K (.ref cWord) = true)
    (c_Walk : PySem.W.nsIn K mainGlobals "Walk" = some (some (.ref cWalk)))
    (pg_Walk : PySem.W.plainGet K cWalk Str.empty = true)
    (hd_Walk : PySem.W.hasDictIn K cWalk = true)
    (po_Walk : PySem.W.plainOver K cWalk = true)
    (sa_Walk : PySem.W.findIn K (.ref cWalk) "__setattr__" = some (some (.builtin "object.__setattr__")))
    (mk_Walk : PySem.W.makesIn K cWalk = true)
    (kc_Walk : PySem.W.keepIn K (.ref cWalk) = true)
    (c_Passages : PySem.W.nsIn K mainGlobals "Passages" = some (some (.ref cPassages)))
    (pg_Passages : PySem.W.plainGet K cPassages Str.empty = true)
    (hd_Passages : PySem.W.hasDictIn K cPassages = true)
    (po_Passages : PySem.W.plainOver K cPassages = true)
    (sa_Passages : PySem.W.findIn K (.ref cPassages) "__setattr__" = some (some (.builtin "object.__setattr__")))
    (mk_Passages : PySem.W.makesIn K cPassages = true)
    (kc_Passages : PySem.W.keepIn K (.ref cPassages) = true)
    (sf_Word : PySem.W.selfFirst K cWord = true)
    (sf_Walk : PySem.W.selfFirst K cWalk = true)
    (sf_Passages : PySem.W.selfFirst K cPassages = true)
    (k_LETTERS : PySem.W.nsIn K mainGlobals "LETTERS" = some (some u_LETTERS))
    (r_LETTERS : RelV (.str letters26) u_LETTERS)
    (k_MOST_LETTERS : PySem.W.nsIn K mainGlobals "MOST_LETTERS" = some (some u_MOST_LETTERS))
    (r_MOST_LETTERS : RelV (.int 8) u_MOST_LETTERS)
    (k_MOST_IN_ROW : PySem.W.nsIn K mainGlobals "MOST_IN_ROW" = some (some u_MOST_IN_ROW))
    (r_MOST_IN_ROW : RelV (.int 60) u_MOST_IN_ROW)
    (k_MOST_DEPTH : PySem.W.nsIn K mainGlobals "MOST_DEPTH" = some (some u_MOST_DEPTH))
    (r_MOST_DEPTH : RelV (.int 6) u_MOST_DEPTH)
    (k_MOST_PIECES : PySem.W.nsIn K mainGlobals "MOST_PIECES" = some (some u_MOST_PIECES))
    (r_MOST_PIECES : RelV (.int 1000) u_MOST_PIECES)
    (k_MOST_TOLD : PySem.W.nsIn K mainGlobals "MOST_TOLD" = some (some u_MOST_TOLD))
    (r_MOST_TOLD : RelV (.int 1000) u_MOST_TOLD)
    (k_MOST_ROW : PySem.W.nsIn K mainGlobals "MOST_ROW" = some (some u_MOST_ROW))
    (r_MOST_ROW : RelV (.int 8) u_MOST_ROW)
    (k_KINDS : PySem.W.nsIn K mainGlobals "KINDS" = some (some (.ref kinds)))
    (l_KINDS : K.lookup kinds = some o_kinds)
    (t_KINDS : o_kinds.cls = .type "tuple")
    (d_KINDS : o_kinds.data = .seq it_kinds n_kinds)
    (z_KINDS : it_kinds.size ≤ sizeLine)
    (v_KINDS : Vals [V.str "emit", V.str "final"] it_kinds.toList)
    (n_int : PySem.W.nsIn K mainGlobals "int" = some none)
    (n_bool : PySem.W.nsIn K mainGlobals "bool" = some none)
    (n_str : PySem.W.nsIn K mainGlobals "str" = some none)
    (n_tuple : PySem.W.nsIn K mainGlobals "tuple" = some none)
    (n_list : PySem.W.nsIn K mainGlobals "list" = some none)
    (n_len : PySem.W.nsIn K mainGlobals "len" = some none)
    (n_min : PySem.W.nsIn K mainGlobals "min" = some none)
    (n_max : PySem.W.nsIn K mainGlobals "max" = some none)
    (n_all : PySem.W.nsIn K mainGlobals "all" = some none)
    (n_isinstance : PySem.W.nsIn K mainGlobals "isinstance" = some none)
    (n_range : PySem.W.nsIn K mainGlobals "range" = some none)
    (n_sorted : PySem.W.nsIn K mainGlobals "sorted" = some none)
    (a_is_integer : PySem.W.nsIn K mainGlobals "is_integer" = some (some (.ref f_is_integer)))
    (l_is_integer : K.lookup f_is_integer = some ⟨oc_is_integer, od_is_integer, .func (PySem.W.fnOf "is_integer" "is_integer" (defArgs s_is_integer) (defBody s_is_integer) (defScope s_is_integer) .none kV_is_integer dc_is_integer pm_is_integer an_is_integer cd_is_integer ct_is_integer), sl_is_integer⟩)
    (e_is_integer : PySem.W.codeIn K cd_is_integer "is_integer" = true)
    (p_is_integer : PySem.W.keepIn K (.ref f_is_integer) = true)
    (a_is_between : PySem.W.nsIn K mainGlobals "is_between" = some (some (.ref f_is_between)))
    (l_is_between : K.lookup f_is_between = some ⟨oc_is_between, od_is_between, .func (PySem.W.fnOf "is_between" "is_between" (defArgs s_is_between) (defBody s_is_between) (defScope s_is_between) .none kV_is_between dc_is_between pm_is_between an_is_between cd_is_between ct_is_between), sl_is_between⟩)
    (e_is_between : PySem.W.codeIn K cd_is_between "is_between" = true)
    (p_is_between : PySem.W.keepIn K (.ref f_is_between) = true)
    (a_is_name : PySem.W.nsIn K mainGlobals "is_name" = some (some (.ref f_is_name)))
    (l_is_name : K.lookup f_is_name = some ⟨oc_is_name, od_is_name, .func (PySem.W.fnOf "is_name" "is_name" (defArgs s_is_name) (defBody s_is_name) (defScope s_is_name) .none kV_is_name dc_is_name pm_is_name an_is_name cd_is_name ct_is_name), sl_is_name⟩)
    (e_is_name : PySem.W.codeIn K cd_is_name "is_name" = true)
    (p_is_name : PySem.W.keepIn K (.ref f_is_name) = true)
    (a_is_entry : PySem.W.nsIn K mainGlobals "is_entry" = some (some (.ref f_is_entry)))
    (l_is_entry : K.lookup f_is_entry = some ⟨oc_is_entry, od_is_entry, .func (PySem.W.fnOf "is_entry" "is_entry" (defArgs s_is_entry) (defBody s_is_entry) (defScope s_is_entry) .none kV_is_entry dc_is_entry pm_is_entry an_is_entry cd_is_entry ct_is_entry), sl_is_entry⟩)
    (e_is_entry : PySem.W.codeIn K cd_is_entry "is_entry" = true)
    (p_is_entry : PySem.W.keepIn K (.ref f_is_entry) = true)
    (a_Part_init : PySem.W.findIn K (.ref cPart) "__init__" = some (some (.ref f_Part_init)))
    (i_Part_init : PySem.W.isFn K (.ref f_Part_init) = true)
    (l_Part_init : K.lookup f_Part_init = some ⟨oc_Part_init, od_Part_init, .func (PySem.W.fnOf "__init__" "Part.__init__" (defArgs s_Part_init) (defBody s_Part_init) (defScope s_Part_init) (.ref T_Part_init) kV_Part_init dc_Part_init pm_Part_init an_Part_init cd_Part_init ct_Part_init), sl_Part_init⟩)
    (e_Part_init : PySem.W.codeIn K cd_Part_init "Part.__init__" = true)
    (p_Part_init : PySem.W.keepIn K (.ref f_Part_init) = true)
    (lT_Part_init : K.lookup T_Part_init = some oT_Part_init)
    (dT_Part_init : oT_Part_init.data = .seq iT_Part_init.toArray nT_Part_init)
    (vT_Part_init : Vals [.non] iT_Part_init)
    (a_joined : PySem.W.nsIn K mainGlobals "joined" = some (some (.ref f_joined)))
    (l_joined : K.lookup f_joined = some ⟨oc_joined, od_joined, .func (PySem.W.fnOf "joined" "joined" (defArgs s_joined) (defBody s_joined) (defScope s_joined) .none kV_joined dc_joined pm_joined an_joined cd_joined ct_joined), sl_joined⟩)
    (e_joined : PySem.W.codeIn K cd_joined "joined" = true)
    (p_joined : PySem.W.keepIn K (.ref f_joined) = true)
    (a_repeated : PySem.W.nsIn K mainGlobals "repeated" = some (some (.ref f_repeated)))
    (l_repeated : K.lookup f_repeated = some ⟨oc_repeated, od_repeated, .func (PySem.W.fnOf "repeated" "repeated" (defArgs s_repeated) (defBody s_repeated) (defScope s_repeated) .none kV_repeated dc_repeated pm_repeated an_repeated cd_repeated ct_repeated), sl_repeated⟩)
    (e_repeated : PySem.W.codeIn K cd_repeated "repeated" = true)
    (p_repeated : PySem.W.keepIn K (.ref f_repeated) = true)
    (a_width : PySem.W.nsIn K mainGlobals "width" = some (some (.ref f_width)))
    (l_width : K.lookup f_width = some ⟨oc_width, od_width, .func (PySem.W.fnOf "width" "width" (defArgs s_width) (defBody s_width) (defScope s_width) .none kV_width dc_width pm_width an_width cd_width ct_width), sl_width⟩)
    (e_width : PySem.W.codeIn K cd_width "width" = true)
    (p_width : PySem.W.keepIn K (.ref f_width) = true)
    (a_opened : PySem.W.nsIn K mainGlobals "opened" = some (some (.ref f_opened)))
    (l_opened : K.lookup f_opened = some ⟨oc_opened, od_opened, .func (PySem.W.fnOf "opened" "opened" (defArgs s_opened) (defBody s_opened) (defScope s_opened) .none kV_opened dc_opened pm_opened an_opened cd_opened ct_opened), sl_opened⟩)
    (e_opened : PySem.W.codeIn K cd_opened "opened" = true)
    (p_opened : PySem.W.keepIn K (.ref f_opened) = true)
    (a_first_unit : PySem.W.nsIn K mainGlobals "first_unit" = some (some (.ref f_first_unit)))
    (l_first_unit : K.lookup f_first_unit = some ⟨oc_first_unit, od_first_unit, .func (PySem.W.fnOf "first_unit" "first_unit" (defArgs s_first_unit) (defBody s_first_unit) (defScope s_first_unit) .none kV_first_unit dc_first_unit pm_first_unit an_first_unit cd_first_unit ct_first_unit), sl_first_unit⟩)
    (e_first_unit : PySem.W.codeIn K cd_first_unit "first_unit" = true)
    (p_first_unit : PySem.W.keepIn K (.ref f_first_unit) = true)
    (a_behind : PySem.W.nsIn K mainGlobals "behind" = some (some (.ref f_behind)))
    (l_behind : K.lookup f_behind = some ⟨oc_behind, od_behind, .func (PySem.W.fnOf "behind" "behind" (defArgs s_behind) (defBody s_behind) (defScope s_behind) .none kV_behind dc_behind pm_behind an_behind cd_behind ct_behind), sl_behind⟩)
    (e_behind : PySem.W.codeIn K cd_behind "behind" = true)
    (p_behind : PySem.W.keepIn K (.ref f_behind) = true)
    (a_part_of : PySem.W.nsIn K mainGlobals "part_of" = some (some (.ref f_part_of)))
    (l_part_of : K.lookup f_part_of = some ⟨oc_part_of, od_part_of, .func (PySem.W.fnOf "part_of" "part_of" (defArgs s_part_of) (defBody s_part_of) (defScope s_part_of) .none kV_part_of dc_part_of pm_part_of an_part_of cd_part_of ct_part_of), sl_part_of⟩)
    (e_part_of : PySem.W.codeIn K cd_part_of "part_of" = true)
    (p_part_of : PySem.W.keepIn K (.ref f_part_of) = true)
    (a_rotated : PySem.W.nsIn K mainGlobals "rotated" = some (some (.ref f_rotated)))
    (l_rotated : K.lookup f_rotated = some ⟨oc_rotated, od_rotated, .func (PySem.W.fnOf "rotated" "rotated" (defArgs s_rotated) (defBody s_rotated) (defScope s_rotated) .none kV_rotated dc_rotated pm_rotated an_rotated cd_rotated ct_rotated), sl_rotated⟩)
    (e_rotated : PySem.W.codeIn K cd_rotated "rotated" = true)
    (p_rotated : PySem.W.keepIn K (.ref f_rotated) = true)
    (a_gone_by : PySem.W.nsIn K mainGlobals "gone_by" = some (some (.ref f_gone_by)))
    (l_gone_by : K.lookup f_gone_by = some ⟨oc_gone_by, od_gone_by, .func (PySem.W.fnOf "gone_by" "gone_by" (defArgs s_gone_by) (defBody s_gone_by) (defScope s_gone_by) .none kV_gone_by dc_gone_by pm_gone_by an_gone_by cd_gone_by ct_gone_by), sl_gone_by⟩)
    (e_gone_by : PySem.W.codeIn K cd_gone_by "gone_by" = true)
    (p_gone_by : PySem.W.keepIn K (.ref f_gone_by) = true)
    (a_alike_ahead : PySem.W.nsIn K mainGlobals "alike_ahead" = some (some (.ref f_alike_ahead)))
    (l_alike_ahead : K.lookup f_alike_ahead = some ⟨oc_alike_ahead, od_alike_ahead, .func (PySem.W.fnOf "alike_ahead" "alike_ahead" (defArgs s_alike_ahead) (defBody s_alike_ahead) (defScope s_alike_ahead) .none kV_alike_ahead dc_alike_ahead pm_alike_ahead an_alike_ahead cd_alike_ahead ct_alike_ahead), sl_alike_ahead⟩)
    (e_alike_ahead : PySem.W.codeIn K cd_alike_ahead "alike_ahead" = true)
    (p_alike_ahead : PySem.W.keepIn K (.ref f_alike_ahead) = true)
    (a_run_ahead : PySem.W.nsIn K mainGlobals "run_ahead" = some (some (.ref f_run_ahead)))
    (l_run_ahead : K.lookup f_run_ahead = some ⟨oc_run_ahead, od_run_ahead, .func (PySem.W.fnOf "run_ahead" "run_ahead" (defArgs s_run_ahead) (defBody s_run_ahead) (defScope s_run_ahead) .none kV_run_ahead dc_run_ahead pm_run_ahead an_run_ahead cd_run_ahead ct_run_ahead), sl_run_ahead⟩)
    (e_run_ahead : PySem.W.codeIn K cd_run_ahead "run_ahead" = true)
    (p_run_ahead : PySem.W.keepIn K (.ref f_run_ahead) = true)
    (a_agreement : PySem.W.nsIn K mainGlobals "agreement" = some (some (.ref f_agreement)))
    (l_agreement : K.lookup f_agreement = some ⟨oc_agreement, od_agreement, .func (PySem.W.fnOf "agreement" "agreement" (defArgs s_agreement) (defBody s_agreement) (defScope s_agreement) .none kV_agreement dc_agreement pm_agreement an_agreement cd_agreement ct_agreement), sl_agreement⟩)
    (e_agreement : PySem.W.codeIn K cd_agreement "agreement" = true)
    (p_agreement : PySem.W.keepIn K (.ref f_agreement) = true)
    (a_alike_for : PySem.W.nsIn K mainGlobals "alike_for" = some (some (.ref f_alike_for)))
    (l_alike_for : K.lookup f_alike_for = some ⟨oc_alike_for, od_alike_for, .func (PySem.W.fnOf "alike_for" "alike_for" (defArgs s_alike_for) (defBody s_alike_for) (defScope s_alike_for) .none kV_alike_for dc_alike_for pm_alike_for an_alike_for cd_alike_for ct_alike_for), sl_alike_for⟩)
    (e_alike_for : PySem.W.codeIn K cd_alike_for "alike_for" = true)
    (p_alike_for : PySem.W.keepIn K (.ref f_alike_for) = true)
    (a_check_index : PySem.W.nsIn K mainGlobals "check_index" = some (some (.ref f_check_index)))
    (l_check_index : K.lookup f_check_index = some ⟨oc_check_index, od_check_index, .func (PySem.W.fnOf "check_index" "check_index" (defArgs s_check_index) (defBody s_check_index) (defScope s_check_index) .none kV_check_index dc_check_index pm_check_index an_check_index cd_check_index ct_check_index), sl_check_index⟩)
    (e_check_index : PySem.W.codeIn K cd_check_index "check_index" = true)
    (p_check_index : PySem.W.keepIn K (.ref f_check_index) = true)
    (a_Made_init : PySem.W.findIn K (.ref cMade) "__init__" = some (some (.ref f_Made_init)))
    (i_Made_init : PySem.W.isFn K (.ref f_Made_init) = true)
    (l_Made_init : K.lookup f_Made_init = some ⟨oc_Made_init, od_Made_init, .func (PySem.W.fnOf "__init__" "Made.__init__" (defArgs s_Made_init) (defBody s_Made_init) (defScope s_Made_init) (.ref T_Made_init) kV_Made_init dc_Made_init pm_Made_init an_Made_init cd_Made_init ct_Made_init), sl_Made_init⟩)
    (e_Made_init : PySem.W.codeIn K cd_Made_init "Made.__init__" = true)
    (p_Made_init : PySem.W.keepIn K (.ref f_Made_init) = true)
    (lT_Made_init : K.lookup T_Made_init = some oT_Made_init)
    (dT_Made_init : oT_Made_init.data = .seq iT_Made_init.toArray nT_Made_init)
    (vT_Made_init : Vals [.int 1] iT_Made_init)
    (a_Word_init : PySem.W.findIn K (.ref cWord) "__init__" = some (some (.ref f_Word_init)))
    (i_Word_init : PySem.W.isFn K (.ref f_Word_init) = true)
    (l_Word_init : K.lookup f_Word_init = some ⟨oc_Word_init, od_Word_init, .func (PySem.W.fnOf "__init__" "Word.__init__" (defArgs s_Word_init) (defBody s_Word_init) (defScope s_Word_init) .none kV_Word_init dc_Word_init pm_Word_init an_Word_init cd_Word_init ct_Word_init), sl_Word_init⟩)
    (e_Word_init : PySem.W.codeIn K cd_Word_init "Word.__init__" = true)
    (p_Word_init : PySem.W.keepIn K (.ref f_Word_init) = true)
    (a_Word_add : PySem.W.findIn K (.ref cWord) (PySem.dunder (Operator.info .Add).2) = some (some (.ref f_Word_add)))
    (i_Word_add : PySem.W.isFn K (.ref f_Word_add) = true)
    (l_Word_add : K.lookup f_Word_add = some ⟨oc_Word_add, od_Word_add, .func (PySem.W.fnOf "__add__" "Word.__add__" (defArgs s_Word_add) (defBody s_Word_add) (defScope s_Word_add) .none kV_Word_add dc_Word_add pm_Word_add an_Word_add cd_Word_add ct_Word_add), sl_Word_add⟩)
    (e_Word_add : PySem.W.codeIn K cd_Word_add "Word.__add__" = true)
    (p_Word_add : PySem.W.keepIn K (.ref f_Word_add) = true)
    (a_Word_mul : PySem.W.findIn K (.ref cWord) (PySem.dunder (Operator.info .Mult).2) = some (some (.ref f_Word_mul)))
    (i_Word_mul : PySem.W.isFn K (.ref f_Word_mul) = true)
    (l_Word_mul : K.lookup f_Word_mul = some ⟨oc_Word_mul, od_Word_mul, .func (PySem.W.fnOf "__mul__" "Word.__mul__" (defArgs s_Word_mul) (defBody s_Word_mul) (defScope s_Word_mul) .none kV_Word_mul dc_Word_mul pm_Word_mul an_Word_mul cd_Word_mul ct_Word_mul), sl_Word_mul⟩)
    (e_Word_mul : PySem.W.codeIn K cd_Word_mul "Word.__mul__" = true)
    (p_Word_mul : PySem.W.keepIn K (.ref f_Word_mul) = true)
    (a_length : PySem.W.findIn K (.ref cWord) "length" = some (some (.ref f_length)))
    (i_length : PySem.W.isFn K (.ref f_length) = true)
    (l_length : K.lookup f_length = some ⟨oc_length, od_length, .func (PySem.W.fnOf "length" "Word.length" (defArgs s_length) (defBody s_length) (defScope s_length) .none kV_length dc_length pm_length an_length cd_length ct_length), sl_length⟩)
    (e_length : PySem.W.codeIn K cd_length "Word.length" = true)
    (p_length : PySem.W.keepIn K (.ref f_length) = true)
    (a_cell : PySem.W.nsIn K mainGlobals "_law_cell" = some (some (.ref f_cell)))
    (l_cell : K.lookup f_cell = some ⟨oc_cell, od_cell, .func (PySem.W.fnOf "_law_cell" "_law_cell" (defArgs s_cell) (defBody s_cell) (defScope s_cell) .none kV_cell dc_cell pm_cell an_cell cd_cell ct_cell), sl_cell⟩)
    (e_cell : PySem.W.codeIn K cd_cell "_law_cell" = true)
    (p_cell : PySem.W.keepIn K (.ref f_cell) = true)
    (a_digits : PySem.W.nsIn K mainGlobals "_law_digits" = some (some (.ref f_digits)))
    (l_digits : K.lookup f_digits = some ⟨oc_digits, od_digits, .func (PySem.W.fnOf "_law_digits" "_law_digits" (defArgs s_digits) (defBody s_digits) (defScope s_digits) .none kV_digits dc_digits pm_digits an_digits cd_digits ct_digits), sl_digits⟩)
    (e_digits : PySem.W.codeIn K cd_digits "_law_digits" = true)
    (p_digits : PySem.W.keepIn K (.ref f_digits) = true)
    (a_entry : PySem.W.nsIn K mainGlobals "_law_entry" = some (some (.ref f_entry)))
    (l_entry : K.lookup f_entry = some ⟨oc_entry, od_entry, .func (PySem.W.fnOf "_law_entry" "_law_entry" (defArgs s_entry) (defBody s_entry) (defScope s_entry) .none kV_entry dc_entry pm_entry an_entry cd_entry ct_entry), sl_entry⟩)
    (e_entry : PySem.W.codeIn K cd_entry "_law_entry" = true)
    (p_entry : PySem.W.keepIn K (.ref f_entry) = true)
    (a_row : PySem.W.nsIn K mainGlobals "_law_row" = some (some (.ref f_row)))
    (l_row : K.lookup f_row = some ⟨oc_row, od_row, .func (PySem.W.fnOf "_law_row" "_law_row" (defArgs s_row) (defBody s_row) (defScope s_row) .none kV_row dc_row pm_row an_row cd_row ct_row), sl_row⟩)
    (e_row : PySem.W.codeIn K cd_row "_law_row" = true)
    (p_row : PySem.W.keepIn K (.ref f_row) = true)
    (a_cut : PySem.W.findIn K (.ref cWord) "cut" = some (some (.ref f_cut)))
    (i_cut : PySem.W.isFn K (.ref f_cut) = true)
    (l_cut : K.lookup f_cut = some ⟨oc_cut, od_cut, .func (PySem.W.fnOf "cut" "Word.cut" (defArgs s_cut) (defBody s_cut) (defScope s_cut) .none kV_cut dc_cut pm_cut an_cut cd_cut ct_cut), sl_cut⟩)
    (e_cut : PySem.W.codeIn K cd_cut "Word.cut" = true)
    (p_cut : PySem.W.keepIn K (.ref f_cut) = true)
    (a_entries : PySem.W.findIn K (.ref cWord) "entries" = some (some (.ref f_entries)))
    (i_entries : PySem.W.isFn K (.ref f_entries) = true)
    (l_entries : K.lookup f_entries = some ⟨oc_entries, od_entries, .func (PySem.W.fnOf "entries" "Word.entries" (defArgs s_entries) (defBody s_entries) (defScope s_entries) .none kV_entries dc_entries pm_entries an_entries cd_entries ct_entries), sl_entries⟩)
    (e_entries : PySem.W.codeIn K cd_entries "Word.entries" = true)
    (p_entries : PySem.W.keepIn K (.ref f_entries) = true)
    (a_getitem : PySem.W.findIn K (.ref cWord) "__getitem__" = some (some (.ref f_getitem)))
    (i_getitem : PySem.W.isFn K (.ref f_getitem) = true)
    (l_getitem : K.lookup f_getitem = some ⟨oc_getitem, od_getitem, .func (PySem.W.fnOf "__getitem__" "Word.__getitem__" (defArgs s_getitem) (defBody s_getitem) (defScope s_getitem) .none kV_getitem dc_getitem pm_getitem an_getitem cd_getitem ct_getitem), sl_getitem⟩)
    (e_getitem : PySem.W.codeIn K cd_getitem "Word.__getitem__" = true)
    (p_getitem : PySem.W.keepIn K (.ref f_getitem) = true)
    (a_Word_eq : PySem.W.findIn K (.ref cWord) "__eq__" = some (some (.ref f_Word_eq)))
    (i_Word_eq : PySem.W.isFn K (.ref f_Word_eq) = true)
    (l_Word_eq : K.lookup f_Word_eq = some ⟨oc_Word_eq, od_Word_eq, .func (PySem.W.fnOf "__eq__" "Word.__eq__" (defArgs s_Word_eq) (defBody s_Word_eq) (defScope s_Word_eq) .none kV_Word_eq dc_Word_eq pm_Word_eq an_Word_eq cd_Word_eq ct_Word_eq), sl_Word_eq⟩)
    (e_Word_eq : PySem.W.codeIn K cd_Word_eq "Word.__eq__" = true)
    (p_Word_eq : PySem.W.keepIn K (.ref f_Word_eq) = true)
    (a_built : PySem.W.nsIn K mainGlobals "_law_built" = some (some (.ref f_built)))
    (l_built : K.lookup f_built = some ⟨oc_built, od_built, .func (PySem.W.fnOf "_law_built" "_law_built" (defArgs s_built) (defBody s_built) (defScope s_built) .none kV_built dc_built pm_built an_built cd_built ct_built), sl_built⟩)
    (e_built : PySem.W.codeIn K cd_built "_law_built" = true)
    (p_built : PySem.W.keepIn K (.ref f_built) = true)
    (a_agreeing : PySem.W.nsIn K mainGlobals "agreeing" = some (some (.ref f_agreeing)))
    (l_agreeing : K.lookup f_agreeing = some ⟨oc_agreeing, od_agreeing, .func (PySem.W.fnOf "agreeing" "agreeing" (defArgs s_agreeing) (defBody s_agreeing) (defScope s_agreeing) .none kV_agreeing dc_agreeing pm_agreeing an_agreeing cd_agreeing ct_agreeing), sl_agreeing⟩)
    (e_agreeing : PySem.W.codeIn K cd_agreeing "agreeing" = true)
    (p_agreeing : PySem.W.keepIn K (.ref f_agreeing) = true)
    (a_first_difference : PySem.W.nsIn K mainGlobals "first_difference" = some (some (.ref f_first_difference)))
    (l_first_difference : K.lookup f_first_difference = some ⟨oc_first_difference, od_first_difference, .func (PySem.W.fnOf "first_difference" "first_difference" (defArgs s_first_difference) (defBody s_first_difference) (defScope s_first_difference) .none kV_first_difference dc_first_difference pm_first_difference an_first_difference cd_first_difference ct_first_difference), sl_first_difference⟩)
    (e_first_difference : PySem.W.codeIn K cd_first_difference "first_difference" = true)
    (p_first_difference : PySem.W.keepIn K (.ref f_first_difference) = true)
    (a_check_number : PySem.W.nsIn K mainGlobals "check_number" = some (some (.ref f_check_number)))
    (l_check_number : K.lookup f_check_number = some ⟨oc_check_number, od_check_number, .func (PySem.W.fnOf "check_number" "check_number" (defArgs s_check_number) (defBody s_check_number) (defScope s_check_number) .none kV_check_number dc_check_number pm_check_number an_check_number cd_check_number ct_check_number), sl_check_number⟩)
    (e_check_number : PySem.W.codeIn K cd_check_number "check_number" = true)
    (p_check_number : PySem.W.keepIn K (.ref f_check_number) = true)
    (a_Walk_init : PySem.W.findIn K (.ref cWalk) "__init__" = some (some (.ref f_Walk_init)))
    (i_Walk_init : PySem.W.isFn K (.ref f_Walk_init) = true)
    (l_Walk_init : K.lookup f_Walk_init = some ⟨oc_Walk_init, od_Walk_init, .func (PySem.W.fnOf "__init__" "Walk.__init__" (defArgs s_Walk_init) (defBody s_Walk_init) (defScope s_Walk_init) .none kV_Walk_init dc_Walk_init pm_Walk_init an_Walk_init cd_Walk_init ct_Walk_init), sl_Walk_init⟩)
    (e_Walk_init : PySem.W.codeIn K cd_Walk_init "Walk.__init__" = true)
    (p_Walk_init : PySem.W.keepIn K (.ref f_Walk_init) = true)
    (a_next_state : PySem.W.findIn K (.ref cWalk) "next_state" = some (some (.ref f_next_state)))
    (i_next_state : PySem.W.isFn K (.ref f_next_state) = true)
    (l_next_state : K.lookup f_next_state = some ⟨oc_next_state, od_next_state, .func (PySem.W.fnOf "next_state" "Walk.next_state" (defArgs s_next_state) (defBody s_next_state) (defScope s_next_state) .none kV_next_state dc_next_state pm_next_state an_next_state cd_next_state ct_next_state), sl_next_state⟩)
    (e_next_state : PySem.W.codeIn K cd_next_state "Walk.next_state" = true)
    (p_next_state : PySem.W.keepIn K (.ref f_next_state) = true)
    (a_once : PySem.W.findIn K (.ref cWalk) "once" = some (some (.ref f_once)))
    (i_once : PySem.W.isFn K (.ref f_once) = true)
    (l_once : K.lookup f_once = some ⟨oc_once, od_once, .func (PySem.W.fnOf "once" "Walk.once" (defArgs s_once) (defBody s_once) (defScope s_once) .none kV_once dc_once pm_once an_once cd_once ct_once), sl_once⟩)
    (e_once : PySem.W.codeIn K cd_once "Walk.once" = true)
    (p_once : PySem.W.keepIn K (.ref f_once) = true)
    (a_returns : PySem.W.findIn K (.ref cPassages) "returns" = some (some (.ref f_returns)))
    (i_returns : PySem.W.isFn K (.ref f_returns) = true)
    (l_returns : K.lookup f_returns = some ⟨oc_returns, od_returns, .func (PySem.W.fnOf "returns" "Passages.returns" (defArgs s_returns) (defBody s_returns) (defScope s_returns) .none kV_returns dc_returns pm_returns an_returns cd_returns ct_returns), sl_returns⟩)
    (e_returns : PySem.W.codeIn K cd_returns "Passages.returns" = true)
    (p_returns : PySem.W.keepIn K (.ref f_returns) = true)
    (a_done : PySem.W.findIn K (.ref cPassages) "done" = some (some (.ref f_done)))
    (i_done : PySem.W.isFn K (.ref f_done) = true)
    (l_done : K.lookup f_done = some ⟨oc_done, od_done, .func (PySem.W.fnOf "done" "Passages.done" (defArgs s_done) (defBody s_done) (defScope s_done) .none kV_done dc_done pm_done an_done cd_done ct_done), sl_done⟩)
    (e_done : PySem.W.codeIn K cd_done "Passages.done" = true)
    (p_done : PySem.W.keepIn K (.ref f_done) = true)
    (a_note : PySem.W.findIn K (.ref cPassages) "note" = some (some (.ref f_note)))
    (i_note : PySem.W.isFn K (.ref f_note) = true)
    (l_note : K.lookup f_note = some ⟨oc_note, od_note, .func (PySem.W.fnOf "note" "Passages.note" (defArgs s_note) (defBody s_note) (defScope s_note) .none kV_note dc_note pm_note an_note cd_note ct_note), sl_note⟩)
    (e_note : PySem.W.codeIn K cd_note "Passages.note" = true)
    (p_note : PySem.W.keepIn K (.ref f_note) = true)
    (a_Passages_init : PySem.W.findIn K (.ref cPassages) "__init__" = some (some (.ref f_Passages_init)))
    (i_Passages_init : PySem.W.isFn K (.ref f_Passages_init) = true)
    (l_Passages_init : K.lookup f_Passages_init = some ⟨oc_Passages_init, od_Passages_init, .func (PySem.W.fnOf "__init__" "Passages.__init__" (defArgs s_Passages_init) (defBody s_Passages_init) (defScope s_Passages_init) .none kV_Passages_init dc_Passages_init pm_Passages_init an_Passages_init cd_Passages_init ct_Passages_init), sl_Passages_init⟩)
    (e_Passages_init : PySem.W.codeIn K cd_Passages_init "Passages.__init__" = true)
    (p_Passages_init : PySem.W.keepIn K (.ref f_Passages_init) = true)
    (a_passages : PySem.W.findIn K (.ref cWalk) "passages" = some (some (.ref f_passages)))
    (i_passages : PySem.W.isFn K (.ref f_passages) = true)
    (l_passages : K.lookup f_passages = some ⟨oc_passages, od_passages, .func (PySem.W.fnOf "passages" "Walk.passages" (defArgs s_passages) (defBody s_passages) (defScope s_passages) .none kV_passages dc_passages pm_passages an_passages cd_passages ct_passages), sl_passages⟩)
    (e_passages : PySem.W.codeIn K cd_passages "Walk.passages" = true)
    (p_passages : PySem.W.keepIn K (.ref f_passages) = true)
    (a_folded : PySem.W.findIn K (.ref cPassages) "folded" = some (some (.ref f_folded)))
    (i_folded : PySem.W.isFn K (.ref f_folded) = true)
    (l_folded : K.lookup f_folded = some ⟨oc_folded, od_folded, .func (PySem.W.fnOf "folded" "Passages.folded" (defArgs s_folded) (defBody s_folded) (defScope s_folded) .none kV_folded dc_folded pm_folded an_folded cd_folded ct_folded), sl_folded⟩)
    (e_folded : PySem.W.codeIn K cd_folded "Passages.folded" = true)
    (p_folded : PySem.W.keepIn K (.ref f_folded) = true)
    (a_end : PySem.W.findIn K (.ref cPassages) "end" = some (some (.ref f_end)))
    (i_end : PySem.W.isFn K (.ref f_end) = true)
    (l_end : K.lookup f_end = some ⟨oc_end, od_end, .func (PySem.W.fnOf "end" "Passages.end" (defArgs s_end) (defBody s_end) (defScope s_end) .none kV_end dc_end pm_end an_end cd_end ct_end), sl_end⟩)
    (e_end : PySem.W.codeIn K cd_end "Passages.end" = true)
    (p_end : PySem.W.keepIn K (.ref f_end) = true)
    (a_go_from : PySem.W.findIn K (.ref cWalk) "go_from" = some (some (.ref f_go_from)))
    (i_go_from : PySem.W.isFn K (.ref f_go_from) = true)
    (l_go_from : K.lookup f_go_from = some ⟨oc_go_from, od_go_from, .func (PySem.W.fnOf "go_from" "Walk.go_from" (defArgs s_go_from) (defBody s_go_from) (defScope s_go_from) .none kV_go_from dc_go_from pm_go_from an_go_from cd_go_from ct_go_from), sl_go_from⟩)
    (e_go_from : PySem.W.codeIn K cd_go_from "Walk.go_from" = true)
    (p_go_from : PySem.W.keepIn K (.ref f_go_from) = true)
    (a_check_row : PySem.W.nsIn K mainGlobals "check_row" = some (some (.ref f_check_row)))
    (l_check_row : K.lookup f_check_row = some ⟨oc_check_row, od_check_row, .func (PySem.W.fnOf "check_row" "check_row" (defArgs s_check_row) (defBody s_check_row) (defScope s_check_row) .none kV_check_row dc_check_row pm_check_row an_check_row cd_check_row ct_check_row), sl_check_row⟩)
    (e_check_row : PySem.W.codeIn K cd_check_row "check_row" = true)
    (p_check_row : PySem.W.keepIn K (.ref f_check_row) = true)
    (a_matched : PySem.W.nsIn K mainGlobals "matched" = some (some (.ref f_matched)))
    (l_matched : K.lookup f_matched = some ⟨oc_matched, od_matched, .func (PySem.W.fnOf "matched" "matched" (defArgs s_matched) (defBody s_matched) (defScope s_matched) .none kV_matched dc_matched pm_matched an_matched cd_matched ct_matched), sl_matched⟩)
    (e_matched : PySem.W.codeIn K cd_matched "matched" = true)
    (p_matched : PySem.W.keepIn K (.ref f_matched) = true)
    (a_row_walk : PySem.W.nsIn K mainGlobals "row_walk" = some (some (.ref f_row_walk)))
    (l_row_walk : K.lookup f_row_walk = some ⟨oc_row_walk, od_row_walk, .func (PySem.W.fnOf "row_walk" "row_walk" (defArgs s_row_walk) (defBody s_row_walk) (defScope s_row_walk) .none kV_row_walk dc_row_walk pm_row_walk an_row_walk cd_row_walk ct_row_walk), sl_row_walk⟩)
    (e_row_walk : PySem.W.codeIn K cd_row_walk "row_walk" = true)
    (p_row_walk : PySem.W.keepIn K (.ref f_row_walk) = true)
    (a_count_row : PySem.W.nsIn K mainGlobals "count_row" = some (some (.ref f_count_row)))
    (l_count_row : K.lookup f_count_row = some ⟨oc_count_row, od_count_row, .func (PySem.W.fnOf "count_row" "count_row" (defArgs s_count_row) (defBody s_count_row) (defScope s_count_row) .none kV_count_row dc_count_row pm_count_row an_count_row cd_count_row ct_count_row), sl_count_row⟩)
    (e_count_row : PySem.W.codeIn K cd_count_row "count_row" = true)
    (p_count_row : PySem.W.keepIn K (.ref f_count_row) = true)
    (a_stands : PySem.W.nsIn K mainGlobals "_law_stands" = some (some (.ref f_stands)))
    (l_stands : K.lookup f_stands = some ⟨oc_stands, od_stands, .func (PySem.W.fnOf "_law_stands" "_law_stands" (defArgs s_stands) (defBody s_stands) (defScope s_stands) .none kV_stands dc_stands pm_stands an_stands cd_stands ct_stands), sl_stands⟩)
    (e_stands : PySem.W.codeIn K cd_stands "_law_stands" = true)
    (p_stands : PySem.W.keepIn K (.ref f_stands) = true)
    (a_otherwise : PySem.W.nsIn K mainGlobals "_law_otherwise" = some (some (.ref f_otherwise)))
    (l_otherwise : K.lookup f_otherwise = some ⟨oc_otherwise, od_otherwise, .func (PySem.W.fnOf "_law_otherwise" "_law_otherwise" (defArgs s_otherwise) (defBody s_otherwise) (defScope s_otherwise) .none kV_otherwise dc_otherwise pm_otherwise an_otherwise cd_otherwise ct_otherwise), sl_otherwise⟩)
    (e_otherwise : PySem.W.codeIn K cd_otherwise "_law_otherwise" = true)
    (p_otherwise : PySem.W.keepIn K (.ref f_otherwise) = true)
    (a_powers_right : PySem.W.nsIn K mainGlobals "_law_powers_right" = some (some (.ref f_powers_right)))
    (l_powers_right : K.lookup f_powers_right = some ⟨oc_powers_right, od_powers_right, .func (PySem.W.fnOf "_law_powers_right" "_law_powers_right" (defArgs s_powers_right) (defBody s_powers_right) (defScope s_powers_right) .none kV_powers_right dc_powers_right pm_powers_right an_powers_right cd_powers_right ct_powers_right), sl_powers_right⟩)
    (e_powers_right : PySem.W.codeIn K cd_powers_right "_law_powers_right" = true)
    (p_powers_right : PySem.W.keepIn K (.ref f_powers_right) = true)
    (a_long_right : PySem.W.nsIn K mainGlobals "_law_long_right" = some (some (.ref f_long_right)))
    (l_long_right : K.lookup f_long_right = some ⟨oc_long_right, od_long_right, .func (PySem.W.fnOf "_law_long_right" "_law_long_right" (defArgs s_long_right) (defBody s_long_right) (defScope s_long_right) .none kV_long_right dc_long_right pm_long_right an_long_right cd_long_right ct_long_right), sl_long_right⟩)
    (e_long_right : PySem.W.codeIn K cd_long_right "_law_long_right" = true)
    (p_long_right : PySem.W.keepIn K (.ref f_long_right) = true)
    (a_law : PySem.W.nsIn K mainGlobals "law" = some (some (.ref f_law)))
    (l_law : K.lookup f_law = some ⟨oc_law, od_law, .func (PySem.W.fnOf "law" "law" (defArgs s_law) (defBody s_law) (defScope s_law) .none kV_law dc_law pm_law an_law cd_law ct_law), sl_law⟩)
    (e_law : PySem.W.codeIn K cd_law "law" = true)
    (p_law : PySem.W.keepIn K (.ref f_law) = true)
    (x_p_letters : PySem.W.findIn K (.ref cPart) "letters" = some none)
    (x_p_left : PySem.W.findIn K (.ref cPart) "left" = some none)
    (x_p_right : PySem.W.findIn K (.ref cPart) "right" = some none)
    (x_p_times : PySem.W.findIn K (.ref cPart) "times" = some none)
    (x_p_turned : PySem.W.findIn K (.ref cPart) "turned_from" = some none)
    (x_p_wide : PySem.W.findIn K (.ref cPart) "wide" = some none)
    (x_w_part : PySem.W.findIn K (.ref cWord) "part" = some none)
    (x_w_nesting : PySem.W.findIn K (.ref cWord) "nesting" = some none)
    (x_w_pieces : PySem.W.findIn K (.ref cWord) "pieces" = some none)
    (x_m_part : PySem.W.findIn K (.ref cMade) "part" = some none)
    (x_m_nesting : PySem.W.findIn K (.ref cMade) "nesting" = some none)
    (x_m_pieces : PySem.W.findIn K (.ref cMade) "pieces" = some none)
    (x_part_cl : PySem.W.findIn K (.ref cPart) "__class__" = some (some (.builtin "object.__class__")))
    (x_word_cl : PySem.W.findIn K (.ref cWord) "__class__" = some (some (.builtin "object.__class__")))
    (x_word_ob : PySem.W.mroIn K cWord (.type "object") = some true)
    (x_word_word : PySem.W.kitOne K (.ref cWord) (.ref cWord) = some true)
    (x_word_ne : PySem.W.findIn K (.ref cWord) "__ne__" = some (some (.builtin "object.__ne__")))
    (x_word_nf : PySem.W.notFirst K cWord (.type "list") = true)
    (x_list_word : PySem.W.kitOne K (.type "list") (.ref cWord) = some false)
    (x_made_cl : PySem.W.findIn K (.ref cMade) "__class__" = some (some (.builtin "object.__class__")))
    (x_cls_get : PySem.W.specialIn K (.builtin "object.__class__") "__get__" = some (some (.builtin "getset_descriptor.__get__")))
    (x_cls_tk : PySem.W.takesIn K (.builtin "object.__class__") = some true)
    (x_part_ob : PySem.W.mroIn K cPart (.type "object") = some true)
    (x_made_ob : PySem.W.mroIn K cMade (.type "object") = some true)
    (x_part_tup : PySem.W.kitOne K (.ref cPart) (.type "tuple") = some false)
    (x_made_made : PySem.W.kitOne K (.ref cMade) (.ref cMade) = some true)
    (x_list_made : PySem.W.kitOne K (.type "list") (.ref cMade) = some false)
    (x_mul_r : PySem.W.findIn K (.ref cWord) (PySem.dunderR (Operator.info .Mult).2) = some none)
    (x_mul_i : PySem.W.findIn K (.type "int") (PySem.dunder (Operator.info .Mult).2) = some fo_i)
    (x_mul_j : PySem.W.findIn K (.type "int") (PySem.dunderR (Operator.info .Mult).2) = some ro_i)
    (x_mul_s : PySem.W.subIn K (.type "int") (.ref cWord) = some false)
    (x_k_moves : PySem.W.findIn K (.ref cWalk) "moves" = some none)
    (x_k_counted : PySem.W.findIn K (.ref cWalk) "counted" = some none)
    (x_k_known : PySem.W.findIn K (.ref cWalk) "known" = some none)
    (x_s_states : PySem.W.findIn K (.ref cPassages) "states" = some none)
    (x_s_sums : PySem.W.findIn K (.ref cPassages) "sums" = some none)
    : ∃ fd : FuncData, (∀ (s : Shared) (v : Value), BindsTo s fd ⟨[v], []⟩ [("_law_script", v)]) ∧ ∀ base : Heap, K.In base → base.Ns mainGlobals mg → FnOk P w K mg base CX0 (12 + 2 * 20) fa fd ["_law_script"] (spLawK K) := by
  have e := hfa.symm.trans (PySem.W.mg_of X Gn a_law)
  cases e
  let g : G := { K := K, part := cPart, made := cMade, word := cWord, walk := cWalk, pass := cPassages, kinds := kinds }
  have C_Part : Cls K cPart := ⟨pg_Part, hd_Part, po_Part, sa_Part⟩
  have C_Made : Cls K cMade := ⟨pg_Made, hd_Made, po_Made, sa_Made⟩
  have C_Word : Cls K cWord := ⟨pg_Word, hd_Word, po_Word, sa_Word⟩
  have C_Walk : Cls K cWalk := ⟨pg_Walk, hd_Walk, po_Walk, sa_Walk⟩
  have C_Passages : Cls K cPassages := ⟨pg_Passages, hd_Passages, po_Passages, sa_Passages⟩
  have T : Txt g mg := {
    c_LETTERS := ⟨_, PySem.W.mg_of X Gn k_LETTERS, r_LETTERS⟩
    c_MOST_LETTERS := ⟨_, PySem.W.mg_of X Gn k_MOST_LETTERS, r_MOST_LETTERS⟩
    c_MOST_IN_ROW := ⟨_, PySem.W.mg_of X Gn k_MOST_IN_ROW, r_MOST_IN_ROW⟩
    c_MOST_DEPTH := ⟨_, PySem.W.mg_of X Gn k_MOST_DEPTH, r_MOST_DEPTH⟩
    c_MOST_PIECES := ⟨_, PySem.W.mg_of X Gn k_MOST_PIECES, r_MOST_PIECES⟩
    c_MOST_TOLD := ⟨_, PySem.W.mg_of X Gn k_MOST_TOLD, r_MOST_TOLD⟩
    c_MOST_ROW := ⟨_, PySem.W.mg_of X Gn k_MOST_ROW, r_MOST_ROW⟩
    c_KINDS := ⟨_, PySem.W.mg_of X Gn k_KINDS, rfl⟩
    c_Made := ⟨_, PySem.W.mg_of X Gn c_Made, rfl⟩
    c_Word := ⟨_, PySem.W.mg_of X Gn c_Word, rfl⟩
    kinds := fun _ => .inr ⟨_, _, _, l_KINDS, t_KINDS, d_KINDS, z_KINDS, v_KINDS⟩
    n_int := PySem.W.mg_none_of X Gn n_int
    n_bool := PySem.W.mg_none_of X Gn n_bool
    n_str := PySem.W.mg_none_of X Gn n_str
    n_tuple := PySem.W.mg_none_of X Gn n_tuple
    n_list := PySem.W.mg_none_of X Gn n_list
    n_len := PySem.W.mg_none_of X Gn n_len
    n_min := PySem.W.mg_none_of X Gn n_min
    n_max := PySem.W.mg_none_of X Gn n_max
    n_all := PySem.W.mg_none_of X Gn n_all
    n_isinstance := PySem.W.mg_none_of X Gn n_isinstance
    n_range := PySem.W.mg_none_of X Gn n_range
    n_sorted := PySem.W.mg_none_of X Gn n_sorted
    part := C_Part, made := C_Made, word := C_Word, walk := C_Walk, psg := C_Passages
    p_letters := x_p_letters
    p_left := x_p_left
    p_right := x_p_right
    p_times := x_p_times
    p_turned := x_p_turned
    p_wide := x_p_wide
    w_part := x_w_part
    w_nesting := x_w_nesting
    w_pieces := x_w_pieces
    m_part := x_m_part
    m_nesting := x_m_nesting
    m_pieces := x_m_pieces
    part_cl := x_part_cl
    word_cl := x_word_cl
    word_ob := x_word_ob
    word_word := x_word_word
    word_ne := x_word_ne
    word_nf := x_word_nf
    list_word := x_list_word
    made_cl := x_made_cl
    cls_get := x_cls_get
    cls_tk := x_cls_tk
    part_ob := x_part_ob
    made_ob := x_made_ob
    part_tup := x_part_tup
    made_made := x_made_made
    list_made := x_list_made
    mulI := ⟨⟨_, x_mul_r, .inl rfl⟩, ⟨_, x_mul_i⟩, ⟨_, x_mul_j⟩, x_mul_s⟩
    k_moves := x_k_moves
    k_counted := x_k_counted
    k_known := x_k_known
    s_states := x_s_states
    s_sums := x_s_sums
  }
  have F_is_integer := fun_mk (st := s_is_integer) l_is_integer e_is_integer p_is_integer
  have b_is_integer := F_is_integer.binds (ps := P_is_integer) fun _ _ _ _ _ _ us hl => match us, hl with | [_], _ => rfl
  have F_is_between := fun_mk (st := s_is_between) l_is_between e_is_between p_is_between
  have b_is_between := F_is_between.binds (ps := P_is_between) fun _ _ _ _ _ _ us hl => match us, hl with | [_, _, _], _ => rfl
  have F_is_name := fun_mk (st := s_is_name) l_is_name e_is_name p_is_name
  have b_is_name := F_is_name.binds (ps := P_is_name) fun _ _ _ _ _ _ us hl => match us, hl with | [_], _ => rfl
  have F_is_entry := fun_mk (st := s_is_entry) l_is_entry e_is_entry p_is_entry
  have b_is_entry := F_is_entry.binds (ps := P_is_entry) fun _ _ _ _ _ _ us hl => match us, hl with | [_], _ => rfl
  have D_Part_init : FunD K "__init__" "Part.__init__" (defArgs s_Part_init) (defBody s_Part_init) (defScope s_Part_init) [.non] [] f_Part_init _ := ⟨⟨oc_Part_init, od_Part_init, _, kV_Part_init, dc_Part_init, pm_Part_init, an_Part_init, cd_Part_init, ct_Part_init, sl_Part_init, rfl, l_Part_init, e_Part_init, .inr ⟨(fun z => nomatch z), _, _, _, _, rfl, lT_Part_init, dT_Part_init, vT_Part_init⟩, .inl rfl⟩, p_Part_init⟩
  have B0_Part_init : ∃ ds, Vals [] ds ∧ Binds K _ P_Part_init ds := D_Part_init.binds1 6 1 (fun z => nomatch z) rfl (fun _ _ _ _ _ _ _ us its hu hi => match us, its, hu, hi with | [_, _, _, _, _, _], [_], _, _ => ⟨_, rfl, rfl⟩)
  have B1_Part_init : ∃ ds, Vals [.non] ds ∧ Binds K _ P_Part_init ds := D_Part_init.binds1 5 0 (fun z => nomatch z) rfl (fun _ _ _ _ _ _ _ us its hu hi => match us, its, hu, hi with | [_, _, _, _, _], [_], _, _ => ⟨_, rfl, rfl⟩)
  have F_joined := fun_mk (st := s_joined) l_joined e_joined p_joined
  have b_joined := F_joined.binds (ps := P_joined) fun _ _ _ _ _ _ us hl => match us, hl with | [_, _], _ => rfl
  have F_repeated := fun_mk (st := s_repeated) l_repeated e_repeated p_repeated
  have b_repeated := F_repeated.binds (ps := P_repeated) fun _ _ _ _ _ _ us hl => match us, hl with | [_, _], _ => rfl
  have F_width := fun_mk (st := s_width) l_width e_width p_width
  have b_width := F_width.binds (ps := P_width) fun _ _ _ _ _ _ us hl => match us, hl with | [_], _ => rfl
  have F_opened := fun_mk (st := s_opened) l_opened e_opened p_opened
  have b_opened := F_opened.binds (ps := P_opened) fun _ _ _ _ _ _ us hl => match us, hl with | [_, _], _ => rfl
  have F_first_unit := fun_mk (st := s_first_unit) l_first_unit e_first_unit p_first_unit
  have b_first_unit := F_first_unit.binds (ps := P_first_unit) fun _ _ _ _ _ _ us hl => match us, hl with | [_], _ => rfl
  have F_behind := fun_mk (st := s_behind) l_behind e_behind p_behind
  have b_behind := F_behind.binds (ps := P_behind) fun _ _ _ _ _ _ us hl => match us, hl with | [_, _], _ => rfl
  have F_part_of := fun_mk (st := s_part_of) l_part_of e_part_of p_part_of
  have b_part_of := F_part_of.binds (ps := P_part_of) fun _ _ _ _ _ _ us hl => match us, hl with | [_, _], _ => rfl
  have F_rotated := fun_mk (st := s_rotated) l_rotated e_rotated p_rotated
  have b_rotated := F_rotated.binds (ps := P_rotated) fun _ _ _ _ _ _ us hl => match us, hl with | [_, _], _ => rfl
  have F_gone_by := fun_mk (st := s_gone_by) l_gone_by e_gone_by p_gone_by
  have b_gone_by := F_gone_by.binds (ps := P_gone_by) fun _ _ _ _ _ _ us hl => match us, hl with | [_, _], _ => rfl
  have F_alike_ahead := fun_mk (st := s_alike_ahead) l_alike_ahead e_alike_ahead p_alike_ahead
  have b_alike_ahead := F_alike_ahead.binds (ps := P_alike_ahead) fun _ _ _ _ _ _ us hl => match us, hl with | [_, _, _], _ => rfl
  have F_run_ahead := fun_mk (st := s_run_ahead) l_run_ahead e_run_ahead p_run_ahead
  have b_run_ahead := F_run_ahead.binds (ps := P_run_ahead) fun _ _ _ _ _ _ us hl => match us, hl with | [_, _], _ => rfl
  have F_agreement := fun_mk (st := s_agreement) l_agreement e_agreement p_agreement
  have b_agreement := F_agreement.binds (ps := P_agreement) fun _ _ _ _ _ _ us hl => match us, hl with | [_, _, _], _ => rfl
  have F_alike_for := fun_mk (st := s_alike_for) l_alike_for e_alike_for p_alike_for
  have b_alike_for := F_alike_for.binds (ps := P_alike_for) fun _ _ _ _ _ _ us hl => match us, hl with | [_, _], _ => rfl
  have F_check_index := fun_mk (st := s_check_index) l_check_index e_check_index p_check_index
  have b_check_index := F_check_index.binds (ps := P_check_index) fun _ _ _ _ _ _ us hl => match us, hl with | [_, _, _], _ => rfl
  have D_Made_init : FunD K "__init__" "Made.__init__" (defArgs s_Made_init) (defBody s_Made_init) (defScope s_Made_init) [.int 1] [] f_Made_init _ := ⟨⟨oc_Made_init, od_Made_init, _, kV_Made_init, dc_Made_init, pm_Made_init, an_Made_init, cd_Made_init, ct_Made_init, sl_Made_init, rfl, l_Made_init, e_Made_init, .inr ⟨(fun z => nomatch z), _, _, _, _, rfl, lT_Made_init, dT_Made_init, vT_Made_init⟩, .inl rfl⟩, p_Made_init⟩
  have B0_Made_init : ∃ ds, Vals [] ds ∧ Binds K _ P_Made_init ds := D_Made_init.binds1 4 1 (fun z => nomatch z) rfl (fun _ _ _ _ _ _ _ us its hu hi => match us, its, hu, hi with | [_, _, _, _], [_], _, _ => ⟨_, rfl, rfl⟩)
  have B1_Made_init : ∃ ds, Vals [.int 1] ds ∧ Binds K _ P_Made_init ds := D_Made_init.binds1 3 0 (fun z => nomatch z) rfl (fun _ _ _ _ _ _ _ us its hu hi => match us, its, hu, hi with | [_, _, _], [_], _, _ => ⟨_, rfl, rfl⟩)
  have F_Word_init := fun_mk (st := s_Word_init) l_Word_init e_Word_init p_Word_init
  have b_Word_init := F_Word_init.binds (ps := P_Word_init) fun _ _ _ _ _ _ us hl => match us, hl with | [_, _], _ => rfl
  have F_Word_add := fun_mk (st := s_Word_add) l_Word_add e_Word_add p_Word_add
  have b_Word_add := F_Word_add.binds (ps := P_Word_add) fun _ _ _ _ _ _ us hl => match us, hl with | [_, _], _ => rfl
  have F_Word_mul := fun_mk (st := s_Word_mul) l_Word_mul e_Word_mul p_Word_mul
  have b_Word_mul := F_Word_mul.binds (ps := P_Word_mul) fun _ _ _ _ _ _ us hl => match us, hl with | [_, _], _ => rfl
  have F_length := fun_mk (st := s_length) l_length e_length p_length
  have b_length := F_length.binds (ps := P_length) fun _ _ _ _ _ _ us hl => match us, hl with | [_], _ => rfl
  have F_cell := fun_mk (st := s_cell) l_cell e_cell p_cell
  have b_cell := F_cell.binds (ps := P_cell) fun _ _ _ _ _ _ us hl => match us, hl with | [_, _], _ => rfl
  have F_digits := fun_mk (st := s_digits) l_digits e_digits p_digits
  have b_digits := F_digits.binds (ps := P_digits) fun _ _ _ _ _ _ us hl => match us, hl with | [_, _], _ => rfl
  have F_entry := fun_mk (st := s_entry) l_entry e_entry p_entry
  have b_entry := F_entry.binds (ps := P_entry) fun _ _ _ _ _ _ us hl => match us, hl with | [_], _ => rfl
  have F_row := fun_mk (st := s_row) l_row e_row p_row
  have b_row := F_row.binds (ps := P_row) fun _ _ _ _ _ _ us hl => match us, hl with | [_, _], _ => rfl
  have F_cut := fun_mk (st := s_cut) l_cut e_cut p_cut
  have b_cut := F_cut.binds (ps := P_cut) fun _ _ _ _ _ _ us hl => match us, hl with | [_, _, _], _ => rfl
  have F_entries := fun_mk (st := s_entries) l_entries e_entries p_entries
  have b_entries := F_entries.binds (ps := P_entries) fun _ _ _ _ _ _ us hl => match us, hl with | [_, _, _], _ => rfl
  have F_getitem := fun_mk (st := s_getitem) l_getitem e_getitem p_getitem
  have b_getitem := F_getitem.binds (ps := P_getitem) fun _ _ _ _ _ _ us hl => match us, hl with | [_, _], _ => rfl
  have F_Word_eq := fun_mk (st := s_Word_eq) l_Word_eq e_Word_eq p_Word_eq
  have b_Word_eq := F_Word_eq.binds (ps := P_Word_eq) fun _ _ _ _ _ _ us hl => match us, hl with | [_, _], _ => rfl
  have F_built := fun_mk (st := s_built) l_built e_built p_built
  have b_built := F_built.binds (ps := P_built) fun _ _ _ _ _ _ us hl => match us, hl with | [_, _], _ => rfl
  have F_agreeing := fun_mk (st := s_agreeing) l_agreeing e_agreeing p_agreeing
  have b_agreeing := F_agreeing.binds (ps := P_agreeing) fun _ _ _ _ _ _ us hl => match us, hl with | [_, _, _, _], _ => rfl
  have F_first_difference := fun_mk (st := s_first_difference) l_first_difference e_first_difference p_first_difference
  have b_first_difference := F_first_difference.binds (ps := P_first_difference) fun _ _ _ _ _ _ us hl => match us, hl with | [_, _], _ => rfl
  have F_check_number := fun_mk (st := s_check_number) l_check_number e_check_number p_check_number
  have b_check_number := F_check_number.binds (ps := P_check_number) fun _ _ _ _ _ _ us hl => match us, hl with | [_, _, _], _ => rfl
  have F_Walk_init := fun_mk (st := s_Walk_init) l_Walk_init e_Walk_init p_Walk_init
  have b_Walk_init := F_Walk_init.binds (ps := P_Walk_init) fun _ _ _ _ _ _ us hl => match us, hl with | [_, _, _], _ => rfl
  have F_next_state := fun_mk (st := s_next_state) l_next_state e_next_state p_next_state
  have b_next_state := F_next_state.binds (ps := P_next_state) fun _ _ _ _ _ _ us hl => match us, hl with | [_, _, _], _ => rfl
  have F_once := fun_mk (st := s_once) l_once e_once p_once
  have b_once := F_once.binds (ps := P_once) fun _ _ _ _ _ _ us hl => match us, hl with | [_, _, _], _ => rfl
  have F_returns := fun_mk (st := s_returns) l_returns e_returns p_returns
  have b_returns := F_returns.binds (ps := P_returns) fun _ _ _ _ _ _ us hl => match us, hl with | [_], _ => rfl
  have F_done := fun_mk (st := s_done) l_done e_done p_done
  have b_done := F_done.binds (ps := P_done) fun _ _ _ _ _ _ us hl => match us, hl with | [_], _ => rfl
  have F_note := fun_mk (st := s_note) l_note e_note p_note
  have b_note := F_note.binds (ps := P_note) fun _ _ _ _ _ _ us hl => match us, hl with | [_, _, _], _ => rfl
  have F_Passages_init := fun_mk (st := s_Passages_init) l_Passages_init e_Passages_init p_Passages_init
  have b_Passages_init := F_Passages_init.binds (ps := P_Passages_init) fun _ _ _ _ _ _ us hl => match us, hl with | [_, _], _ => rfl
  have F_passages := fun_mk (st := s_passages) l_passages e_passages p_passages
  have b_passages := F_passages.binds (ps := P_passages) fun _ _ _ _ _ _ us hl => match us, hl with | [_, _, _, _], _ => rfl
  have F_folded := fun_mk (st := s_folded) l_folded e_folded p_folded
  have b_folded := F_folded.binds (ps := P_folded) fun _ _ _ _ _ _ us hl => match us, hl with | [_, _], _ => rfl
  have F_end := fun_mk (st := s_end) l_end e_end p_end
  have b_end := F_end.binds (ps := P_end) fun _ _ _ _ _ _ us hl => match us, hl with | [_, _], _ => rfl
  have F_go_from := fun_mk (st := s_go_from) l_go_from e_go_from p_go_from
  have b_go_from := F_go_from.binds (ps := P_go_from) fun _ _ _ _ _ _ us hl => match us, hl with | [_, _, _, _], _ => rfl
  have F_check_row := fun_mk (st := s_check_row) l_check_row e_check_row p_check_row
  have b_check_row := F_check_row.binds (ps := P_check_row) fun _ _ _ _ _ _ us hl => match us, hl with | [_], _ => rfl
  have F_matched := fun_mk (st := s_matched) l_matched e_matched p_matched
  have b_matched := F_matched.binds (ps := P_matched) fun _ _ _ _ _ _ us hl => match us, hl with | [_, _], _ => rfl
  have F_row_walk := fun_mk (st := s_row_walk) l_row_walk e_row_walk p_row_walk
  have b_row_walk := F_row_walk.binds (ps := P_row_walk) fun _ _ _ _ _ _ us hl => match us, hl with | [_], _ => rfl
  have F_count_row := fun_mk (st := s_count_row) l_count_row e_count_row p_count_row
  have b_count_row := F_count_row.binds (ps := P_count_row) fun _ _ _ _ _ _ us hl => match us, hl with | [_, _, _], _ => rfl
  have F_stands := fun_mk (st := s_stands) l_stands e_stands p_stands
  have b_stands := F_stands.binds (ps := P_stands) fun _ _ _ _ _ _ us hl => match us, hl with | [_, _], _ => rfl
  have F_otherwise := fun_mk (st := s_otherwise) l_otherwise e_otherwise p_otherwise
  have b_otherwise := F_otherwise.binds (ps := P_otherwise) fun _ _ _ _ _ _ us hl => match us, hl with | [_, _, _], _ => rfl
  have F_powers_right := fun_mk (st := s_powers_right) l_powers_right e_powers_right p_powers_right
  have b_powers_right := F_powers_right.binds (ps := P_powers_right) fun _ _ _ _ _ _ us hl => match us, hl with | [_, _], _ => rfl
  have F_long_right := fun_mk (st := s_long_right) l_long_right e_long_right p_long_right
  have b_long_right := F_long_right.binds (ps := P_long_right) fun _ _ _ _ _ _ us hl => match us, hl with | [_], _ => rfl
  have F_law := fun_mk (st := s_law) l_law e_law p_law
  refine ⟨PySem.W.fnOf "law" "law" (defArgs s_law) (defBody s_law) (defScope s_law) .none kV_law dc_law pm_law an_law cd_law ct_law, fun s v => .of_eq rfl, fun base _ _ => ?_⟩
  exact law_ok (g := g) T
    ⟨f_is_integer, _, F_is_integer, PySem.W.mg_of X Gn a_is_integer, p_is_integer, b_is_integer⟩
    ⟨f_is_between, _, F_is_between, PySem.W.mg_of X Gn a_is_between, p_is_between, b_is_between⟩
    ⟨f_is_name, _, F_is_name, PySem.W.mg_of X Gn a_is_name, p_is_name, b_is_name⟩
    ⟨f_is_entry, _, F_is_entry, PySem.W.mg_of X Gn a_is_entry, p_is_entry, b_is_entry⟩
    ⟨f_Part_init, _, ⟨mk_Part, a_Part_init, i_Part_init, kc_Part⟩, D_Part_init, PySem.W.mg_of X Gn c_Part, B0_Part_init, B1_Part_init⟩
    ⟨f_joined, _, F_joined, PySem.W.mg_of X Gn a_joined, p_joined, b_joined⟩
    ⟨f_repeated, _, F_repeated, PySem.W.mg_of X Gn a_repeated, p_repeated, b_repeated⟩
    ⟨f_width, _, F_width, PySem.W.mg_of X Gn a_width, p_width, b_width⟩
    ⟨f_opened, _, F_opened, PySem.W.mg_of X Gn a_opened, p_opened, b_opened⟩
    ⟨f_first_unit, _, F_first_unit, PySem.W.mg_of X Gn a_first_unit, p_first_unit, b_first_unit⟩
    ⟨f_behind, _, F_behind, PySem.W.mg_of X Gn a_behind, p_behind, b_behind⟩
    ⟨f_part_of, _, F_part_of, PySem.W.mg_of X Gn a_part_of, p_part_of, b_part_of⟩
    ⟨f_rotated, _, F_rotated, PySem.W.mg_of X Gn a_rotated, p_rotated, b_rotated⟩
    ⟨f_gone_by, _, F_gone_by, PySem.W.mg_of X Gn a_gone_by, p_gone_by, b_gone_by⟩
    ⟨f_alike_ahead, _, F_alike_ahead, PySem.W.mg_of X Gn a_alike_ahead, p_alike_ahead, b_alike_ahead⟩
    ⟨f_run_ahead, _, F_run_ahead, PySem.W.mg_of X Gn a_run_ahead, p_run_ahead, b_run_ahead⟩
    ⟨f_agreement, _, F_agreement, PySem.W.mg_of X Gn a_agreement, p_agreement, b_agreement⟩
    ⟨f_alike_for, _, F_alike_for, PySem.W.mg_of X Gn a_alike_for, p_alike_for, b_alike_for⟩
    ⟨f_check_index, _, F_check_index, PySem.W.mg_of X Gn a_check_index, p_check_index, b_check_index⟩
    ⟨f_Made_init, _, ⟨mk_Made, a_Made_init, i_Made_init, kc_Made⟩, D_Made_init, PySem.W.mg_of X Gn c_Made, B0_Made_init, B1_Made_init⟩
    ⟨f_Word_init, _, ⟨mk_Word, a_Word_init, i_Word_init, kc_Word⟩, F_Word_init, PySem.W.mg_of X Gn c_Word, b_Word_init⟩
    ⟨f_Word_add, _, C_Word, ⟨a_Word_add, i_Word_add, p_Word_add⟩, sf_Word, F_Word_add, b_Word_add⟩
    ⟨f_Word_mul, _, C_Word, ⟨a_Word_mul, i_Word_mul, p_Word_mul⟩, sf_Word, F_Word_mul, b_Word_mul⟩
    ⟨f_length, _, C_Word, ⟨a_length, i_length, p_length⟩, sf_Word, F_length, b_length⟩
    ⟨f_cell, _, F_cell, PySem.W.mg_of X Gn a_cell, p_cell, b_cell⟩
    ⟨f_digits, _, F_digits, PySem.W.mg_of X Gn a_digits, p_digits, b_digits⟩
    ⟨f_entry, _, F_entry, PySem.W.mg_of X Gn a_entry, p_entry, b_entry⟩
    ⟨f_row, _, F_row, PySem.W.mg_of X Gn a_row, p_row, b_row⟩
    ⟨f_cut, _, C_Word, ⟨a_cut, i_cut, p_cut⟩, sf_Word, F_cut, b_cut⟩
    ⟨f_entries, _, C_Word, ⟨a_entries, i_entries, p_entries⟩, sf_Word, F_entries, b_entries⟩
    ⟨f_getitem, _, C_Word, ⟨a_getitem, i_getitem, p_getitem⟩, sf_Word, F_getitem, b_getitem⟩
    ⟨f_Word_eq, _, C_Word, ⟨a_Word_eq, i_Word_eq, p_Word_eq⟩, sf_Word, F_Word_eq, b_Word_eq⟩
    ⟨f_built, _, F_built, PySem.W.mg_of X Gn a_built, p_built, b_built⟩
    ⟨f_agreeing, _, F_agreeing, PySem.W.mg_of X Gn a_agreeing, p_agreeing, b_agreeing⟩
    ⟨f_first_difference, _, F_first_difference, PySem.W.mg_of X Gn a_first_difference, p_first_difference, b_first_difference⟩
    ⟨f_check_number, _, F_check_number, PySem.W.mg_of X Gn a_check_number, p_check_number, b_check_number⟩
    ⟨f_Walk_init, _, ⟨mk_Walk, a_Walk_init, i_Walk_init, kc_Walk⟩, F_Walk_init, PySem.W.mg_of X Gn c_Walk, b_Walk_init⟩
    ⟨f_next_state, _, C_Walk, ⟨a_next_state, i_next_state, p_next_state⟩, sf_Walk, F_next_state, b_next_state⟩
    ⟨f_once, _, C_Walk, ⟨a_once, i_once, p_once⟩, sf_Walk, F_once, b_once⟩
    ⟨f_returns, _, C_Passages, ⟨a_returns, i_returns, p_returns⟩, sf_Passages, F_returns, b_returns⟩
    ⟨f_done, _, C_Passages, ⟨a_done, i_done, p_done⟩, sf_Passages, F_done, b_done⟩
    ⟨f_note, _, C_Passages, ⟨a_note, i_note, p_note⟩, sf_Passages, F_note, b_note⟩
    ⟨f_Passages_init, _, ⟨mk_Passages, a_Passages_init, i_Passages_init, kc_Passages⟩, F_Passages_init, PySem.W.mg_of X Gn c_Passages, b_Passages_init⟩
    ⟨f_passages, _, C_Walk, ⟨a_passages, i_passages, p_passages⟩, sf_Walk, F_passages, b_passages⟩
    ⟨f_folded, _, C_Passages, ⟨a_folded, i_folded, p_folded⟩, sf_Passages, F_folded, b_folded⟩
    ⟨f_end, _, C_Passages, ⟨a_end, i_end, p_end⟩, sf_Passages, F_end, b_end⟩
    ⟨f_go_from, _, C_Walk, ⟨a_go_from, i_go_from, p_go_from⟩, sf_Walk, F_go_from, b_go_from⟩
    ⟨f_check_row, _, F_check_row, PySem.W.mg_of X Gn a_check_row, p_check_row, b_check_row⟩
    ⟨f_matched, _, F_matched, PySem.W.mg_of X Gn a_matched, p_matched, b_matched⟩
    ⟨f_row_walk, _, F_row_walk, PySem.W.mg_of X Gn a_row_walk, p_row_walk, b_row_walk⟩
    ⟨f_count_row, _, F_count_row, PySem.W.mg_of X Gn a_count_row, p_count_row, b_count_row⟩
    ⟨f_stands, _, F_stands, PySem.W.mg_of X Gn a_stands, p_stands, b_stands⟩
    ⟨f_otherwise, _, F_otherwise, PySem.W.mg_of X Gn a_otherwise, p_otherwise, b_otherwise⟩
    ⟨f_powers_right, _, F_powers_right, PySem.W.mg_of X Gn a_powers_right, p_powers_right, b_powers_right⟩
    ⟨f_long_right, _, F_long_right, PySem.W.mg_of X Gn a_long_right, p_long_right, b_long_right⟩
    F_law
theorem walk {l : PySem.W.OpenLaw} {q : Program} {loose : List Str} {XP : (Str → Option Value) → Heap → Prop} {YP : World → Heap → Prop} {d : DefRec} {K : Params → PySem.W.Frag} (hn : l.most = some 63) (hdf : d.params.defaults = [])
    (hY : ∀ (w : World) (h : Heap), YP w h → (K w.params).In h)
    (F : ∀ (w : World) (mg : Str → Option Value) (fa : Addr) (h : Heap), (K w.params).In h → h.Ns mainGlobals mg → mg d.name = some (.ref fa) →
      ∃ fd : FuncData, (∀ (s : Shared) (u : Value), BindsTo s fd ⟨[u], []⟩ [("_law_script", u)]) ∧ ∀ base : Heap, (K w.params).In base → base.Ns mainGlobals mg → FnOk l.prog w (K w.params) mg base CX0 (12 + 2 * 20) fa fd ["_law_script"] (spLawK (K w.params))) :
    PySem.W.WalkO q loose XP YP l.row.toRowW d [] (fun f vs => PySem.call f vs) :=
  L2.walk_of (n := 63) (k := (12 + 2 * 20)) (x := "_law_script") (CX := fun _ => CX0) (sp := fun w => spLawK (K w.params)) hn (by decide) hdf ⟨rfl, by decide, by decide⟩ hY F (fun _ _ a ns hl _ hS => ⟨a, ns, rfl, hS, hl, fun _ => rfl⟩) fun _ _ _ _ _ z => z
end RH
set_option exponentiation.threshold 256
open PySem PySem.W PyProof.Rows
set_option Elab.async false
set_option linter.all false
set_option maxRecDepth 100000 in
set_option maxHeartbeats 0 in
theorem PySem.Challenge.cw_roundheap_k33_whole_words_made_otherwise_holds : PySem.Challenge.rw_roundheap_k33_whole_words_made_otherwise.Holds := by
  w_on; o_law; k_head; (case hw => w_witness2)
  k_fill
  refine RH.walk (l := PySem.Challenge.rw_roundheap_k33_whole_words_made_otherwise) rfl rfl (fun w h Y => PySem.W.kIn_of Y) ?F
  case F =>
    intro w mg fa h KX G hmg
    refine' RH.all_mk KX G hmg ?c_Part ?pg_Part ?hd_Part ?po_Part ?sa_Part ?mk_Part ?kc_Part ?c_Made ?pg_Made ?hd_Made ?po_Made ?sa_Made ?mk_Made ?kc_Made ?c_Word ?pg_Word ?hd_Word ?po_Word ?sa_Word ?mk_Word ?kc_Word ?c_Walk ?pg_Walk ?hd_Walk ?po_Walk ?sa_Walk ?mk_Walk ?kc_Walk ?c_Passages ?pg_Passages ?hd_Passages ?po_Passages ?sa_Passages ?mk_Passages ?kc_Passages ?sf_Word ?sf_Walk ?sf_Passages ?k_LETTERS ?r_LETTERS ?k_MOST_LETTERS ?r_MOST_LETTERS ?k_MOST_IN_ROW ?r_MOST_IN_ROW ?k_MOST_DEPTH ?r_MOST_DEPTH ?k_MOST_PIECES ?r_MOST_PIECES ?k_MOST_TOLD ?r_MOST_TOLD ?k_MOST_ROW ?r_MOST_ROW ?k_KINDS ?l_KINDS ?t_KINDS ?d_KINDS ?z_KINDS ?v_KINDS ?n_int ?n_bool ?n_str ?n_tuple ?n_list ?n_len ?n_min ?n_max ?n_all ?n_isinstance ?n_range ?n_sorted ?a_is_integer ?l_is_integer ?e_is_integer ?p_is_integer ?a_is_between ?l_is_between ?e_is_between ?p_is_between ?a_is_name ?l_is_name ?e_is_name ?p_is_name ?a_is_entry ?l_is_entry ?e_is_entry ?p_is_entry ?a_Part_init ?i_Part_init ?l_Part_init ?e_Part_init ?p_Part_init ?lT_Part_init ?dT_Part_init ?vT_Part_init ?a_joined ?l_joined ?e_joined ?p_joined ?a_repeated ?l_repeated ?e_repeated ?p_repeated ?a_width ?l_width ?e_width ?p_width ?a_opened ?l_opened ?e_opened ?p_opened ?a_first_unit ?l_first_unit ?e_first_unit ?p_first_unit ?a_behind ?l_behind ?e_behind ?p_behind ?a_part_of ?l_part_of ?e_part_of ?p_part_of ?a_rotated ?l_rotated ?e_rotated ?p_rotated ?a_gone_by ?l_gone_by ?e_gone_by ?p_gone_by ?a_alike_ahead ?l_alike_ahead ?e_alike_ahead ?p_alike_ahead ?a_run_ahead ?l_run_ahead ?e_run_ahead ?p_run_ahead ?a_agreement ?l_agreement ?e_agreement ?p_agreement ?a_alike_for ?l_alike_for ?e_alike_for ?p_alike_for ?a_check_index ?l_check_index ?e_check_index ?p_check_index ?a_Made_init ?i_Made_init ?l_Made_init ?e_Made_init ?p_Made_init ?lT_Made_init ?dT_Made_init ?vT_Made_init ?a_Word_init ?i_Word_init ?l_Word_init ?e_Word_init ?p_Word_init ?a_Word_add ?i_Word_add ?l_Word_add ?e_Word_add ?p_Word_add ?a_Word_mul ?i_Word_mul ?l_Word_mul ?e_Word_mul ?p_Word_mul ?a_length ?i_length ?l_length ?e_length ?p_length ?a_cell ?l_cell ?e_cell ?p_cell ?a_digits ?l_digits ?e_digits ?p_digits ?a_entry ?l_entry ?e_entry ?p_entry ?a_row ?l_row ?e_row ?p_row ?a_cut ?i_cut ?l_cut ?e_cut ?p_cut ?a_entries ?i_entries ?l_entries ?e_entries ?p_entries ?a_getitem ?i_getitem ?l_getitem ?e_getitem ?p_getitem ?a_Word_eq ?i_Word_eq ?l_Word_eq ?e_Word_eq ?p_Word_eq ?a_built ?l_built ?e_built ?p_built ?a_agreeing ?l_agreeing ?e_agreeing ?p_agreeing ?a_first_difference ?l_first_difference ?e_first_difference ?p_first_difference ?a_check_number ?l_check_number ?e_check_number ?p_check_number ?a_Walk_init ?i_Walk_init ?l_Walk_init ?e_Walk_init ?p_Walk_init ?a_next_state ?i_next_state ?l_next_state ?e_next_state ?p_next_state ?a_once ?i_once ?l_once ?e_once ?p_once ?a_returns ?i_returns ?l_returns ?e_returns ?p_returns ?a_done ?i_done ?l_done ?e_done ?p_done ?a_note ?i_note ?l_note ?e_note ?p_note ?a_Passages_init ?i_Passages_init ?l_Passages_init ?e_Passages_init ?p_Passages_init ?a_passages ?i_passages ?l_passages ?e_passages ?p_passages ?a_folded ?i_folded ?l_folded ?e_folded ?p_folded ?a_end ?i_end ?l_end ?e_end ?p_end ?a_go_from ?i_go_from ?l_go_from ?e_go_from ?p_go_from ?a_check_row ?l_check_row ?e_check_row ?p_check_row ?a_matched ?l_matched ?e_matched ?p_matched ?a_row_walk ?l_row_walk ?e_row_walk ?p_row_walk ?a_count_row ?l_count_row ?e_count_row ?p_count_row ?a_stands ?l_stands ?e_stands ?p_stands ?a_otherwise ?l_otherwise ?e_otherwise ?p_otherwise ?a_powers_right ?l_powers_right ?e_powers_right ?p_powers_right ?a_long_right ?l_long_right ?e_long_right ?p_long_right ?a_law ?l_law ?e_law ?p_law ?x_p_letters ?x_p_left ?x_p_right ?x_p_times ?x_p_turned ?x_p_wide ?x_w_part ?x_w_nesting ?x_w_pieces ?x_m_part ?x_m_nesting ?x_m_pieces ?x_part_cl ?x_word_cl ?x_word_ob ?x_word_word ?x_word_ne ?x_word_nf ?x_list_word ?x_made_cl ?x_cls_get ?x_cls_tk ?x_part_ob ?x_made_ob ?x_part_tup ?x_made_made ?x_list_made ?x_mul_r ?x_mul_i ?x_mul_j ?x_mul_s ?x_k_moves ?x_k_counted ?x_k_known ?x_s_states ?x_s_sums
    (case c_Part => k_is)
    (case pg_Part => k_is)
    (case hd_Part => k_is)
    (case po_Part => k_is)
    (case sa_Part => k_is)
    (case mk_Part => k_is)
    (case kc_Part => k_is)
    (case c_Made => k_is)
    (case pg_Made => k_is)
    (case hd_Made => k_is)
    (case po_Made => k_is)
    (case sa_Made => k_is)
    (case mk_Made => k_is)
    (case kc_Made => k_is)
    (case c_Word => k_is)
    (case pg_Word => k_is)
    (case hd_Word => k_is)
    (case po_Word => k_is)
    (case sa_Word => k_is)
    (case mk_Word => k_is)
    (case kc_Word => k_is)
    (case c_Walk => k_is)
    (case pg_Walk => k_is)
    (case hd_Walk => k_is)
    (case po_Walk => k_is)
    (case sa_Walk => k_is)
    (case mk_Walk => k_is)
    (case kc_Walk => k_is)
    (case c_Passages => k_is)
    (case pg_Passages => k_is)
    (case hd_Passages => k_is)
    (case po_Passages => k_is)
    (case sa_Passages => k_is)
    (case mk_Passages => k_is)
    (case kc_Passages => k_is)
    (case sf_Word => k_is)
    (case sf_Walk => k_is)
    (case sf_Passages => k_is)
    (case k_LETTERS => k_is)
    (case r_LETTERS => exact ⟨_, rfl⟩)
    (case k_MOST_LETTERS => k_is)
    (case r_MOST_LETTERS => exact ⟨_, rfl⟩)
    (case k_MOST_IN_ROW => k_is)
    (case r_MOST_IN_ROW => exact ⟨_, rfl⟩)
    (case k_MOST_DEPTH => k_is)
    (case r_MOST_DEPTH => exact ⟨_, rfl⟩)
    (case k_MOST_PIECES => k_is)
    (case r_MOST_PIECES => exact ⟨_, rfl⟩)
    (case k_MOST_TOLD => k_is)
    (case r_MOST_TOLD => exact ⟨_, rfl⟩)
    (case k_MOST_ROW => k_is)
    (case r_MOST_ROW => exact ⟨_, rfl⟩)
    (case k_KINDS => k_is)
    (case l_KINDS => k_is)
    (case t_KINDS => exact rfl)
    (case d_KINDS => exact rfl)
    (case z_KINDS => decide)
    (case v_KINDS => exact .cons ⟨_, rfl⟩ (.cons ⟨_, rfl⟩ .nil))
    (case n_int => k_is)
    (case n_bool => k_is)
    (case n_str => k_is)
    (case n_tuple => k_is)
    (case n_list => k_is)
    (case n_len => k_is)
    (case n_min => k_is)
    (case n_max => k_is)
    (case n_all => k_is)
    (case n_isinstance => k_is)
    (case n_range => k_is)
    (case n_sorted => k_is)
    (case a_is_integer => k_is)
    (case l_is_integer => k_is)
    (case e_is_integer => k_is)
    (case p_is_integer => k_is)
    (case a_is_between => k_is)
    (case l_is_between => k_is)
    (case e_is_between => k_is)
    (case p_is_between => k_is)
    (case a_is_name => k_is)
    (case l_is_name => k_is)
    (case e_is_name => k_is)
    (case p_is_name => k_is)
    (case a_is_entry => k_is)
    (case l_is_entry => k_is)
    (case e_is_entry => k_is)
    (case p_is_entry => k_is)
    (case a_Part_init => k_is)
    (case i_Part_init => k_is)
    (case l_Part_init => k_is)
    (case e_Part_init => k_is)
    (case p_Part_init => k_is)
    (case lT_Part_init => k_is)
    (case dT_Part_init => exact rfl)
    (case vT_Part_init => exact .cons rfl .nil)
    (case a_joined => k_is)
    (case l_joined => k_is)
    (case e_joined => k_is)
    (case p_joined => k_is)
    (case a_repeated => k_is)
    (case l_repeated => k_is)
    (case e_repeated => k_is)
    (case p_repeated => k_is)
    (case a_width => k_is)
    (case l_width => k_is)
    (case e_width => k_is)
    (case p_width => k_is)
    (case a_opened => k_is)
    (case l_opened => k_is)
    (case e_opened => k_is)
    (case p_opened => k_is)
    (case a_first_unit => k_is)
    (case l_first_unit => k_is)
    (case e_first_unit => k_is)
    (case p_first_unit => k_is)
    (case a_behind => k_is)
    (case l_behind => k_is)
    (case e_behind => k_is)
    (case p_behind => k_is)
    (case a_part_of => k_is)
    (case l_part_of => k_is)
    (case e_part_of => k_is)
    (case p_part_of => k_is)
    (case a_rotated => k_is)
    (case l_rotated => k_is)
    (case e_rotated => k_is)
    (case p_rotated => k_is)
    (case a_gone_by => k_is)
    (case l_gone_by => k_is)
    (case e_gone_by => k_is)
    (case p_gone_by => k_is)
    (case a_alike_ahead => k_is)
    (case l_alike_ahead => k_is)
    (case e_alike_ahead => k_is)
    (case p_alike_ahead => k_is)
    (case a_run_ahead => k_is)
    (case l_run_ahead => k_is)
    (case e_run_ahead => k_is)
    (case p_run_ahead => k_is)
    (case a_agreement => k_is)
    (case l_agreement => k_is)
    (case e_agreement => k_is)
    (case p_agreement => k_is)
    (case a_alike_for => k_is)
    (case l_alike_for => k_is)
    (case e_alike_for => k_is)
    (case p_alike_for => k_is)
    (case a_check_index => k_is)
    (case l_check_index => k_is)
    (case e_check_index => k_is)
    (case p_check_index => k_is)
    (case a_Made_init => k_is)
    (case i_Made_init => k_is)
    (case l_Made_init => k_is)
    (case e_Made_init => k_is)
    (case p_Made_init => k_is)
    (case lT_Made_init => k_is)
    (case dT_Made_init => exact rfl)
    (case vT_Made_init => exact .cons ⟨_, rfl⟩ .nil)
    (case a_Word_init => k_is)
    (case i_Word_init => k_is)
    (case l_Word_init => k_is)
    (case e_Word_init => k_is)
    (case p_Word_init => k_is)
    (case a_Word_add => k_is)
    (case i_Word_add => k_is)
    (case l_Word_add => k_is)
    (case e_Word_add => k_is)
    (case p_Word_add => k_is)
    (case a_Word_mul => k_is)
    (case i_Word_mul => k_is)
    (case l_Word_mul => k_is)
    (case e_Word_mul => k_is)
    (case p_Word_mul => k_is)
    (case a_length => k_is)
    (case i_length => k_is)
    (case l_length => k_is)
    (case e_length => k_is)
    (case p_length => k_is)
    (case a_cell => k_is)
    (case l_cell => k_is)
    (case e_cell => k_is)
    (case p_cell => k_is)
    (case a_digits => k_is)
    (case l_digits => k_is)
    (case e_digits => k_is)
    (case p_digits => k_is)
    (case a_entry => k_is)
    (case l_entry => k_is)
    (case e_entry => k_is)
    (case p_entry => k_is)
    (case a_row => k_is)
    (case l_row => k_is)
    (case e_row => k_is)
    (case p_row => k_is)
    (case a_cut => k_is)
    (case i_cut => k_is)
    (case l_cut => k_is)
    (case e_cut => k_is)
    (case p_cut => k_is)
    (case a_entries => k_is)
    (case i_entries => k_is)
    (case l_entries => k_is)
    (case e_entries => k_is)
    (case p_entries => k_is)
    (case a_getitem => k_is)
    (case i_getitem => k_is)
    (case l_getitem => k_is)
    (case e_getitem => k_is)
    (case p_getitem => k_is)
    (case a_Word_eq => k_is)
    (case i_Word_eq => k_is)
    (case l_Word_eq => k_is)
    (case e_Word_eq => k_is)
    (case p_Word_eq => k_is)
    (case a_built => k_is)
    (case l_built => k_is)
    (case e_built => k_is)
    (case p_built => k_is)
    (case a_agreeing => k_is)
    (case l_agreeing => k_is)
    (case e_agreeing => k_is)
    (case p_agreeing => k_is)
    (case a_first_difference => k_is)
    (case l_first_difference => k_is)
    (case e_first_difference => k_is)
    (case p_first_difference => k_is)
    (case a_check_number => k_is)
    (case l_check_number => k_is)
    (case e_check_number => k_is)
    (case p_check_number => k_is)
    (case a_Walk_init => k_is)
    (case i_Walk_init => k_is)
    (case l_Walk_init => k_is)
    (case e_Walk_init => k_is)
    (case p_Walk_init => k_is)
    (case a_next_state => k_is)
    (case i_next_state => k_is)
    (case l_next_state => k_is)
    (case e_next_state => k_is)
    (case p_next_state => k_is)
    (case a_once => k_is)
    (case i_once => k_is)
    (case l_once => k_is)
    (case e_once => k_is)
    (case p_once => k_is)
    (case a_returns => k_is)
    (case i_returns => k_is)
    (case l_returns => k_is)
    (case e_returns => k_is)
    (case p_returns => k_is)
    (case a_done => k_is)
    (case i_done => k_is)
    (case l_done => k_is)
    (case e_done => k_is)
    (case p_done => k_is)
    (case a_note => k_is)
    (case i_note => k_is)
    (case l_note => k_is)
    (case e_note => k_is)
    (case p_note => k_is)
    (case a_Passages_init => k_is)
    (case i_Passages_init => k_is)
    (case l_Passages_init => k_is)
    (case e_Passages_init => k_is)
    (case p_Passages_init => k_is)
    (case a_passages => k_is)
    (case i_passages => k_is)
    (case l_passages => k_is)
    (case e_passages => k_is)
    (case p_passages => k_is)
    (case a_folded => k_is)
    (case i_folded => k_is)
    (case l_folded => k_is)
    (case e_folded => k_is)
    (case p_folded => k_is)
    (case a_end => k_is)
    (case i_end => k_is)
    (case l_end => k_is)
    (case e_end => k_is)
    (case p_end => k_is)
    (case a_go_from => k_is)
    (case i_go_from => k_is)
    (case l_go_from => k_is)
    (case e_go_from => k_is)
    (case p_go_from => k_is)
    (case a_check_row => k_is)
    (case l_check_row => k_is)
    (case e_check_row => k_is)
    (case p_check_row => k_is)
    (case a_matched => k_is)
    (case l_matched => k_is)
    (case e_matched => k_is)
    (case p_matched => k_is)
    (case a_row_walk => k_is)
    (case l_row_walk => k_is)
    (case e_row_walk => k_is)
    (case p_row_walk => k_is)
    (case a_count_row => k_is)
    (case l_count_row => k_is)
    (case e_count_row => k_is)
    (case p_count_row => k_is)
    (case a_stands => k_is)
    (case l_stands => k_is)
    (case e_stands => k_is)
    (case p_stands => k_is)
    (case a_otherwise => k_is)
    (case l_otherwise => k_is)
    (case e_otherwise => k_is)
    (case p_otherwise => k_is)
    (case a_powers_right => k_is)
    (case l_powers_right => k_is)
    (case e_powers_right => k_is)
    (case p_powers_right => k_is)
    (case a_long_right => k_is)
    (case l_long_right => k_is)
    (case e_long_right => k_is)
    (case p_long_right => k_is)
    (case a_law => k_is)
    (case l_law => k_is)
    (case e_law => k_is)
    (case p_law => k_is)
    (case x_p_letters => k_is)
    (case x_p_left => k_is)
    (case x_p_right => k_is)
    (case x_p_times => k_is)
    (case x_p_turned => k_is)
    (case x_p_wide => k_is)
    (case x_w_part => k_is)
    (case x_w_nesting => k_is)
    (case x_w_pieces => k_is)
    (case x_m_part => k_is)
    (case x_m_nesting => k_is)
    (case x_m_pieces => k_is)
    (case x_part_cl => k_is)
    (case x_word_cl => k_is)
    (case x_word_ob => k_is)
    (case x_word_word => kit_is)
    (case x_word_ne => k_is)
    (case x_word_nf => k_is)
    (case x_list_word => kit_is)
    (case x_made_cl => k_is)
    (case x_cls_get => k_is)
    (case x_cls_tk => k_is)
    (case x_part_ob => k_is)
    (case x_made_ob => k_is)
    (case x_part_tup => kit_is)
    (case x_made_made => kit_is)
    (case x_list_made => kit_is)
    (case x_mul_r => k_is)
    (case x_mul_i => k_is)
    (case x_mul_j => k_is)
    (case x_mul_s => k_is)
    (case x_k_moves => k_is)
    (case x_k_counted => k_is)
    (case x_k_known => k_is)
    (case x_s_states => k_is)
    (case x_s_sums => k_is)
#print axioms PySem.Challenge.cw_roundheap_k33_whole_words_made_otherwise_holds
