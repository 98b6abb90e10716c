import PyProof.Rows.All
import Wide.All
import OpenK.AllK
import Wide.FinOn
import HandS.Style
import HandS.HeadHook3
import HandS.WrittenGet
import HandS.Dict
import HandS.TupAny
import KE.KRevSl
import HandS.SortRule
import HandS.SortInts
import HandS.ForMost
import HandS.Exc
import HandS.ExcOwn
import HandS.TryOnly
import HandS.TryMany
import HandS.TupMul
import HandS.Conv
import PyProof.ListStr
import PyProof.TupleOfStr
import PyProof.Rows.StrMul
import KE.SortData
import HandS.Deep
import KE.DataCmp
import HandS.IsInst
import HandS.WordsExc
import HandS.More
import KE.GoesEnum
import HandS.Zip
import KE.GoesMore
import HandS.SetFor
import HandS.ExcIs
import HandS.ExcField
import KE.KStateDown
import HandS.Codes
import HandS.Defaults
import HandS.Head0
import HandS.Head1
import HandS.Head2
import HandS.HeadEnd
import HandS.HeadHook1
import HandS.HeadHook2
import PySem.Challenge.RW_chestwright_k34_whole_claims
set_option Elab.async false
set_option linter.all false
set_option maxRecDepth 100000
set_option maxHeartbeats 1000000
/-! Layer PyV, part G1: rules beside the hand layer: t[::-1] of tuples, D.get of a written dict. -/
namespace HT
open PySem PySem.Spec PyProof.Rows
section
variable {prog : Program} {w : World} {A : Around} {E : Value → Shared → Prop} {s : Shared}
theorem filterMap_same {α β : Type} {f g : α → Option β} : ∀ {l : List α}, (∀ x ∈ l, f x = g x) → l.filterMap f = l.filterMap g
  | [], _ => rfl
  | x :: l, h => by rw [List.filterMap_cons, List.filterMap_cons, h x List.mem_cons_self, filterMap_same fun y hy => h y (List.mem_cons_of_mem _ hy)]
theorem rev_pick (xs : Array Value) : ((List.range xs.size).filterMap fun (m : Nat) => xs[(((xs.size : Nat) : Int) - 1 + (m : Int) * (-1)).toNat]?).toArray = xs.toList.reverse.toArray := by
  have e : (List.range xs.size).filterMap (fun (m : Nat) => xs[(((xs.size : Nat) : Int) - 1 + (m : Int) * (-1)).toNat]?) = ((List.range xs.size).map fun k => xs.size - 1 - k).filterMap (fun (m : Nat) => xs[m]?) := by
    rw [List.filterMap_map]
    refine filterMap_same fun m hm => ?_
    have hm := List.mem_range.mp hm
    show xs[_]? = xs[xs.size - 1 - m]?
    congr 1
    omega
  rw [e, PySem.W.krv_range, List.filterMap_reverse]
  rw [show (List.range xs.size).filterMap (fun (m : Nat) => xs[m]?) = xs.toList from PySem.W.krv_all xs]
theorem getItem_tuple_rev {t sl : Addr} {items : Array Value} {vl vu vs : Value} {Q : Value → Shared → Prop} (ht : IsTup s.heap t items) (hs : s.heap.IsSliceOf sl vl vu vs) (pl : IsPart vl none) (pu : IsPart vu none) (ps : IsPart vs (some (-1)))
    (h : Q (.ref s.heap.objs.size) { s with heap := s.heap.push { cls := .type "tuple", data := .seq items.toList.reverse.toArray } })
    (hsz : items.size ≤ sizeLine) : wpAny (model prog w) A (getItem (.ref t) (.ref sl)) Q E s := by
  have htake : sizeOk (.seq items.toList.reverse.toArray) := by
    show items.toList.reverse.toArray.size ≤ sizeLine
    rw [List.size_toArray, List.length_reverse, Array.length_toList]
    exact hsz
  obtain ⟨os, hos, hcs, hds⟩ := id hs
  have hTs : s.TypeIs (.ref sl) "slice" := ⟨os, hos, hcs⟩
  unfold getItem
  try with_reducible refine wpAny_holding ?_
  first | refine wpAny_bind (wpAny_pure ?_) | skip
  refine wpAny_bind (wpAny_sequenceKey ht.typeIs (by decide) ?_)
  refine wpAny_bind (wpAny_callSpecial?_slot (name := Str.ofString "__getitem__") ht.typeIs PyProof.Rows.slot_tuple_getitem
    (wpAny_call_entry PyProof.Rows.slot_tuple_getitem ht.typeIs entry_tuple_getitem ?_ (args_tuple_getitem _ _)))
  show wpAny _ _ (Builtin.Tuple.tupleItemsOf (.ref t) >>= _) _ _ s
  refine wpAny_bind (tupleItemsOf_ ht ?_)
  refine wpAny_bind (wpAny_typeOf hTs ?_)
  rw [if_pos (by decide)]
  have happ : ∀ {Q : Int × Int × Nat → Shared → Prop}, Q (((items.size : Nat) : Int) - 1, -1, items.size) s → wpAny (model prog w) A.in1 (Builtin.Slice.sliceApplied (.ref sl) (pure ((items.size : Nat) : Int))) Q (fun e s' => E e s') s := by
    intro Q h
    unfold Builtin.Slice.sliceApplied Builtin.Slice.sliceFields
    refine wpAny_bind (wpAny_bind (wpAny_field hos hds (x := vl) rfl (wpAny_bind (wpAny_field hos hds (x := vu) rfl (wpAny_bind (wpAny_field hos hds (x := vs) rfl (wpAny_pure ?_)))))))
    refine wpAny_bind (slicePart_ ps ?_)
    show wpAny _ _ (if ((-1 : Int) == 0) = true then _ else _) _ _ s
    rw [if_neg (by decide)]
    refine wpAny_bind (slicePart_ pl (wpAny_bind (slicePart_ pu (wpAny_bind (wpAny_pure ?_)))))
    show wpAny _ _ (pure (((items.size : Nat) : Int) - 1, (-1 : Int), Builtin.Slice.slicePlaces (((items.size : Nat) : Int) - 1) (-1) (-1))) _ _ s
    have e : Builtin.Slice.slicePlaces (((items.size : Nat) : Int) - 1) (-1) (-1) = items.size := by
      unfold Builtin.Slice.slicePlaces
      have h1 : ¬ ((-1 : Int) > 0) := by decide
      rw [if_neg h1]
      by_cases h2 : ((items.size : Nat) : Int) - 1 > -1
      · rw [if_pos h2, show (- -1 : Int) = 1 by decide, Int.ediv_one]
        omega
      · rw [if_neg h2]
        have : items.size = 0 := by omega
        rw [this]; rfl
    rw [e]
    exact wpAny_pure h
  refine wpAny_bind (happ ?_)
  have hno : ¬ (((((items.size : Nat) : Int) - 1) == 0 && (-1 : Int) == 1 && items.size == items.size) = true) := by
    intro q
    rw [Bool.and_eq_true, Bool.and_eq_true] at q
    exact absurd q.1.2 (by decide)
  show wpAny _ _ (if ((((items.size : Nat) : Int) - 1) == 0 && (-1 : Int) == 1 && items.size == items.size) = true then _ else _) _ _ s
  rw [if_neg hno, rev_pick]
  first
    | exact wpAny_bind (m := Builtin.Tuple.tupleExact _) (wpAny_newObj_type (wpAny_pure ⟨_, rfl, wpAny_pure h⟩) htake)
    | exact wpAny_bind (m := Builtin.Tuple.tupleExact _) (wpAny_newObj_type (wpAny_bind (wpAny_pure (wpAny_pure ⟨_, rfl, wpAny_pure h⟩))) htake)
    | exact wpAny_bind (wpAny_bind (m := Builtin.Tuple.tupleExact _) (wpAny_newObj_type (wpAny_pure (wpAny_pure ⟨_, rfl, wpAny_pure h⟩)) htake))
    | exact wpAny_bind (wpAny_bind (m := Builtin.Tuple.tupleExact _) (wpAny_newObj_type (wpAny_pure ⟨_, rfl, wpAny_pure h⟩) htake))
end
end HT
namespace PyV
open PySem PySem.Spec PyProof.Rows L2
/-! ### xs[::-1] of lists and tuples -/
def tRev (K : PySem.W.Frag) (te : TE) : TE := fun σ H Q => te σ H fun x H1 => (∃ a xs, x = .ref a ∧ SqL K H1 a xs ∧ ∀ p, H1 p = none → Q (.ref p) (upd H1 p (.lst xs.reverse))) ∨
  (∃ a xs, x = .ref a ∧ SqT K H1 a xs ∧ ∀ p, H1 p = none → Q (.ref p) (upd H1 p (.tup xs.reverse)))
section
variable {X : Cx}
theorem pe_rev {e : Expr} {te : TE} {k : Nat} {p1 p2 p3 pos : Pos} (he : PE X e te) : PE X (.Subscript e (.Slice none none (some (.UnaryOp .USub (.Constant (.int 1) k p1) p2)) p3) pos) (tRev X.K te) := by
  refine ⟨fun pins s σ H Q I h => ?_⟩
  refine Subscript_ (thn (he.run pins s σ H _ I h) fun v s1 ⟨x, H1, I1, r1, q1⟩ => ?_)
  have hst : PO X (some (.UnaryOp .USub (.Constant (.int 1) k p1) p2)) (tPart (tUn (rU fun i => .int (-i)) (tC (.int 1)))) := po_some (pe_un un_neg pe_int)
  refine wpAny_Slice (thn (po_none.run pins s1 σ H1 (fun o H2 => o = none ∧ H2 = H1) I1 ⟨rfl, rfl⟩) fun vl s2 ⟨l, H2, I2, pl, el, e2⟩ => ?_)
  subst el e2
  refine thn (po_none.run pins s2 σ H2 (fun o H3 => o = none ∧ H3 = H2) I2 ⟨rfl, rfl⟩) fun vu s3 ⟨u, H3, I3, pu, eu, e3⟩ => ?_
  subst eu e3
  refine thn (hst.run pins s3 σ H3 (fun o H4 => o = some (-1) ∧ H4 = H3) I3 ⟨1, rfl, -1, rfl, rfl, rfl⟩) fun vs s4 ⟨o, H4, I4, ps, eo, e4⟩ => ?_
  subst eo e4
  have I5 : Inv X pins σ H4 { s4 with heap := s4.heap.push { cls := .type "slice", data := .fields #[vl, vu, vs] } } := I4.kept (t' := s4.toks) fun b ob q => Heap.get?_push_of_some _ q
  rcases q1 with ⟨a, xs, ex, hx, q⟩ | ⟨a, xs, ex, hx, q⟩
  · subst ex
    cases r1
    obtain ⟨its, r, ht, hz⟩ := I5.list hx
    have hlen := r.length
    show wpAny (model X.prog X.w) X.A (subscriptTail e (.Slice none none (some (.UnaryOp .USub (.Constant (.int 1) k p1) p2)) p3) (.ref a) (.ref s4.heap.objs.size)) (EP X pins σ Q) X.xe { s4 with heap := s4.heap.push { cls := .type "slice", data := .fields #[vl, vu, vs] } }
    refine tail_any (ops := [.ref a, .ref s4.heap.objs.size]) ht.isList.typeIs (PySem.slot_list_getitem.lookup) ?_ (by with_unfolding_all rfl)
    refine wpAny_getItem_list_slice ht.isList (Heap.IsSliceOf.new _ vl vu vs) pl pu ps (by decide) ?_ (by rw [List.size_toArray]; omega)
    rw [PySem.W.krv_pick]
    refine ⟨.ref _, _, I5.laid (t' := s4.toks) (o := .lst xs.reverse) (fun b ob q => Heap.get?_push_of_some _ q) (Nat.le_refl _) ?_, rfl, q _ (I5.hok.fresh (Nat.le_refl _))⟩
    exact ⟨by rw [List.length_reverse]; exact hz, _, 0, r.reverse, Heap.get?_push_size _ rfl⟩
  · subst ex
    cases r1
    obtain ⟨its, r, ht, hz⟩ := I5.tuple hx
    have hlen := r.length
    show wpAny (model X.prog X.w) X.A (subscriptTail e (.Slice none none (some (.UnaryOp .USub (.Constant (.int 1) k p1) p2)) p3) (.ref a) (.ref s4.heap.objs.size)) (EP X pins σ Q) X.xe { s4 with heap := s4.heap.push { cls := .type "slice", data := .fields #[vl, vu, vs] } }
    refine tail_any (ops := [.ref a, .ref s4.heap.objs.size]) ht.typeIs (PyProof.Rows.slot_tuple_getitem.lookup) ?_ (by with_unfolding_all rfl)
    refine HT.getItem_tuple_rev ht (Heap.IsSliceOf.new _ vl vu vs) pl pu ps ?_ (by rw [List.size_toArray]; omega)
    refine ⟨.ref _, _, I5.laid (t' := s4.toks) (o := .tup xs.reverse) (fun b ob q => Heap.get?_push_of_some _ q) (Nat.le_refl _) ?_, rfl, q _ (I5.hok.fresh (Nat.le_refl _))⟩
    exact ⟨by rw [List.length_reverse]; exact hz, _, r.reverse, IsTup.new _ _⟩
/-! ### D.get(k), D a written dict with text keys -/
def KD (K : PySem.W.Frag) (w : World) (a : Addr) : Prop := ∃ es n, K.lookup a = some ⟨.type "dict", none, .dict es n, #[]⟩ ∧ PySem.W.KeysLit w.params es.toList ∧ (a == sysModules) = false
def tKGet (K : PySem.W.Frag) (w : World) (to : TE) (t : TA) : TE := fun σ H Q => to σ H fun x H1 => ∃ a, x = .ref a ∧ KD K w a ∧ t σ H1 fun vs H2 => ∃ z, vs = [.str z] ∧ ((∃ v, KDct K w a z v ∧ Q v H2) ∨ (KMiss K w a z ∧ Q .non H2))
theorem pe_kget {o e : Expr} {apos cpos : Pos} {to : TE} {t : TA} (ho : PE X o to) (ha : PA X [e] t) (hbase : attributeBase o "get" X.env (eval o X.env) = eval o X.env)
    (hfew : ((backTo cpos (starEach [e] X.env)).all (fun x => !x.1) && (backToKw cpos (keywordEach [] X.env)).all (fun x => x.1.isSome)
      && decide (([e] : List Expr).length + ([] : List Keyword).length + (if ([] : List Keyword).isEmpty then 0 else 1) < 30)) = true)
    (hline : (apos.endLine == cpos.line) = true) (hs : starEach [e] X.env = (false, eval e X.env) :: starEach [] X.env) : PE X (.Call (.Attribute o "get" apos) [e] [] cpos) (tKGet X.K X.w to t) := by
  refine ⟨fun pins s σ H Q I h => ?_⟩
  refine wpAny_Call_method hbase hfew hline PySem.F.plainAttrs_dict PySem.F.slot_dict_get PySem.F.type_dict_get (thn (ho.run pins s σ H _ I h) fun u s1 ⟨x, H1, I1, rx, a, ex, kd, q1⟩ => ?_)
  subst ex
  obtain rfl : u = Value.ref a := rx
  obtain ⟨es, n, hl, hk, low⟩ := kd
  have hm1 := PySem.W.mapOf_K (prog := X.prog) (w := X.w) I1.kIn hl hk
  refine ⟨hm1.typeIs, fun b q => ?_, ?_⟩
  · cases q
    exact ⟨_, I1.kIn _ _ hl, rfl⟩
  have hA := ha.run cpos pins s1 σ H1 _ I1 q1
  rw [hs] at hA ⊢
  refine Calls.callWith_builtin rfl (Calls.evalArgs_plain ?_)
  refine thn hA fun us s2 ⟨vs, H2, I2, r2, z, ey, q2⟩ => ?_
  subst ey
  obtain ⟨iv, rfl, ry⟩ := vals1 r2
  obtain ⟨t, rfl⟩ := (show ∃ t, iv = Value.str z t from ry)
  have hm := PySem.W.mapOf_K (prog := X.prog) (w := X.w) I2.kIn hl hk
  refine call_meetsIn PySem.F.slot_dict_get hm.typeIs PySem.F.entry_dict_get (PySem.F.args_dict_get_2 _ _) (meets_dict_get (strKind X.prog X.w) a (strKind_is X.prog X.w z t) low) ⟨_, hm, ?_⟩
  rcases q2 with ⟨v0, ⟨es', n', u0, hl', hk', e', ru⟩, q⟩ | ⟨⟨es', n', hl', hk', low', e'⟩, q⟩
  · have hf : findBy Value.isStrOf es z = some u0 := PySem.W.find_K hl e'
    rw [hf]
    exact ⟨v0, H2, I2.tok _, ru, q⟩
  · have hf : findBy Value.isStrOf es z = none := PySem.W.find_K hl e'
    rw [hf]
    exact ⟨.non, H2, I2.tok _, rfl, q⟩
end
/-- no such key in a written dict -/
theorem ns_miss {K : PySem.W.Frag} {P : Params} {a : Addr} {ks : List Str} {x : Str} (h : He.dicW K a = some (He.keysIn P ks)) (hx : ∀ k ∈ ks, (k == x) = false) : PySem.W.nsIn K a x = some none := by
  unfold He.dicW at h
  cases q : K.lookup a with
  | none => rw [q] at h; cases h
  | some o =>
    obtain ⟨oc, od, dt, osl⟩ := o
    rw [q] at h
    cases oc with
    | type c =>
      cases od with
      | none =>
        cases dt with
        | dict es n =>
          have h1 : (match decide (c = "dict") && (osl.isEmpty && !(a == sysModules)) with
            | true => some (es.toList.map He.keyOf)
            | false => none) = some (He.keysIn P ks) := h
          cases z : decide (c = "dict") && (osl.isEmpty && !(a == sysModules)) with
          | false => rw [z] at h1; cases h1
          | true =>
            rw [z] at h1
            have h2 : es.toList.map He.keyOf = He.keysIn P ks := Option.some.inj h1
            unfold PySem.W.nsIn
            rw [q]
            show (match es.toList.find? (·.key.isStr x) with
              | some e => some (some e.val)
              | none => if es.toList.any (·.refKey) then none else some none) = some none
            clear h h1 q z
            generalize es.toList = l at h2
            have key : ∀ (l : List DictEntry) (ks : List Str), l.map He.keyOf = He.keysIn P ks → (∀ k ∈ ks, (k == x) = false) → l.find? (·.key.isStr x) = none ∧ l.any (·.refKey) = false := by
              intro l
              induction l with
              | nil => intro _ _ _; exact ⟨rfl, rfl⟩
              | cons e l ih =>
                intro ks h hx
                cases ks with
                | nil => cases h
                | cons k ks =>
                  have h1 : He.keyOf e :: l.map He.keyOf = some (k, PyData.keyHash P k) :: He.keysIn P ks := h
                  injection h1 with h2 h3
                  obtain ⟨i1, i2⟩ := ih ks h3 fun k hk => hx k (List.mem_cons_of_mem _ hk)
                  have hk := hx k List.mem_cons_self
                  unfold He.keyOf at h2
                  split at h2
                  · rename_i y t q
                    have h4 := Option.some.inj h2
                    obtain ⟨h5, h6⟩ := Prod.mk.inj h4
                    subst h5
                    have e1 : e.key.isStr x = false := by rw [q]; exact hk
                    have e2 : e.refKey = false := by unfold DictEntry.refKey; rw [q]
                    refine ⟨?_, ?_⟩
                    · rw [List.find?_cons, e1]; exact i1
                    · rw [List.any_cons, e2, i2]; rfl
                  · cases h2
            obtain ⟨k1, k2⟩ := key l ks h2 hx
            rw [k1, k2]
            rfl
        | _ => cases h
      | some _ => cases h
    | _ => cases h
end PyV
set_option Elab.async false
set_option linter.all false
set_option maxRecDepth 100000
set_option maxHeartbeats 1000000
/-! Layer PyV, part G2: sorted of ints and of pairs of ints, at any place. -/
namespace PyV
open PySem PySem.Spec PyProof.Rows L2
/-! ### insertion -/
section
variable {α : Type}
def insB (lt : α → α → Bool) (x : α) : List α → List α
  | [] => [x]
  | y :: l => if lt y x = true then y :: insB lt x l else x :: y :: l
def srtB (lt : α → α → Bool) : List α → List α
  | [] => []
  | x :: l => insB lt x (srtB lt l)
theorem insB_perm (lt : α → α → Bool) (x : α) : ∀ l : List α, (insB lt x l).Perm (x :: l)
  | [] => List.Perm.refl _
  | y :: l => by
    unfold insB
    split
    · exact ((insB_perm lt x l).cons y).trans (List.Perm.swap x y l)
    · exact List.Perm.refl _
theorem srtB_perm (lt : α → α → Bool) : ∀ l : List α, (srtB lt l).Perm l
  | [] => List.Perm.refl _
  | x :: l => (insB_perm lt x _).trans ((srtB_perm lt l).cons x)
theorem insB_sorted {lt : α → α → Bool} (O : SrtO.Swo lt) (x : α) : ∀ l : List α, SrtO.Srtd lt l → SrtO.Srtd lt (insB lt x l)
  | [], _ => List.pairwise_singleton _ _
  | y :: l, h => by
    have hl := (List.pairwise_cons.mp h)
    unfold insB
    split
    · rename_i hy
      refine List.pairwise_cons.mpr ⟨fun z hz => ?_, insB_sorted O x l hl.2⟩
      rcases List.mem_cons.mp ((insB_perm lt x l).mem_iff.mp hz) with e | e
      · rw [e]; exact O.asym y x hy
      · exact hl.1 z e
    · rename_i hy
      have hy : lt y x = false := by simpa using hy
      refine List.pairwise_cons.mpr ⟨fun z hz => ?_, h⟩
      rcases List.mem_cons.mp hz with e | e
      · rw [e]; exact hy
      · exact O.tr x y z hy (hl.1 z e)
theorem srtB_sorted {lt : α → α → Bool} (O : SrtO.Swo lt) : ∀ l : List α, SrtO.Srtd lt (srtB lt l)
  | [] => List.Pairwise.nil
  | x :: l => insB_sorted O x _ (srtB_sorted O l)
/-- two sorted rearrangements are one, where nothing else is equal -/
theorem srt_uniq {lt : α → α → Bool} (anti : ∀ x y, lt x y = false → lt y x = false → x = y) : ∀ {l m : List α}, SrtO.Srtd lt l → SrtO.Srtd lt m → l.Perm m → l = m
  | [], m, _, _, h => (List.Perm.eq_nil h.symm).symm
  | x :: l, [], _, _, h => absurd h.length_eq (by simp)
  | x :: l, y :: m, hl, hm, h => by
    have e : x = y := by
      rcases List.mem_cons.mp (h.mem_iff.mp List.mem_cons_self) with e | hx
      · exact e
      · rcases List.mem_cons.mp (h.mem_iff.mpr List.mem_cons_self) with e | hy
        · exact e.symm
        · exact anti x y ((List.pairwise_cons.mp hm).1 x hx) ((List.pairwise_cons.mp hl).1 y hy)
    subst e
    rw [srt_uniq anti (List.pairwise_cons.mp hl).2 (List.pairwise_cons.mp hm).2 h.cons_inv]
end
def ltI (a b : Int) : Bool := decide (a < b)
theorem swo_I : SrtO.Swo ltI := by
  refine ⟨fun x y h => ?_, fun x y z h1 h2 => ?_⟩
  · have := of_decide_eq_true (p := x < y) h
    exact decide_eq_false (p := y < x) (by omega)
  · have a := of_decide_eq_false (p := y < x) h1
    have b := of_decide_eq_false (p := z < y) h2
    exact decide_eq_false (p := z < x) (by omega)
theorem anti_I (x y : Int) (h1 : ltI x y = false) (h2 : ltI y x = false) : x = y := by
  have a := of_decide_eq_false (p := x < y) h1
  have b := of_decide_eq_false (p := y < x) h2
  omega
abbrev ltQ : Int × Int → Int × Int → Bool := SrtO.lexB
theorem swo_Q : SrtO.Swo ltQ := by
  refine ⟨fun x y h => ?_, fun x y z h1 h2 => ?_⟩
  · have a := SrtO.lexB_iff.mp h
    refine SrtO.lexB_no.mpr ?_
    omega
  · have a := SrtO.lexB_no.mp h1
    have b := SrtO.lexB_no.mp h2
    refine SrtO.lexB_no.mpr ?_
    omega
theorem anti_Q (x y : Int × Int) (h1 : ltQ x y = false) (h2 : ltQ y x = false) : x = y := by
  have a := SrtO.lexB_no.mp h1
  have b := SrtO.lexB_no.mp h2
  obtain ⟨x1, x2⟩ := x
  obtain ⟨y1, y2⟩ := y
  simp only at a b
  have e1 : x1 = y1 := by omega
  have e2 : x2 = y2 := by omega
  rw [e1, e2]
def sortI (ns : List Int) : List Int := srtB ltI ns
def sortQ (ps : List (Int × Int)) : List (Int × Int) := srtB ltQ ps
section
variable {X : Cx}
theorem call_sortI : CallR X (.builtin "sorted") (fun vs H Q => ∃ (a : Addr) (ns : List Int), vs = [V.ref a] ∧ SqL X.K H a (ns.map V.int) ∧ ∀ p, H p = none → Q (.ref p) (upd H p (.lst ((sortI ns).map V.int)))) := by
  intro pins s σ H vs us Q I r h
  obtain ⟨a, ns, e, hs, q⟩ := h
  refine cr_sortedI pins s σ H vs us Q I r ⟨a, ns, e, hs, fun ns' p hp hw hn => ?_⟩
  have e2 : ns' = sortI ns := srt_uniq anti_I (hw.imp fun {x y} h => decide_eq_false (p := y < x) (by omega)) (srtB_sorted swo_I ns) (hp.trans (srtB_perm ltI ns).symm)
  rw [e2]
  exact q p hn
/-- pairs of ints, at any place -/
inductive Prs (K : PySem.W.Frag) (H : Hp) : List V → List (Int × Int) → Prop
  | nil : Prs K H [] []
  | cons {t : Addr} {i j : Int} {vs : List V} {ps : List (Int × Int)} : SqT K H t [.int i, .int j] → Prs K H vs ps → Prs K H (.ref t :: vs) ((i, j) :: ps)
theorem pair_uniq {h : Heap} {v : Value} {x y x' y' : Int} (a : Srt.IsPair h v x y) (b : Srt.IsPair h v x' y') : x = x' ∧ y = y' := by
  obtain ⟨a1, o1, t1, u1, n1, e1, g1, c1, d1⟩ := a
  obtain ⟨a2, o2, t2, u2, n2, e2, g2, c2, d2⟩ := b
  rw [e1] at e2
  cases e2
  rw [g1] at g2
  cases g2
  rw [d1] at d2
  injection d2 with d2 _
  simp at d2
  exact ⟨d2.1.1, d2.2.1⟩
open Classical in
noncomputable def kOf (h : Heap) (v : Value) : Int × Int := if c : ∃ q : Int × Int, Srt.IsPair h v q.1 q.2 then Classical.choose c else (0, 0)
theorem kOf_eq {h : Heap} {v : Value} {x y : Int} (a : Srt.IsPair h v x y) : kOf h v = (x, y) := by
  have c : ∃ q : Int × Int, Srt.IsPair h v q.1 q.2 := ⟨(x, y), a⟩
  unfold kOf
  rw [dif_pos c]
  obtain ⟨e1, e2⟩ := pair_uniq (Classical.choose_spec c) a
  exact Prod.ext e1 e2
theorem prs_back {pins : List (Addr × Obj)} {s : Shared} {σ : L2.St} {H : Hp} (I : Inv X pins σ H s) : ∀ {vs : List V} {ps : List (Int × Int)} {us : List Value}, Prs X.K H vs ps → Vals vs us → us.map (kOf s.heap) = ps ∧ vs = us.map backV ∧
    (∀ u ∈ us, ∃ t, u = Value.ref t ∧ Srt.IsPair s.heap u (kOf s.heap u).1 (kOf s.heap u).2 ∧ SqT X.K H t [.int (kOf s.heap u).1, .int (kOf s.heap u).2])
  | _, _, _, .nil, .nil => ⟨rfl, rfl, fun u hu => by cases hu⟩
  | _, _, _, .cons (t := t) (i := i) (j := j) hT hp, .cons rv r => by
    cases rv
    obtain ⟨h1, h2, h3⟩ := prs_back I hp r
    have pr : Srt.IsPair s.heap (.ref t) i j := by
      obtain ⟨its, r2, ht, _⟩ := I.tuple hT
      obtain ⟨u1, u2, rfl, ri, rj⟩ := vals2 r2
      obtain ⟨t1, rfl⟩ := ri
      obtain ⟨t2, rfl⟩ := rj
      obtain ⟨o, ho, hc, n, hd⟩ := ht
      exact ⟨t, o, t1, t2, n, rfl, ho, hc, hd⟩
    have ek := kOf_eq pr
    refine ⟨by rw [List.map_cons, ek, h1], by rw [List.map_cons, ← h2]; rfl, fun u hu => ?_⟩
    rcases List.mem_cons.mp hu with e | hu
    · subst e
      rw [ek]
      exact ⟨t, rfl, pr, hT⟩
    · exact h3 u hu
theorem prs_of {h : Heap} {H : Hp} {K : PySem.W.Frag} : ∀ {us : List Value}, (∀ u ∈ us, ∃ t, u = Value.ref t ∧ SqT K H t [.int (kOf h u).1, .int (kOf h u).2]) → Prs K H (us.map backV) (us.map (kOf h))
  | [], _ => .nil
  | u :: us, hh => by
    obtain ⟨t, e, hT⟩ := hh u List.mem_cons_self
    subst e
    exact .cons hT (prs_of fun v hv => hh v (List.mem_cons_of_mem _ hv))
theorem call_sortQ : CallR X (.builtin "sorted") (fun vs H Q => ∃ (a : Addr) (xs : List V) (ps : List (Int × Int)), vs = [V.ref a] ∧ SqL X.K H a xs ∧ Prs X.K H xs ps ∧ ∀ ys p, Prs X.K H ys (sortQ ps) → H p = none → Q (.ref p) (upd H p (.lst ys))) := by
  intro pins s σ H vs us Q I r h
  obtain ⟨a, xs, ps, rfl, hs, hx, q⟩ := h
  obtain ⟨its, rv, hl, hz⟩ := I.list hs
  obtain ⟨u, rfl, ru⟩ := vals1 r
  obtain rfl : u = Value.ref a := ru
  obtain ⟨e1, e2, e3⟩ := prs_back I hx rv
  refine SrtO.sorted_pairsO (k := kOf s.heap) hl.isList (by rw [← rv.length]; exact hz) (fun v hv => ?_) fun h' d out h1 h2 kp hd hn => ?_
  · obtain ⟨t, _, p, _⟩ := e3 v hv
    exact p
  · have hm : ∀ u ∈ out, u ∈ its := fun u hu => h2.perm.mem_iff.mp hu
    have h3 : ∀ u ∈ out, ∃ a, u = Value.ref a := fun u hu => by
      obtain ⟨t, e, _⟩ := e3 u (hm u hu)
      exact ⟨t, e⟩
    obtain ⟨n, hn⟩ := hn
    have es : out.map (kOf s.heap) = sortQ ps := by
      refine srt_uniq anti_Q (List.pairwise_map.mpr h1) (srtB_sorted swo_Q ps) ?_
      have hp := h2.perm.map (kOf s.heap)
      rw [e1] at hp
      exact hp.trans (srtB_perm ltQ ps).symm
    have hpr : Prs X.K H (out.map backV) (sortQ ps) := by
      rw [← es]
      exact prs_of fun u hu => by
        obtain ⟨t, e, _, hT⟩ := e3 u (hm u hu)
        exact ⟨t, e, hT⟩
    refine ⟨.ref d, upd H d (.lst (out.map backV)), I.laid (t' := s.toks) kp hd ⟨?_, out, n, vals_back h3, hn⟩, rfl, q _ d hpr (I.hok.fresh hd)⟩
    rw [List.length_map, h2.perm.length_eq, ← rv.length]
    exact hz
end
end PyV
set_option Elab.async false
set_option linter.all false
set_option maxRecDepth 100000
set_option maxHeartbeats 2000000
/-! Layer PyV, part 4d: sorted of a tuple of ints. -/
namespace PyV
open PySem PySem.Spec PyProof.Rows L2
section
variable {pg : Program} {wd : World} {Ar : Around} {Ex : Value → Shared → Prop} {st : Shared}
/-- the heap behind the collecting -/
def gathered (h : Heap) (us : List Value) : Heap := (h.push (seqObj "list" #[] 0)).update h.objs.size (Obj.mapSeq (· ++ us.toArray))
theorem tup_gather {t : Addr} {us : List Value} {P : List Value → Shared → Prop} (ht : IsTup st.heap t us.toArray) (hn : us.length ≤ sizeLine) (k : P us { st with heap := gathered st.heap us }) :
    wpAny (model pg wd) Ar (collect (.ref t)) P Ex st := by
  obtain ⟨ob, e1, e2, m, e3⟩ := ht
  have new : (st.heap.push (seqObj "list" #[] 0)).get? st.heap.objs.size = some (seqObj "list" #[] 0) := Heap.get?_push_size _ rfl
  have old : (st.heap.push (seqObj "list" #[] 0)).get? t = some ob := Heap.get?_push_of_some _ e1
  unfold collect
  apply wpAny_bind
  apply wpAny_runValue
  apply codeAny_builtin entry_proto_collect'
  show wpAny _ _ (newList [] >>= fun z => again (.builtin "list.__iadd__" ⟨[z, .ref t], []⟩)) _ _ st
  apply wpAny_bind
  refine wpAny_newList ?_
  apply wpAny_pure
  refine ⟨Code.quiet_builtin _ (by decide +kernel), codeAny_builtin entry_list_iadd' ?_⟩
  show wpAny _ _ (Builtin.List.listExtendWith (.ref st.heap.objs.size) (.ref t) (.ref st.heap.objs.size)) _ _ { st with heap := st.heap.push (seqObj "list" #[] 0) }
  unfold Builtin.List.listExtendWith
  apply wpAny_bind
  refine wpAny_typeOf (T := "tuple") (v := .ref t) ⟨ob, old, e2⟩ ?_
  have tt : (Value.type "tuple" == Value.type "tuple") = true := by rfl
  rw [if_pos (by rw [tt]; simp)]
  apply wpAny_bind
  apply listItems_at old e3
  apply wpAny_bind
  apply listItems_at (xs := #[]) (n := 0) new rfl
  rw [if_neg (by simp)]
  apply wpAny_bind
  refine listUpdate_at (xs := #[]) (n := 0) new rfl ?_ (Nat.zero_le _) (by
    show (#[] ++ us.toArray).size ≤ sizeLine + 1
    simp only [Array.size_append, List.size_toArray, List.length_nil]; omega)
  apply wpAny_pure
  show wpAny (model pg wd) Ar (load st.heap.objs.size >>= fun o => match o.data with
      | .seq xs _ => pure xs.toList
      | _ => unsupported "internal:collect") P Ex { st with heap := gathered st.heap us }
  apply wpAny_bind
  apply wpAny_load (get?_update_seq new _)
  show wpAny _ _ (pure ((#[] : Array Value) ++ us.toArray).toList) P Ex _
  have es : ((#[] : Array Value) ++ us.toArray).toList = us := by simp
  rw [es]
  exact wpAny_pure k
theorem tup_sorted {t : Addr} {us : List Value} {ns : List Int} {P : Value → Shared → Prop} (ht : IsTup st.heap t us.toArray) (hi : IntsAre us ns) (hn : us.length ≤ sizeLine)
    (k : ∀ out : List Value, SrtO.Srtd SrtO.ltIv out → SrtO.Stb SrtO.ltIv out us → P (.ref (st.heap.objs.size + 1)) { st with heap := sortedAll st.heap us out.toArray }) :
    wpAny (model pg wd) Ar (call (.builtin "sorted") [.ref t]) P Ex st := by
  apply Calls.call_function_entry kind_sorted plain_sorted entry_sorted (args_sorted1 _)
  unfold Builtin.«sorted»
  apply wpAny_bind (m := checkCount "sorted" 1 1 _)
  apply wpAny_pure
  apply wpAny_bind
  refine tup_gather ht hn ?_
  have sz : (gathered st.heap us).objs.size = st.heap.objs.size + 1 := by
    unfold gathered
    rw [Heap.size_update, size_push']
  have at1 : ((gathered st.heap us).push (seqObj "list" us.toArray 0)).get? (st.heap.objs.size + 1) = some (seqObj "list" us.toArray 0) := by
    rw [← sz]; exact Heap.get?_push_size _ rfl
  apply wpAny_bind
  refine wpAny_newList ?_ hn
  show wpAny _ _ _ _ _ { st with heap := (gathered st.heap us).push (seqObj "list" us.toArray 0) }
  rw [sz]
  apply wpAny_bind
  apply wpAny_holding
  refine wpAny_call_entry slot_list_sort ⟨_, at1, rfl⟩ entry_list_sort (SrtO.list_sort_ord SrtO.swo_int at1 hn (fun h2 => SrtO.ints_sortable hi h2) fun out o1 o2 => ⟨_, rfl, ?_⟩) (args_list_sort _)
  exact wpAny_pure ⟨_, rfl, k out o1 o2⟩
end
section
variable {X : Cx}
theorem call_sortT : CallR X (.builtin "sorted") (fun vs H Q => ∃ (a : Addr) (ns : List Int), vs = [V.ref a] ∧ SqT X.K H a (ns.map V.int) ∧ ∀ p, H p = none → Q (.ref p) (upd H p (.lst ((sortI ns).map V.int)))) := by
  intro pins s σ H vs us Q I r h
  obtain ⟨a, ns, rfl, hs, q⟩ := h
  obtain ⟨its, rv, hl, hz⟩ := I.tuple hs
  rw [Vals.ref1 r]
  have hi := rv.ints
  refine tup_sorted hl hi (by rw [← rv.length]; exact hz) fun out h1 h2 => ?_
  obtain ⟨k1, k2, k3⟩ := SrtO.ints_out hi h1 h2
  have e2 : out.map SrtO.iv = sortI ns := srt_uniq anti_I (k3.imp fun {x y} h => decide_eq_false (p := y < x) (by omega)) (srtB_sorted swo_I ns) (k2.trans (srtB_perm ltI ns).symm)
  rw [e2] at k1
  obtain ⟨ep, he'⟩ := sortedAll_at s.heap its out.toArray
  have hlen : ((sortI ns).map V.int).length ≤ sizeLine := by
    rw [List.length_map, show (sortI ns).length = ns.length from (srtB_perm ltI ns).length_eq]
    rw [List.length_map] at hz
    exact hz
  exact ⟨.ref _, upd H (s.heap.objs.size + 1) (.lst ((sortI ns).map V.int)), I.laid (t' := s.toks) (fun _ _ => sortedAll_old) (Nat.le_succ _) ⟨hlen, out, ep, vals_of_ints k1, he'⟩, rfl, q _ (I.hok.fresh (Nat.le_succ _))⟩
end
end PyV
set_option Elab.async false
set_option linter.all false
set_option maxRecDepth 100000
/-! Layer PyV, part 1: pure values and the evaluator. -/
namespace PyV
open PySem

inductive PV where
  | non | bl (b : Bool) | int (i : Int) | str (x : List Nat)
  | tup (xs : List PV) | lst (xs : List PV) | dic (kvs : List (PV × PV))
  | scr (ns : List Int) | ob (c : Str) (fs : List (Str × PV))

abbrev line : Nat := 16777216

mutual
def isPure : PV → Bool
  | .non => true | .bl _ => true | .int _ => true | .str _ => true
  | .tup xs => arePure xs
  | .lst _ => false | .dic _ => false | .scr _ => false | .ob _ _ => false
def arePure : List PV → Bool
  | [] => true
  | x :: r => isPure x && arePure r
end
def pairsPure (kvs : List (PV × PV)) : Bool := kvs.all fun kv => isPure kv.2
/-- a list or dict whose items are pure -/
def heldPure : PV → Bool
  | .lst xs => arePure xs
  | .dic kvs => pairsPure kvs
  | _ => false

/-- what a slot may own: any list, a dict of pure items -/
def ownB : PV → Bool
  | .lst _ => true
  | v => heldPure v

mutual
/-- none, bools, ints, texts, lists, tuples -/
def isData : PV → Bool
  | .non => true | .bl _ => true | .int _ => true | .str _ => true
  | .tup xs => areData xs
  | .lst xs => areData xs
  | .dic _ => false | .scr _ => false | .ob _ _ => false
def areData : List PV → Bool
  | [] => true
  | x :: r => isData x && areData r
end
mutual
def deep : PV → Nat
  | .tup xs => deeps xs + 1
  | .lst xs => deeps xs + 1
  | _ => 0
def deeps : List PV → Nat
  | [] => 0
  | x :: r => max (deep x) (deeps r)
end
mutual
def eqPV : PV → PV → Bool
  | .non, .non => true
  | .bl a, .bl b => a == b
  | .bl a, .int j => (if a then 1 else 0) == j
  | .int i, .bl b => i == (if b then 1 else 0)
  | .int i, .int j => i == j
  | .str x, .str y => x == y
  | .lst xs, .lst ys => eqPVs xs ys
  | .tup xs, .tup ys => eqPVs xs ys
  | _, _ => false
def eqPVs : List PV → List PV → Bool
  | [], [] => true
  | x :: xs, y :: ys => eqPV x y && eqPVs xs ys
  | _, _ => false
end
def ltS : List Nat → List Nat → Bool
  | _, [] => false
  | [], _ :: _ => true
  | x :: xs, y :: ys => if x = y then ltS xs ys else decide (x < y)
mutual
/-- x < y where Python has an order -/
def ltPV : PV → PV → Option Bool
  | .int i, .int j => some (decide (i < j))
  | .str x, .str y => some (ltS x y)
  | .tup xs, .tup ys => ltPVs xs ys
  | _, _ => none
def ltPVs : List PV → List PV → Option Bool
  | _, [] => some false
  | [], _ :: _ => some true
  | x :: xs, y :: ys => if eqPV x y then ltPVs xs ys else ltPV x y
end
def okEq (a b : PV) : Bool := isData a && isData b && decide (min (deep a) (deep b) ≤ 64)

/-! ### results -/
inductive R (α : Type) where
  | ok (a : α) | exc (c : Str) (fs : List (Str × PV)) | stuck
def R.bind {α β : Type} : R α → (α → R β) → R β
  | .ok a, f => f a
  | .exc c fs, _ => .exc c fs
  | .stuck, _ => .stuck
/-- a condition that the model's own limits ask -/
def need {α : Type} (c : Prop) [Decidable c] (r : R α) : R α := if c then r else .stuck
abbrev Env := List (Option (PV × Bool))

/-! ### operations on values -/
def cMul (i j : Int) : Prop := (-(2 ^ 64) < i ∧ i < 2 ^ 64) ∨ (-(2 ^ 64) < j ∧ j < 2 ^ 64)
instance (i j : Int) : Decidable (cMul i j) := by unfold cMul; exact inferInstance
def reps {α : Type} (k : Int) (xs : List α) : List α := (List.replicate k.toNat xs).flatten
def binop : Operator → PV → PV → R PV
  | .Add, .int i, .int j => .ok (.int (i + j))
  | .Sub, .int i, .int j => .ok (.int (i - j))
  | .Mult, .int i, .int j => need (cMul i j) (.ok (.int (i * j)))
  | .FloorDiv, .int i, .int j => need (0 < j ∧ j < 1073741824) (.ok (.int (i / j)))
  | .Mod, .int i, .int j => need (0 < j) (.ok (.int (i % j)))
  | .Pow, .int i, .int j => need (0 ≤ j ∧ j ≤ 1000000 ∧ i.natAbs < 2 ^ 64) (.ok (.int (i ^ j.toNat)))
  | .Add, .str x, .str y => need (x.length + y.length ≤ line) (.ok (.str (x ++ y)))
  | .Add, .tup x, .tup y => need (x.length + y.length ≤ line) (.ok (.tup (x ++ y)))
  | .Add, .lst x, .lst y => need (x.length + y.length ≤ line) (.ok (.lst (x ++ y)))
  | .Mult, .lst x, .int k => need (-(2 ^ 63) ≤ k ∧ k < 2 ^ 63 ∧ x.length * k.toNat ≤ line) (.ok (.lst (reps k x)))
  | .Mult, .str x, .int k => need (x.length ≤ 16 ∧ 0 ≤ k ∧ k ≤ 1048576) (.ok (.str (reps k x)))
  | .Mult, .tup x, .int k => need (0 < x.length ∧ x.length ≤ 1000 ∧ 2 ≤ k ∧ k ≤ 1000) (.ok (.tup (reps k x)))
  | _, _, _ => .stuck
def unop : UnaryOp → PV → R PV
  | .USub, .int i => .ok (.int (-i))
  | _, _ => .stuck
def mutTop : PV → Bool
  | .lst _ => true
  | .dic _ => true
  | _ => false
/-! dicts: keys are ints and texts -/
def sameKey : PV → PV → Bool
  | .int i, .int j => i == j
  | .str x, .str y => x == y
  | _, _ => false
def keyB : PV → Bool
  | .int _ => true
  | .str _ => true
  | _ => false
def flatD (ps : List (PV × PV)) : Bool := ps.all fun q => keyB q.1
def dget (ps : List (PV × PV)) (k : PV) : Option PV := (ps.find? fun q => sameKey q.1 k).map (·.2)
def dput (ps : List (PV × PV)) (k v : PV) : List (PV × PV) := if (ps.any fun q => sameKey q.1 k) = true then ps.map (fun q => if sameKey q.1 k = true then (q.1, v) else q) else ps ++ [(k, v)]
def dmake (ps : List (PV × PV)) : List (PV × PV) := ps.foldl (fun acc q => dput acc q.1 q.2) []
def pairUp : List PV → List (PV × PV)
  | k :: v :: r => (k, v) :: pairUp r
  | _ => []
/-- the signs of a written text, within a text: one sign -/
def inStr (x y : List Nat) : R Bool := match x with
  | [c] => .ok (y.contains c)
  | _ => .stuck
def isIn : PV → PV → R Bool
  | x, .lst ys => need (okEq x (.lst ys) = true) (.ok (ys.any fun y => eqPV y x))
  | x, .tup ys => need (okEq x (.tup ys) = true) (.ok (ys.any fun y => eqPV y x))
  | .str x, .str y => inStr x y
  | x, .dic ps => need ((keyB x && flatD ps) = true) (.ok (dget ps x).isSome)
  | _, _ => .stuck
mutual
def toD : PV → PyData
  | .non => .none | .bl b => .bool b | .int i => .int i | .str x => .str ⟨x.toArray⟩
  | .tup xs => .tuple (toDs xs) | .lst xs => .list (toDs xs)
  | .dic _ => .none | .scr _ => .none | .ob _ _ => .none
def toDs : List PV → List PyData
  | [] => []
  | x :: r => toD x :: toDs r
end
/-- tuples whose data can be compared, place by place -/
def okOrd (xs ys : List PV) : Bool := isData (.tup xs) && isData (.tup ys) && PySem.W.alike (toD (.tup xs)) (toD (.tup ys)) && decide (min (deep (.tup xs)) (deep (.tup ys)) ≤ 64)
def cmpop : CmpOp → PV → PV → R Bool
  | .Eq, a, b => need (okEq a b = true) (.ok (eqPV a b))
  | .NotEq, a, b => need (okEq a b = true) (.ok (!eqPV a b))
  | .Lt, .int i, .int j => .ok (decide (i < j))
  | .LtE, .int i, .int j => .ok (decide (i ≤ j))
  | .Gt, .int i, .int j => .ok (decide (j < i))
  | .GtE, .int i, .int j => .ok (decide (j ≤ i))
  | .Lt, .tup xs, .tup ys => need (okOrd xs ys = true) (.ok (PySem.W.dataLt (toD (.tup xs)) (toD (.tup ys))))
  | .Gt, .tup xs, .tup ys => need (okOrd xs ys = true) (.ok (PySem.W.dataLt (toD (.tup ys)) (toD (.tup xs))))
  | .Is, a, .non => .ok (match a with | .non => true | _ => false)
  | .IsNot, a, .non => .ok (match a with | .non => false | _ => true)
  | .Is, .bl a, .bl b => .ok (decide (a = b))
  | .IsNot, .bl a, .bl b => .ok (!decide (a = b))
  | .In, a, b => isIn a b
  | .NotIn, a, b => R.bind (isIn a b) fun c => .ok (!c)
  | _, _, _ => .stuck
def truth : PV → R Bool
  | .non => .ok false
  | .bl b => .ok b
  | .int i => .ok (i != 0)
  | .str x => .ok (!x.isEmpty)
  | .tup xs => .ok (!xs.isEmpty)
  | .lst xs => .ok (!xs.isEmpty)
  | _ => .stuck
/-- the place that an index means -/
def place (n : Nat) (i : Int) : Option Nat := if 0 ≤ i then (if i < n then some i.toNat else none) else if -(n : Int) ≤ i then some (i + n).toNat else none
def at? {α : Type} (xs : List α) (i : Int) : Option α := (place xs.length i).bind fun j => xs[j]?
def ofOpt {α : Type} : Option α → R α
  | some a => .ok a
  | none => .stuck
def index : PV → PV → R PV
  | .lst xs, .int i => ofOpt (at? xs i)
  | .tup xs, .int i => ofOpt (at? xs i)
  | .str xs, .int i => ofOpt ((at? xs i).map fun c => .str [c])
  | .dic ps, k => need ((keyB k && flatD ps) = true) (ofOpt (dget ps k))
  | _, _ => .stuck
def sIx (n d : Nat) : Option Int → Nat
  | none => d
  | some v => if v < 0 then (v + (n : Int)).toNat else min v.toNat n
def cut {α : Type} (xs : List α) (lo hi : Option Int) : List α := (xs.drop (sIx xs.length 0 lo)).take (sIx xs.length xs.length hi - sIx xs.length 0 lo)
def slice : PV → Option Int → Option Int → R PV
  | .lst xs, lo, hi => .ok (.lst (cut xs lo hi))
  | .tup xs, lo, hi => .ok (.tup (cut xs lo hi))
  | .str xs, lo, hi => .ok (.str (cut xs lo hi))
  | .scr ns, lo, hi => .ok (.lst (cut (ns.map PV.int) lo hi))
  | _, _, _ => .stuck
/-- xs[::-1] -/
def revPV : PV → R PV
  | .lst xs => .ok (.lst xs.reverse)
  | .tup xs => .ok (.tup xs.reverse)
  | _ => .stuck
/-- D.get(k) of a written dict -/
def kget (ps : List (PV × PV)) : List PV → R PV
  | [.str s] => need (mutTop ((dget ps (.str s)).getD .non) = false) (.ok ((dget ps (.str s)).getD .non))
  | _ => .stuck
def typeIs (t : String) : PV → Option Bool
  | .non => some (t == "NoneType") | .bl _ => some (t == "bool" || t == "int") | .int _ => some (t == "int") | .str _ => some (t == "str")
  | .tup _ => some (t == "tuple") | .lst _ => some (t == "list") | .scr _ => none | .dic _ => some (t == "dict")
  | .ob _ _ => none
def allInts : List PV → Option (List Int)
  | [] => some []
  | .int i :: r => (allInts r).map (i :: ·)
  | _ :: _ => none
def allBls : List PV → Option (List Bool)
  | [] => some []
  | .bl i :: r => (allBls r).map (i :: ·)
  | _ :: _ => none
def allStrs : List PV → Option (List (List Nat))
  | [] => some []
  | .str i :: r => (allStrs r).map (i :: ·)
  | _ :: _ => none
def maxL : List Int → Option Int
  | [] => none
  | x :: r => some (r.foldl (fun a b => if b > a then b else a) x)
def minL : List Int → Option Int
  | [] => none
  | x :: r => some (r.foldl (fun a b => if b < a then b else a) x)
def allPairs : List PV → Option (List (Int × Int))
  | [] => some []
  | .tup [.int i, .int j] :: r => (allPairs r).map ((i, j) :: ·)
  | _ :: _ => none
/-- a tuple with an item at least -/
def tupNe : PV → Bool
  | .tup (_ :: _) => true
  | _ => false
/-- sorted: tuples of data that can be compared, place by place -/
def leD : PV → PV → Bool := PySem.W.dataLe false toD
def sortD (xs : List PV) : Option PV := if (xs.all tupNe && arePure xs && areData xs && (xs.all fun x => xs.all fun y => PySem.W.alike (toD x) (toD y)) && decide (deeps xs ≤ 60)) = true then some (.lst (xs.mergeSort leD)) else none
/-- sorted: ints, pairs of ints, tuples -/
def sortPV (xs : List PV) : Option PV := match allInts xs with
  | some ns => some (.lst ((sortI ns).map .int))
  | none => match allPairs xs with
    | some ps => some (.lst ((sortQ ps).map fun q => .tup [.int q.1, .int q.2]))
    | none => sortD xs
def joinS (sep : List Nat) : List (List Nat) → List Nat
  | [] => []
  | [x] => x
  | x :: r => x ++ sep ++ joinS sep r
def builtin (f : String) (args : List PV) : R PV := match f, args with
  | "len", [.lst xs] => .ok (.int xs.length)
  | "len", [.tup xs] => .ok (.int xs.length)
  | "len", [.str xs] => .ok (.int xs.length)
  | "abs", [.int i] => .ok (.int (if i < 0 then -i else i))
  | "max", [.int i, .int j] => .ok (.int (if j > i then j else i))
  | "min", [.int i, .int j] => .ok (.int (if j < i then j else i))
  | "sum", [.lst xs] => ofOpt ((allInts xs).map fun ns => .int ns.sum)
  | "any", [.lst xs] => ofOpt ((allBls xs).map fun bs => .bl (bs.any id))
  | "all", [.lst xs] => ofOpt ((allBls xs).map fun bs => .bl (bs.all id))
  | "max", [.lst xs] => ofOpt ((allInts xs).bind fun ns => (maxL ns).map PV.int)
  | "min", [.lst xs] => ofOpt ((allInts xs).bind fun ns => (minL ns).map PV.int)
  | "sum", [.tup xs] => ofOpt ((allInts xs).map fun ns => .int ns.sum)
  | "max", [.tup xs] => ofOpt ((allInts xs).bind fun ns => (maxL ns).map PV.int)
  | "min", [.tup xs] => ofOpt ((allInts xs).bind fun ns => (minL ns).map PV.int)
  | "sorted", [.lst xs] => ofOpt (sortPV xs)
  | "sorted", [.tup xs] => ofOpt ((allInts xs).map fun ns => .lst ((sortI ns).map .int))
  | _, _ => .stuck
def builtinT (f : String) (args : List PV) : R PV := match f, args with
  | "int", [.int i] => .ok (.int i)
  | "int", [.bl b] => .ok (.int (if b then 1 else 0))
  | "tuple", [.lst xs] => .ok (.tup xs)
  | "tuple", [.tup xs] => .ok (.tup xs)
  | "list", [.lst xs] => .ok (.lst xs)
  | "list", [.tup xs] => .ok (.lst xs)
  | "list", [.str x] => .ok (.lst (x.map fun c => .str [c]))
  | "tuple", [.str x] => .ok (.tup (x.map fun c => .str [c]))
  | _, _ => .stuck
def method (m : String) (o : PV) (args : List PV) : R PV := match m, o, args with
  | "join", .str sep, [.lst xs] => match allStrs xs with
    | some ys => need ((ys.map (·.length)).sum + ys.length * sep.length ≤ line) (.ok (.str (joinS sep ys)))
    | none => .stuck
  | "count", .lst xs, [.int k] => ofOpt ((allInts xs).map fun ns => .int ((ns.count k : Nat) : Int))
  | "get", .dic ps, [k] => need ((keyB k && flatD ps && !mutTop ((dget ps k).getD .non)) = true) (.ok ((dget ps k).getD .non))
  | "get", .dic ps, [k, d] => need ((keyB k && flatD ps && !mutTop ((dget ps k).getD d)) = true) (.ok ((dget ps k).getD d))
  | _, _, _ => .stuck
/-- the receiver's type -/
def recvB (m : String) (o : PV) : Bool := match m, o with
  | "join", .str _ => true
  | "get", .dic _ => true
  | "count", .lst _ => true
  | _, _ => false
def items : PV → R (List PV)
  | .lst xs => .ok xs
  | .tup xs => .ok xs
  | .str x => .ok (x.map fun c => .str [c])
  | _ => .stuck
def rangeL (lo : Int) (n : Nat) : List PV := (List.range n).map fun k => .int (lo + (k : Nat))
/-- lo, lo + c, .. (n of them) -/
def rangeC (lo c : Int) (n : Nat) : List PV := (List.range n).map fun k => .int (lo + (k : Nat) * c)
def stepN (i j c : Int) : Nat := if 0 < c then (if i < j then ((j - i - 1) / c + 1).toNat else 0) else (i - j).toNat
def small (j : Int) : Prop := -(2 ^ 62) ≤ j ∧ j < 2 ^ 62
instance (j : Int) : Decidable (small j) := by unfold small; exact inferInstance
def rangeOf : List PV → R (List PV)
  | [.int j] => need (small j) (.ok (rangeL 0 j.toNat))
  | [.int i, .int j] => need (small i ∧ small j) (.ok (rangeL i (j - i).toNat))
  | [.int i, .int j, .int c] => need (small i ∧ small j ∧ (c = -1 ∨ (0 < c ∧ c < 1073741824))) (.ok (rangeC i c (stepN i j c)))
  | _ => .stuck
def zipL (xs ys : List PV) : List PV := (xs.zip ys).map fun p => .tup [p.1, p.2]
def enumL (xs : List PV) : List PV := xs.zipIdx.map fun p => .tup [.int (p.2 : Nat), p.1]
def enumOf : List PV → R (List PV)
  | [.lst xs] => .ok (enumL xs)
  | [.tup xs] => .ok (enumL xs)
  | [.str x] => .ok (enumL (x.map fun c => .str [c]))
  | _ => .stuck
def zipOf : List PV → R (List PV)
  | [.lst xs, .lst ys] => .ok (zipL xs ys)
  | [.tup xs, .tup ys] => .ok (zipL xs ys)
  | [.lst xs, .tup ys] => .ok (zipL xs ys)
  | [.tup xs, .lst ys] => .ok (zipL xs ys)
  | _ => .stuck
/-- no exception may leave it -/
def R.calm {α : Type} : R α → R α
  | .exc _ _ => .stuck
  | x => x

/-! ### a program -/
structure FD where
  ps : List Str
  N : List Str
  body : List Stmt
  sc : Scope
  fresh : Bool
/-- an own exception class: the own classes above it, its own attributes -/
structure ExcD where
  above : List Str
  fields : List Str
structure Prog where
  fns : List (Str × FD)
  consts : List (Str × PV)
  /-- written dicts: texts to values -/
  dcts : List (Str × List (PV × PV))
  excs : List (Str × ExcD)
  /-- the built-in names that are free in it -/
  blt : List Str
  /-- rows whose statements are not looked at: the evaluator is stuck there -/
  hard : List Nat := []
def hardB (P : Prog) (st : Stmt) : Bool := P.hard.contains st.pos.line

/-! ### expressions -/
def slotOf (N : List Str) (x : Str) : Option Nat := N.findIdx? (fun y => y == x)
def constPV : Const → R PV
  | .none => .ok .non
  | .bool b => .ok (.bl b)
  | .int i => .ok (.int i)
  | .str x => .ok (.str x.cps.toList)
  | _ => .stuck
/-- the slots of a comprehension's own names -/
def ownPairs (N : List Str) (sc : Scope) : List (Str × Nat) := sc.names.filterMap fun p => match p.2 with
  | .local => (slotOf N p.1).map fun i => (p.1, i)
  | .cell => (slotOf N p.1).map fun i => (p.1, i)
  | _ => none
def ownSlots (N : List Str) (sc : Scope) : List Nat := (ownPairs N sc).map (·.2)
def wipes (ρ : Env) : List Nat → Env
  | [] => ρ
  | v :: vs => (wipes ρ vs).set v none
def compLoop (step : PV → R (Option PV)) : List PV → R (List PV)
  | [] => .ok []
  | x :: r => R.bind (step x) fun o => match o with
    | none => compLoop step r
    | some y => R.bind (compLoop step r) fun ys => .ok (y :: ys)
/-- a plain target's names -/
def bindNames (N : List Str) : List Expr → List PV → Env → R Env
  | [], [], ρ => .ok ρ
  | .Name x _ :: es, v :: vs, ρ => match slotOf N x with
    | some i => bindNames N es vs (ρ.set i (some (v, false)))
    | none => .stuck
  | _, _, _ => .stuck
def bindTo (N : List Str) : Expr → PV → Env → R Env
  | .Name x _, v, ρ => match slotOf N x with
    | some i => .ok (ρ.set i (some (v, false)))
    | none => .stuck
  | .Tuple es _ _, .tup vs, ρ => bindNames N es vs ρ
  | _, _, _ => .stuck
def isTupE : Expr → Bool
  | .Tuple _ _ _ => true
  | _ => false
def nestB : Expr → Bool
  | .Tuple es _ _ => es.any isTupE
  | _ => false
/-- a target with tuples of names in it -/
def bindNest (N : List Str) : List Expr → List PV → Env → R Env
  | [], [], ρ => .ok ρ
  | .Name x _ :: es, v :: vs, ρ => match slotOf N x with
    | some i => bindNest N es vs (ρ.set i (some (v, false)))
    | none => .stuck
  | .Tuple es' _ _ :: es, .tup vs' :: vs, ρ => R.bind (bindNames N es' vs' ρ) fun ρ' => bindNest N es vs ρ'
  | _, _, _ => .stuck
/-- a loop's target -/
def bindTg (N : List Str) (tg : Expr) (v : PV) (ρ : Env) : R Env := if nestB tg = true then (match tg, v with
  | .Tuple es _ _, .tup vs => bindNest N es vs ρ
  | _, _ => .stuck) else bindTo N tg v ρ
def isRange : Expr → Bool
  | .Call (.Name f _) _ _ _ => f == ("range" : Str)
  | _ => false
/-- enumerate, zip -/
def isWalk : Expr → Bool
  | .Call (.Name f _) _ _ _ => f == ("enumerate" : Str) || f == ("zip" : Str)
  | _ => false
def nameIs (x : Str) (y : String) : Bool := x == Str.ofString y
/-- list(range(..)), tuple(range(..)) -/
def rngArg (f : Str) : List Expr → Option (List Expr)
  | [.Call (.Name g _) es [] _] => if ((nameIs f "list" || nameIs f "tuple") && nameIs g "range" && (es.length == 1 || es.length == 2)) = true then some es else none
  | _ => none
def seqRng (f : Str) (xs : List PV) : R PV := need (xs.length ≤ 16777216) (.ok (if nameIs f "list" = true then .lst xs else .tup xs))
def typeNames : List String := ["int", "bool", "str", "tuple", "list", "dict"]
/-- the built-in type's name -/
def typeName (x : Str) : Option String := typeNames.find? fun t => x == Str.ofString t
def plainNames : List String := ["len", "abs", "max", "min", "sum", "any", "all", "sorted"]
def typeCalls : List String := ["int", "tuple", "list"]
def methodNames : List String := ["join", "get", "count"]
/-- a written dict, by its name -/
def cdict (P : Prog) (N : List Str) : Expr → Option (List (PV × PV))
  | .Name x _ => match slotOf N x with
    | some _ => none
    | none => P.dcts.lookup x
  | _ => none
def seqE (f : Expr → R PV) : List Expr → R (List PV)
  | [] => .ok []
  | e :: r => R.bind (f e) fun v => R.bind (seqE f r) fun vs => .ok (v :: vs)
/-- a display's parts in their order -/
def interl : List (Option Expr) → List Expr → List Expr
  | some k :: ks, v :: vs => k :: v :: interl ks vs
  | _, _ => []

mutual
def denE (P : Prog) (call : Str → List PV → R PV) (N : List Str) : Nat → Expr → Env → R PV
  | 0, _, _ => .stuck
  | n + 1, e, ρ => match e with
    | .Constant c _ _ => constPV c
    | .Name x _ => match slotOf N x with
      | some i => match ρ[i]? with
        | some (some v) => .ok v.1
        | _ => .stuck
      | none => ofOpt (P.consts.lookup x)
    | .BoolOp .And [a] _ => denE P call N n a ρ
    | .BoolOp .And (a :: b :: r) p => R.bind (denE P call N n a ρ) fun v => match v with
      | .bl true => denE P call N n (.BoolOp .And (b :: r) p) ρ
      | .bl false => .ok (.bl false)
      | _ => .stuck
    | .BoolOp .Or [a] _ => denE P call N n a ρ
    | .BoolOp .Or (a :: b :: r) p => R.bind (denE P call N n a ρ) fun v => match v with
      | .bl true => .ok (.bl true)
      | .bl false => denE P call N n (.BoolOp .Or (b :: r) p) ρ
      | _ => .stuck
    | .UnaryOp .Not a _ => R.bind (denE P call N n a ρ) fun v => match v with
      | .bl c => .ok (.bl (!c))
      | _ => .stuck
    | .UnaryOp op a _ => R.bind (denE P call N n a ρ) fun v => unop op v
    | .BinOp a op b _ => R.bind (denE P call N n a ρ) fun v => R.bind (denE P call N n b ρ) fun w => binop op v w
    | .Compare a [op] [b] _ => R.bind (denE P call N n a ρ) fun v => R.bind (denE P call N n b ρ) fun w => R.bind (cmpop op v w) fun c => .ok (.bl c)
    | .Compare a [op, op2] [b, c] _ => R.bind (denE P call N n a ρ) fun v => R.bind (denE P call N n b ρ) fun w => R.bind (cmpop op v w) fun k =>
        if k = true then R.bind (denE P call N n c ρ) fun z => R.bind (cmpop op2 w z) fun k2 => .ok (.bl k2) else .ok (.bl false)
    | .IfExp c a b _ => R.bind (denT P call N n c ρ) fun k => if k = true then denE P call N n a ρ else denE P call N n b ρ
    | .Subscript a (.Slice lo hi none _) _ => R.bind (denE P call N n a ρ) fun v => R.bind (denO P call N n lo ρ) fun l => R.bind (denO P call N n hi ρ) fun h => slice v l h
    | .Subscript a (.Slice none none (some (.UnaryOp .USub (.Constant (.int 1) _ _) _)) _) _ => R.bind (denE P call N n a ρ) revPV
    | .Subscript a b _ => match cdict P N a with
      | some ps => R.bind (denE P call N n b ρ) fun w => ofOpt (dget ps w)
      | none => R.bind (denE P call N n a ρ) fun v => R.bind (denE P call N n b ρ) fun w => index v w
    | .Tuple es _ _ => R.bind (denA P call N n es ρ) fun vs => .ok (.tup vs)
    | .Dict ks vs _ => R.bind (seqE (fun e => denE P call N n e ρ) (interl ks vs)) fun xs => need (flatD (pairUp xs) = true) (.ok (.dic (dmake (pairUp xs))))
    | .List es _ => R.bind (denA P call N n es ρ) fun vs => .ok (.lst vs)
    | .Call (.Name f _) es [] _ => if nameIs f "isinstance" = true then
        match es with
        | [a, .Name t _] => match typeName t with
          | some ty => R.bind (denE P call N n a ρ) fun v => ofOpt ((typeIs ty v).map PV.bl)
          | none => .stuck
        | _ => .stuck
      else match rngArg f es with
        | some es2 => R.bind (R.bind (denA P call N n es2 ρ) rangeOf) (seqRng f)
        | none => denC P call N n f es ρ
    | .Call (.Attribute o m _) es [] _ => match cdict P N o with
      | some ps => if (nameIs m "get" && decide (es.length = 1)) = true then R.bind (denA P call N n es ρ) (kget ps) else .stuck
      | none => R.bind (denE P call N n o ρ) fun v =>
        match methodNames.find? fun t => m == Str.ofString t with
        | some t => need (recvB t v = true) (R.bind (denA P call N n es ρ) fun vs => method t v vs)
        | none => .stuck
    | .ListComp elt [⟨tg, it, ifs, 0⟩] sc _ => R.bind (denI P call N n it ρ) fun xs => need (isRange it = true → xs.length ≤ line)
        (R.bind (R.calm (compLoop (fun x => R.bind (bindTg N tg x (wipes ρ (ownSlots N sc))) fun ρ' => R.bind (denIfs P call N n ifs ρ') fun k =>
          if k = true then R.bind (denE P call N n elt ρ') fun y => .ok (some y) else .ok none) xs)) fun ys => .ok (.lst ys))
    | _ => .stuck
/-- a call by name -/
def denC (P : Prog) (call : Str → List PV → R PV) (N : List Str) : Nat → Str → List Expr → Env → R PV
  | 0, _, _, _ => .stuck
  | n + 1, f, es, ρ => R.bind (denA P call N n es ρ) fun vs => match P.fns.lookup f with
    | some fd => need (vs.length = fd.ps.length) (call f vs)
    | none => match plainNames.find? fun t => f == Str.ofString t with
      | some t => builtin t vs
      | none => match typeCalls.find? fun t => f == Str.ofString t with
        | some t => builtinT t vs
        | none => .stuck
def denA (P : Prog) (call : Str → List PV → R PV) (N : List Str) : Nat → List Expr → Env → R (List PV)
  | 0, _, _ => .stuck
  | n + 1, es, ρ => match es with
    | [] => .ok []
    | e :: r => R.bind (denE P call N n e ρ) fun v => R.bind (denA P call N n r ρ) fun vs => .ok (v :: vs)
def denO (P : Prog) (call : Str → List PV → R PV) (N : List Str) : Nat → Option Expr → Env → R (Option Int)
  | 0, _, _ => .stuck
  | n + 1, e, ρ => match e with
    | none => .ok none
    | some e => R.bind (denE P call N n e ρ) fun v => match v with
      | .int i => .ok (some i)
      | _ => .stuck
def denT (P : Prog) (call : Str → List PV → R PV) (N : List Str) : Nat → Expr → Env → R Bool
  | 0, _, _ => .stuck
  | n + 1, e, ρ => match e with
    | .UnaryOp .Not a _ => R.bind (denT P call N n a ρ) fun c => .ok (!c)
    | .BoolOp .And [a] _ => denT P call N n a ρ
    | .BoolOp .And (a :: b :: r) p => R.bind (denT P call N n a ρ) fun c => if c = true then denT P call N n (.BoolOp .And (b :: r) p) ρ else .ok false
    | .BoolOp .Or [a] _ => denT P call N n a ρ
    | .BoolOp .Or (a :: b :: r) p => R.bind (denT P call N n a ρ) fun c => if c = true then .ok true else denT P call N n (.BoolOp .Or (b :: r) p) ρ
    | .BoolOp _ _ _ => .stuck
    | .IfExp _ _ _ _ => .stuck
    | .Compare a [op] [b] _ => R.bind (denE P call N n a ρ) fun v => R.bind (denE P call N n b ρ) fun w => cmpop op v w
    | .Compare a [op, op2] [b, c] _ => R.bind (denE P call N n a ρ) fun v => R.bind (denE P call N n b ρ) fun w => R.bind (cmpop op v w) fun k =>
        if k = true then R.bind (denE P call N n c ρ) fun z => cmpop op2 w z else .ok false
    | .Compare _ _ _ _ => .stuck
    | e => R.bind (denE P call N n e ρ) fun v => truth v
def denIfs (P : Prog) (call : Str → List PV → R PV) (N : List Str) : Nat → List Expr → Env → R Bool
  | 0, _, _ => .stuck
  | n + 1, es, ρ => match es with
    | [] => .ok true
    | [c] => denT P call N n c ρ
    | _ => .stuck
/-- what a for or a comprehension walks -/
def denI (P : Prog) (call : Str → List PV → R PV) (N : List Str) : Nat → Expr → Env → R (List PV)
  | 0, _, _ => .stuck
  | n + 1, e, ρ => match e with
    | .Call (.Name f _) es [] _ =>
      if nameIs f "range" = true then R.bind (denA P call N n es ρ) rangeOf
      else if nameIs f "enumerate" = true then R.bind (denA P call N n es ρ) enumOf
      else if nameIs f "zip" = true then R.bind (denA P call N n es ρ) zipOf
      else R.bind (denE P call N n e ρ) items
    | e => R.bind (denE P call N n e ρ) items
end
/-- a value that stands nowhere else -/
def freshE (P : Prog) : Expr → Bool
  | .Name _ _ => false
  | .BoolOp _ _ _ => false
  | .Call (.Name f _) _ _ _ => match P.fns.lookup f with
    | some fd => fd.fresh
    | none => true
  | .IfExp _ a b _ => freshE P a && freshE P b
  | .Subscript _ (.Slice _ _ _ _) _ => true
  | .Subscript _ _ _ => false
  | _ => true


/-! ### statements -/
inductive SR where
  | nx (ρ : Env) | ret (v : PV) (fl : Bool) | bk (ρ : Env) | ct (ρ : Env) | exc (c : Str) (fs : List (Str × PV)) (ρ : Env) | stuck
def liftR {α : Type} (ρ : Env) : R α → (α → SR) → SR
  | .ok a, f => f a
  | .exc c fs, _ => .exc c fs ρ
  | .stuck, _ => .stuck
def SR.then : SR → (Env → SR) → SR
  | .nx ρ, f => f ρ
  | r, _ => r
/-- the slots that an expression names -/
def slotsE (N : List Str) : Nat → Expr → List Nat
  | 0, _ => []
  | n + 1, e => match e with
    | .Name x _ => (slotOf N x).toList
    | .BoolOp _ es _ => es.flatMap (slotsE N n)
    | .BinOp a _ b _ => slotsE N n a ++ slotsE N n b
    | .UnaryOp _ a _ => slotsE N n a
    | .IfExp a b c _ => slotsE N n a ++ slotsE N n b ++ slotsE N n c
    | .Compare a _ bs _ => slotsE N n a ++ bs.flatMap (slotsE N n)
    | .Call f es _ _ => slotsE N n f ++ es.flatMap (slotsE N n)
    | .Attribute a _ _ => slotsE N n a
    | .Subscript a b _ => slotsE N n a ++ slotsE N n b
    | .List es _ => es.flatMap (slotsE N n)
    | .Tuple es _ _ => es.flatMap (slotsE N n)
    | .Dict ks vs _ => ks.flatMap (fun k => match k with | some k => slotsE N n k | none => []) ++ vs.flatMap (slotsE N n)
    | .Slice a b c _ => (match a with | some k => slotsE N n k | none => []) ++ (match b with | some k => slotsE N n k | none => []) ++ (match c with | some k => slotsE N n k | none => [])
    | .ListComp e gs _ _ => slotsE N n e ++ gs.flatMap fun g => slotsE N n g.iter ++ g.ifs.flatMap (slotsE N n)
    | .SetComp e gs _ _ => slotsE N n e ++ gs.flatMap fun g => slotsE N n g.iter ++ g.ifs.flatMap (slotsE N n)
    | .DictComp e e2 gs _ _ => slotsE N n e ++ slotsE N n e2 ++ gs.flatMap fun g => slotsE N n g.iter ++ g.ifs.flatMap (slotsE N n)
    | _ => []
/-- the slots whose objects a statement may change -/
def mutX (N : List Str) : Expr → List Nat
  | .Call (.Attribute (.Name x _) _ _) _ _ _ => (slotOf N x).toList
  | _ => []
def mutT (N : List Str) : List Expr → List Nat
  | [.Subscript (.Name x _) _ _] => (slotOf N x).toList
  | _ => []
mutual
def mutS (N : List Str) : Stmt → List Nat
  | .Assign ts e _ => mutT N ts ++ mutX N e
  | .Expr e _ => mutX N e
  | .If _ a b _ => mutSs N a ++ mutSs N b
  | .For _ _ b _ _ => mutSs N b
  | .While _ b _ _ => mutSs N b
  | .Try b _ _ _ _ => mutSs N b
  | _ => []
def mutSs (N : List Str) : List Stmt → List Nat
  | [] => []
  | st :: r => mutS N st ++ mutSs N r
end
def freeze : List Nat → Env → Env
  | [], ρ => ρ
  | i :: r, ρ => freeze r (match ρ[i]? with
    | some (some v) => ρ.set i (some (v.1, false))
    | _ => ρ)
/-- a value is handed on: what its expression names may stand in it -/
def settle (fl : Bool) (v : PV) (I : List Nat) (ρ : Env) : Env := if (isPure v || (fl && heldPure v)) = true then ρ else freeze I ρ
def forLoop (step : PV → Env → SR) : List PV → Env → SR
  | [], ρ => .nx ρ
  | x :: r, ρ => match step x ρ with
    | .nx ρ' => forLoop step r ρ'
    | .ct ρ' => forLoop step r ρ'
    | .bk ρ' => .nx ρ'
    | o => o
def whileLoop (c : Env → R Bool) (body : Env → SR) : Nat → Env → SR
  | 0, _ => .stuck
  | m + 1, ρ => liftR ρ (c ρ) fun k => if k = true then
      match body ρ with
      | .nx ρ' => whileLoop c body m ρ'
      | .ct ρ' => whileLoop c body m ρ'
      | .bk ρ' => .nx ρ'
      | o => o
    else .nx ρ
def excMatch (P : Prog) (c x : Str) : Option Bool := match P.excs.lookup c, P.excs.lookup x with
  | some d, some _ => some (c == x || d.above.contains x)
  | _, _ => none
/-- the slot's list or dict, if it is the slot's own -/
def ownAt (ρ : Env) (i : Nat) : Option PV := match ρ[i]? with
  | some (some (v, true)) => some v
  | _ => none
/-- a method that changes a list -/
def mutate (m : String) (o : PV) (args : List PV) : R PV := match m, o, args with
  | "append", .lst xs, [v] => need (xs.length < line) (.ok (.lst (xs ++ [v])))
  | "extend", .lst xs, [.lst ys] => need (xs.length + ys.length ≤ line) (.ok (.lst (xs ++ ys)))
  | "extend", .lst xs, [.tup ys] => need (xs.length + ys.length ≤ line) (.ok (.lst (xs ++ ys)))
  | _, _, _ => .stuck
def mutRecv (m : String) (o : PV) : Bool := match m, o with
  | "append", .lst _ => true
  | "extend", .lst _ => true
  | _, _ => false
def mutNames : List String := ["append", "extend"]
/-- o[i] = v -/
def store (o i v : PV) : R PV := match o, i with
  | .lst xs, .int k => ofOpt ((place xs.length k).map fun j => .lst (xs.set j v))
  | _, _ => .stuck
def augop : Operator → PV → PV → R PV
  | .Add, .int i, .int j => .ok (.int (i + j))
  | .Sub, .int i, .int j => .ok (.int (i - j))
  | .Mult, .int i, .int j => need (cMul i j) (.ok (.int (i * j)))
  | .FloorDiv, .int i, .int j => need (0 < j ∧ j < 1073741824) (.ok (.int (i / j)))
  | .Add, .str x, .str y => need (x.length + y.length ≤ line) (.ok (.str (x ++ y)))
  | _, _, _ => .stuck
def plainExc (P : Prog) (c : Str) : Bool := (P.excs.lookup c).any fun d => d.fields.isEmpty
/-- a suite's value: e is the caught exception's name -/
def suiteV (P : Prog) (c : Str) (fs : List (Str × PV)) (nm : Option Str) : Nat → Expr → R PV
  | 0, _ => .stuck
  | n + 1, e => match e with
    | .Constant k _ _ => constPV k
    | .Tuple [a, b] _ _ => R.bind (suiteV P c fs nm n a) fun v => R.bind (suiteV P c fs nm n b) fun w => .ok (.tup [v, w])
    | .Tuple [a] _ _ => R.bind (suiteV P c fs nm n a) fun v => .ok (.tup [v])
    | .Attribute (.Name x _) f _ => if nm = some x ∧ (P.excs.lookup c).any (fun d => d.fields.contains f) = true ∧ fs ≠ [] then ofOpt (fs.lookup f) else .stuck
    | .Call (.Name g _) [.Name x _, .Name y _] [] _ => if nameIs g "isinstance" = true ∧ nm = some x ∧ fs = [] ∧ plainExc P c = true then ofOpt ((excMatch P c y).map PV.bl) else .stuck
    | .IfExp (.Call (.Name g _) [.Name x _, .Name y _] [] _) a b _ => if nameIs g "isinstance" = true ∧ nm = some x ∧ fs = [] ∧ plainExc P c = true then
        match excMatch P c y with
        | some true => suiteV P c fs nm n a
        | some false => suiteV P c fs nm n b
        | none => .stuck
      else .stuck
    | _ => .stuck
def suiteS (P : Prog) (c : Str) (fs : List (Str × PV)) (nm : Option Str) (n : Nat) (ρ : Env) : List Stmt → SR
  | [.Return (some e) _] => match suiteV P c fs nm n e with
    | .ok v => if isPure v = true then .ret v true else .stuck
    | _ => .stuck
  | [.Continue _] => if nm = none then .ct ρ else .stuck
  | [.Pass _] => if nm = none then .nx ρ else .stuck
  | _ => .stuck
def handle (P : Prog) (c : Str) (fs : List (Str × PV)) (n : Nat) (ρ : Env) : List ExceptHandler → SR
  | [] => .exc c fs ρ
  | .ExceptHandler (some (.Name x _)) nm suite _ :: r => match excMatch P c x with
    | some true => suiteS P c fs nm n ρ suite
    | some false => handle P c fs n ρ r
    | none => .stuck
  | _ => .stuck
def ownName (N : List Str) (ρ : Env) : Expr → Bool
  | .Name x _ => match slotOf N x with
    | some i => (ownAt ρ i).isSome
    | none => false
  | _ => false
def isNilL : Expr → Bool
  | .List [] _ => true
  | _ => false
/-- an expression that makes a new list -/
def isNewL : Expr → Bool
  | .List _ _ => true
  | .BinOp (.List _ _) _ _ _ => true
  | _ => false
/-- the part that is had as a new list: [] first -/
def newIx (es : List Expr) : Option Nat := match es.findIdx? isNilL with
  | some k => some k
  | none => es.findIdx? isNewL
/-- targets, in order -/
def tnames (N : List Str) (ts : List Expr) : List (Option Nat) := ts.map fun t => match t with
  | .Name x _ => slotOf N x
  | _ => none
/-- a, b = x, []: the part and the slot that comes to own the new list -/
def ownTgt (N : List Str) (ts : List Expr) : Expr → Option (Nat × Nat)
  | .Tuple es _ _ => match newIx es with
    | some k => match (tnames N ts)[k]? with
      | some (some i) => if ((tnames N ts).eraseIdx k).contains (some i) = true then none else some (k, i)
      | _ => none
    | none => none
  | _ => none
def pureAt (ρ : Env) (j : Nat) : Bool := match ρ[j]? with
  | some (some w) => isPure w.1
  | _ => true
def unpackOwn (N : List Str) (ts : List Expr) (k i : Nat) (v : PV) (ρ ρ' : Env) : Option Env := match v with
  | .tup vs => match vs[k]? with
    | some (.lst xs) => if (arePure (vs.eraseIdx k) && arePure xs && ((tnames N ts).all fun j => j == some i || (j.map (pureAt ρ')).getD true) && decide (i < ρ.length)) = true then some (ρ'.set i (some (.lst xs, true))) else none
    | _ => none
  | _ => none
def disjoint (a b : List Nat) : Bool := a.all fun i => !b.contains i

/-! rows = zip(range(r), a, b); return tuple([elt for tg in rows if ..]) -/
structure ZP where
  x : Str
  r : Expr
  a : Expr
  b : Expr
  elt : Expr
  tg : Expr
  ifs : List Expr
  sc : Scope
def callOf : Expr → Option (Str × List Expr)
  | .Call (.Name f _) es [] _ => some (f, es)
  | _ => none
def lcOf : Expr → Option (Expr × Expr × Str × List Expr × Scope)
  | .ListComp elt [⟨tg, .Name y _, ifs, 0⟩] sc _ => some (elt, tg, y, ifs, sc)
  | _ => none
def asgOf : Stmt → Option (Str × Expr)
  | .Assign [.Name x _] e _ => some (x, e)
  | _ => none
def retOf : Stmt → Option Expr
  | .Return (some e) _ => some e
  | _ => none
def zcall (e : Expr) : Option (Expr × Expr × Expr) := match callOf e with
  | some (z, [rc, a, b]) => if nameIs z "zip" = true then match callOf rc with
    | some (g, [r]) => if nameIs g "range" = true then some (r, a, b) else none
    | _ => none
    else none
  | _ => none
def tcomp (e : Expr) : Option (Expr × Expr × Str × List Expr × Scope) := match callOf e with
  | some (t, [l]) => if nameIs t "tuple" = true then lcOf l else none
  | _ => none
def zpair : List Stmt → Option ZP
  | [s1, s2] => match asgOf s1 with
    | some (x, e) => match zcall e with
      | some (r, a, b) => match retOf s2 with
        | some e2 => match tcomp e2 with
          | some (elt, tg, y, ifs, sc) => if (x == y) = true then some ⟨x, r, a, b, elt, tg, ifs, sc⟩ else none
          | none => none
        | none => none
      | none => none
    | none => none
  | _ => none
def zip3L (j : Nat) (xs ys : List PV) : List PV := ((List.range j).zip (xs.zip ys)).map fun p => .tup [.int (p.1 : Nat), p.2.1, p.2.2]
def zip3 (j : Int) : List PV → R (List PV)
  | [.tup xs, .tup ys] => need (small j) (.ok (zip3L j.toNat xs ys))
  | _ => .stuck
def zip3R (r : R PV) (q : R (List PV)) : R (List PV) := R.bind r fun v => match v with
  | .int j => R.bind q (zip3 j)
  | _ => .stuck

mutual
def denS (P : Prog) (call : Str → List PV → R PV) (N : List Str) (M : Nat) : Nat → Stmt → Env → SR
  | 0, _, _ => .stuck
  | n + 1, st, ρ => match st with
    | .Pass _ => .nx ρ
    | .Break _ => .bk ρ
    | .Continue _ => .ct ρ
    | .Return none _ => .ret .non true
    | .Return (some e) _ => liftR ρ (denE P call N n e ρ) fun v => .ret v (freshE P e || ownName N ρ e)
    | .If c a b _ => liftR ρ (denT P call N n c ρ) fun k => if k = true then denSs P call N M n a ρ else denSs P call N M n b ρ
    | .Assign [.Name x _] e _ => match slotOf N x with
      | some i => liftR ρ (denE P call N n e ρ) fun v => .nx ((settle (freshE P e) v (slotsE N n e) ρ).set i (some (v, freshE P e && ownB v)))
      | none => .stuck
    | .Assign [.Tuple ts j q] e _ => liftR ρ (denE P call N n e ρ) fun v =>
        match (ownTgt N ts e).bind fun ki => match bindTo N (.Tuple ts j q) v ρ with | .ok ρ' => unpackOwn N ts ki.1 ki.2 v ρ ρ' | _ => none with
        | some ρ2 => .nx ρ2
        | none => liftR ρ (bindTo N (.Tuple ts j q) v (settle false v (slotsE N n e) ρ)) .nx
    | .Assign [.Subscript (.Name x _) ix _] e _ => match slotOf N x with
      | some i => match ownAt ρ i with
        | some o => liftR ρ (denE P call N n e ρ) fun v => liftR ρ (denE P call N n ix ρ) fun w => if isPure v = true then liftR ρ (store o w v) fun o' => .nx (ρ.set i (some (o', true))) else .stuck
        | none => .stuck
      | none => .stuck
    | .AugAssign (.Name x _) op e _ => match slotOf N x with
      | some i => match ρ[i]? with
        | some (some v) => liftR ρ (denE P call N n e ρ) fun w => liftR ρ (augop op v.1 w) fun z => .nx (ρ.set i (some (z, false)))
        | _ => .stuck
      | none => .stuck
    | .Expr (.Call (.Attribute (.Name x _) m _) es [] _) _ => match slotOf N x, mutNames.find? fun t => m == Str.ofString t with
      | some i, some t => match ownAt ρ i with
        | some o => if mutRecv t o = true then liftR ρ (denA P call N n es ρ) fun vs => liftR ρ (mutate t o vs) fun o' => if heldPure o' = true then .nx (ρ.set i (some (o', true))) else if (ownB o' && !(slotsE N n (.Tuple es 0 ⟨0, 0, 0, 0⟩)).contains i) = true then .nx ((freeze (slotsE N n (.Tuple es 0 ⟨0, 0, 0, 0⟩)) ρ).set i (some (o', true))) else .stuck else .stuck
        | none => .stuck
      | _, _ => .stuck
    | .Expr (.Call (.Name f pf) es [] p) _ => liftR ρ (denE P call N n (.Call (.Name f pf) es [] p) ρ) fun _ => .nx ρ
    | .For tg it body [] _ => if isRange it = true then
        liftR ρ (denI P call N n it ρ) fun xs => forLoop (fun x ρ => liftR ρ (bindTg N tg x ρ) fun ρ' => denSs P call N M n body ρ') xs ρ
      else if isWalk it = true then
        if disjoint (slotsE N n it) (mutSs N body) = true then
          liftR ρ (denI P call N n it ρ) fun xs => forLoop (fun x ρ => liftR ρ (bindTg N tg x ρ) fun ρ' => denSs P call N M n body ρ') xs (if arePure xs = true then ρ else freeze (slotsE N n it) ρ)
        else .stuck
      else liftR ρ (denE P call N n it ρ) fun v => liftR ρ (items v) fun xs =>
        if (isPure v || (freshE P it && heldPure v) || disjoint (slotsE N n it) (mutSs N body)) = true then
          forLoop (fun x ρ => liftR ρ (bindTg N tg x ρ) fun ρ' => denSs P call N M n body ρ') xs (if arePure xs = true then ρ else freeze (slotsE N n it) ρ)
        else .stuck
    | .While c body [] _ => whileLoop (fun ρ => denT P call N n c ρ) (fun ρ => denSs P call N M n body ρ) M ρ
    | .Raise (some (.Call (.Name c _) [.Constant (.str _) _ _] [] _)) none _ => match P.excs.lookup c with
      | some d => if d.fields.isEmpty = true then .exc c [] ρ else .stuck
      | none => .stuck
    | .Try body hs [] [] _ => match denSs P call N M n body ρ with
      | .exc c fs ρ' => handle P c fs n ρ' hs
      | o => o
    | _ => .stuck
def denSs (P : Prog) (call : Str → List PV → R PV) (N : List Str) (M : Nat) : Nat → List Stmt → Env → SR
  | 0, _, _ => .stuck
  | n + 1, sts, ρ => match sts with
    | [] => .nx ρ
    | st :: r => if hardB P st = true then .stuck else match zpair (st :: r) with
      | some z => match slotOf N z.x with
        | some i => liftR ρ (zip3R (denE P call N n z.r ρ) (denA P call N n [z.a, z.b] ρ)) fun xs => liftR ρ (R.calm (compLoop (fun x => R.bind (bindTg N z.tg x (wipes (ρ.set i none) (ownSlots N z.sc))) fun ρ' => R.bind (denIfs P call N n z.ifs ρ') fun k =>
          if k = true then R.bind (denE P call N n z.elt ρ') fun y => .ok (some y) else .ok none) xs)) fun ys => .ret (.tup ys) true
        | none => .stuck
      | none => (denS P call N M n st ρ).then fun ρ' => denSs P call N M n r ρ'
end
def start0 (N : List Str) (args : List PV) : Env := args.map (fun v => some (v, false)) ++ List.replicate (N.length - args.length) none
def denFn (P : Prog) (call : Str → List PV → R PV) (M D : Nat) (fd : FD) (args : List PV) : R PV := match denSs P call fd.N M D fd.body (start0 fd.N args) with
  | .nx _ => .ok .non
  | .ret v fl => need (fd.fresh = true → fl = true ∨ mutTop v = false) (.ok v)
  | .exc c fs _ => .exc c fs
  | _ => .stuck
/-- calls, k deep -/
def callN (P : Prog) (M D : Nat) : Nat → Str → List PV → R PV
  | 0, _, _ => .stuck
  | k + 1, f, args => match P.fns.lookup f with
    | some fd => denFn P (callN P M D k) M D fd args
    | none => .stuck
end PyV
set_option Elab.async false
set_option linter.all false
set_option maxRecDepth 100000
set_option maxHeartbeats 1000000
/-! Layer PyV, part 2: how a pure value lies in the heap. -/
namespace PyV
open PySem PySem.Spec PyProof.Rows L2

def keyOf : PV → Option Key
  | .int i => some (.inl i)
  | .str x => some (.inr ⟨x.toArray⟩)
  | _ => none
def keysOf : List PV → Option (List Key)
  | [] => some []
  | x :: r => match keyOf x, keysOf r with
    | some k, some ks => some (k :: ks)
    | _, _ => none
def tkeyOf : PV → Option (List Key)
  | .tup xs => keysOf xs
  | _ => none

theorem sameKey_ok {p q : PV} {k j : Key} (e1 : keyOf p = some k) (e2 : keyOf q = some j) : sameKey p q = decide (k = j) := by
  cases p <;> cases e1 <;> cases q <;> cases e2 <;> simp [sameKey] <;> (rw [Bool.eq_iff_iff]; simp)
theorem keyB_ok {p : PV} (h : keyB p = true) : ∃ k, keyOf p = some k := by
  cases p <;> first | (cases h; done) | exact ⟨_, rfl⟩
theorem keyB_of {p : PV} {k : Key} (h : keyOf p = some k) : keyB p = true := by
  cases p <;> first | (cases h; done) | rfl
/-- a text as the machine bears it -/
def goodS (x : List Nat) : Prop := x.length ≤ sizeLine ∧ ∀ c ∈ x, c < 0x110000
theorem goodS.len {x : List Nat} (h : goodS x) : (⟨x.toArray⟩ : Str).length ≤ sizeLine := by
  show x.toArray.size ≤ sizeLine
  rw [List.size_toArray]; exact h.1
/-- K: the written part; S: the objects that may not be leant on; Ex: exceptions at hand -/
structure Rc where
  K : PySem.W.Frag
  S : Addr → Prop
  Ex : Addr → PV → Prop
/-- a written list -/
def SqLK (K : PySem.W.Frag) (a : Addr) (xs : List V) : Prop :=
  ∃ (o : Obj) (its : Array Value) (n : Nat), K.lookup a = some o ∧ o.cls = .type "list" ∧ o.dict = none ∧ o.data = .seq its n ∧ its.size ≤ sizeLine ∧ Vals xs its.toList
mutual
inductive Rep (r : Rc) (H : Hp) : V → PV → Prop
  | non : Rep r H .non .non
  | bl (b : Bool) : Rep r H (.bl b) (.bl b)
  | int (i : Int) : Rep r H (.int i) (.int i)
  | str (x : List Nat) : goodS x → Rep r H (.str ⟨x.toArray⟩) (.str x)
  | tup {a : Addr} {vs : List V} {xs : List PV} : SqT r.K H a vs → Reps r H vs xs → Rep r H (.ref a) (.tup xs)
  | lst {a : Addr} {vs : List V} {xs : List PV} : ¬ r.S a → H a = some (.lst vs) → Reps r H vs xs → Rep r H (.ref a) (.lst xs)
  | dicK {a : Addr} {kvs : List (Key × V)} {ps : List (PV × PV)} : ¬ r.S a → H a = some (.dK kvs) → RepK r H kvs ps → Rep r H (.ref a) (.dic ps)
  | dicT {a : Addr} {kvs : List (List Key × V)} {ps : List (PV × PV)} : ¬ r.S a → H a = some (.dT kvs) → RepT r H kvs ps → ps ≠ [] → Rep r H (.ref a) (.dic ps)
  | scr {a : Addr} {ns : List Int} : Rd H a (.lst (ns.map V.int)) → ¬ r.S a → Rep r H (.ref a) (.scr ns)
  | scrK {a : Addr} {ns : List Int} : SqLK r.K a (ns.map V.int) → Rep r H (.ref a) (.scr ns)
  | ob {a : Addr} {c : Str} {fs : List (Str × PV)} : r.Ex a (.ob c fs) → Rep r H (.ref a) (.ob c fs)
inductive Reps (r : Rc) (H : Hp) : List V → List PV → Prop
  | nil : Reps r H [] []
  | cons {v : V} {vs : List V} {x : PV} {xs : List PV} : Rep r H v x → Reps r H vs xs → Reps r H (v :: vs) (x :: xs)
inductive RepK (r : Rc) (H : Hp) : List (Key × V) → List (PV × PV) → Prop
  | nil : RepK r H [] []
  | cons {k : Key} {v : V} {kvs : List (Key × V)} {p x : PV} {ps : List (PV × PV)} : keyOf p = some k → Rep r H v x → RepK r H kvs ps → RepK r H ((k, v) :: kvs) ((p, x) :: ps)
inductive RepT (r : Rc) (H : Hp) : List (List Key × V) → List (PV × PV) → Prop
  | nil : RepT r H [] []
  | cons {k : List Key} {v : V} {kvs : List (List Key × V)} {p x : PV} {ps : List (PV × PV)} : tkeyOf p = some k → Rep r H v x → RepT r H kvs ps → RepT r H ((k, v) :: kvs) ((p, x) :: ps)
end

/-- written once -/
def still : HO → Bool
  | .tup _ => true
  | .frz _ _ => true
  | _ => false
/-- from H to H' what is leant on stands -/
structure Keeps (r : Rc) (H : Hp) (r' : Rc) (H' : Hp) : Prop where
  k : r'.K = r.K
  obj : ∀ b o, H b = some o → (¬ r.S b ∨ still o = true) → H' b = some o
  hid : ∀ b o, H b = some o → ¬ r.S b → ¬ r'.S b
  ex : ∀ b x, r.Ex b x → r'.Ex b x
theorem Keeps.refl (r : Rc) (H : Hp) : Keeps r H r H := ⟨rfl, fun _ _ h _ => h, fun _ _ _ h => h, fun _ _ h => h⟩
theorem Keeps.same {r : Rc} {H H' : Hp} (s : Same H H') : Keeps r H r H' := ⟨rfl, fun _ _ h _ => s _ _ h, fun _ _ _ h => h, fun _ _ h => h⟩
theorem Keeps.seqT {r r' : Rc} {H H' : Hp} (k : Keeps r H r' H') {a : Addr} {xs : List V} (h : SqT r.K H a xs) : SqT r'.K H' a xs := by
  rcases h with (h | ⟨o, h⟩) | h
  · exact .inl (.inl (k.obj _ _ h (.inr rfl)))
  · exact .inl (.inr ⟨o, k.obj _ _ h (.inr rfl)⟩)
  · rw [← k.k] at h; exact .inr h
mutual
theorem Rep.keep {r r' : Rc} {H H' : Hp} (k : Keeps r H r' H') : ∀ (x : PV) (v : V), Rep r H v x → Rep r' H' v x
  | .non, _, h => by cases h; exact .non
  | .bl b, _, h => by cases h; exact .bl b
  | .int i, _, h => by cases h; exact .int i
  | .str s, _, h => by cases h with | str _ l => exact .str s l
  | .tup xs, _, h => by
    cases h with
    | tup h1 h2 => exact .tup (k.seqT h1) (Reps.keep k xs _ h2)
  | .lst xs, _, h => by
    cases h with
    | lst n h1 h2 => exact .lst (k.hid _ _ h1 n) (k.obj _ _ h1 (.inl n)) (Reps.keep k xs _ h2)
  | .dic ps, _, h => by
    cases h with
    | dicK n h1 h2 => exact .dicK (k.hid _ _ h1 n) (k.obj _ _ h1 (.inl n)) (RepK.keep k ps _ h2)
    | dicT n h1 h2 h3 => exact .dicT (k.hid _ _ h1 n) (k.obj _ _ h1 (.inl n)) (RepT.keep k ps _ h2) h3
  | .scr ns, _, h => by
    cases h with
    | scr h n =>
      rcases h with h | ⟨o, h⟩
      · exact .scr (.inl (k.obj _ _ h (.inl n))) (k.hid _ _ h n)
      · exact .scr (.inr ⟨o, k.obj _ _ h (.inr rfl)⟩) (k.hid _ _ h n)
    | scrK h => exact .scrK (by rw [k.k]; exact h)
  | .ob c fs, _, h => by
    cases h with
    | ob h => exact .ob (k.ex _ _ h)
theorem Reps.keep {r r' : Rc} {H H' : Hp} (k : Keeps r H r' H') : ∀ (xs : List PV) (vs : List V), Reps r H vs xs → Reps r' H' vs xs
  | [], _, h => by cases h; exact .nil
  | x :: xs, _, h => by
    cases h with
    | cons h1 h2 => exact .cons (Rep.keep k x _ h1) (Reps.keep k xs _ h2)
theorem RepK.keep {r r' : Rc} {H H' : Hp} (k : Keeps r H r' H') : ∀ (xs : List (PV × PV)) (vs : List (Key × V)), RepK r H vs xs → RepK r' H' vs xs
  | [], _, h => by cases h; exact .nil
  | (p, x) :: xs, _, h => by
    cases h with
    | cons h0 h1 h2 => exact .cons h0 (Rep.keep k x _ h1) (RepK.keep k xs _ h2)
theorem RepT.keep {r r' : Rc} {H H' : Hp} (k : Keeps r H r' H') : ∀ (xs : List (PV × PV)) (vs : List (List Key × V)), RepT r H vs xs → RepT r' H' vs xs
  | [], _, h => by cases h; exact .nil
  | (p, x) :: xs, _, h => by
    cases h with
    | cons h0 h1 h2 => exact .cons h0 (Rep.keep k x _ h1) (RepT.keep k xs _ h2)
end
/-- a pure value leans on tuples alone -/
structure Stills (r : Rc) (H : Hp) (r' : Rc) (H' : Hp) : Prop where
  k : r'.K = r.K
  obj : ∀ b o, H b = some o → still o = true → H' b = some o
mutual
theorem Rep.pure {r r' : Rc} {H H' : Hp} (k : Stills r H r' H') : ∀ (x : PV) (v : V), isPure x = true → Rep r H v x → Rep r' H' v x
  | .non, _, _, h => by cases h; exact .non
  | .bl b, _, _, h => by cases h; exact .bl b
  | .int i, _, _, h => by cases h; exact .int i
  | .str s, _, _, h => by cases h with | str _ l => exact .str s l
  | .tup xs, _, p, h => by
    cases h with
    | tup h1 h2 =>
      refine .tup ?_ (Reps.pure k xs _ (by simpa [isPure] using p) h2)
      rcases h1 with (h | ⟨o, h⟩) | h
      · exact .inl (.inl (k.obj _ _ h rfl))
      · exact .inl (.inr ⟨o, k.obj _ _ h rfl⟩)
      · rw [← k.k] at h; exact .inr h
  | .lst xs, _, p, h => by simp [isPure] at p
  | .dic ps, _, p, h => by simp [isPure] at p
  | .scr ns, _, p, h => by simp [isPure] at p
  | .ob c fs, _, p, h => by simp [isPure] at p
theorem Reps.pure {r r' : Rc} {H H' : Hp} (k : Stills r H r' H') : ∀ (xs : List PV) (vs : List V), arePure xs = true → Reps r H vs xs → Reps r' H' vs xs
  | [], _, _, h => by cases h; exact .nil
  | x :: xs, _, p, h => by
    cases h with
    | cons h1 h2 =>
      have p' : isPure x = true ∧ arePure xs = true := by simpa [arePure, Bool.and_eq_true] using p
      exact .cons (Rep.pure k x _ p'.1 h1) (Reps.pure k xs _ p'.2 h2)
end
section
variable {r : Rc} {H H' : Hp}
theorem Rep.same (s : Same H H') {v : V} {x : PV} (h : Rep r H v x) : Rep r H' v x := Rep.keep (Keeps.same s) x v h
theorem Reps.same (s : Same H H') {v : List V} {x : List PV} (h : Reps r H v x) : Reps r H' v x := Reps.keep (Keeps.same s) x v h
theorem Reps.length : ∀ {vs : List V} {xs : List PV}, Reps r H vs xs → vs.length = xs.length
  | _, _, .nil => rfl
  | _, _, .cons _ t => by simp [Reps.length t]
theorem Reps.get : ∀ {vs : List V} {xs : List PV} {i : Nat} {x : PV}, Reps r H vs xs → xs[i]? = some x → ∃ v, vs[i]? = some v ∧ Rep r H v x
  | _, _, _, _, .nil, e => by simp at e
  | _, _, 0, _, .cons h _, e => by simp at e; subst e; exact ⟨_, rfl, h⟩
  | _, _, i + 1, x, .cons _ t, e => by
    obtain ⟨v, h1, h2⟩ := Reps.get (i := i) (x := x) t (by simpa using e)
    exact ⟨v, by simpa using h1, h2⟩
theorem Reps.append : ∀ {vs ws : List V} {xs ys : List PV}, Reps r H vs xs → Reps r H ws ys → Reps r H (vs ++ ws) (xs ++ ys)
  | _, _, _, _, .nil, h => h
  | _, _, _, _, .cons h t, h2 => .cons h (Reps.append t h2)
theorem Reps.reverse : ∀ {vs : List V} {xs : List PV}, Reps r H vs xs → Reps r H vs.reverse xs.reverse
  | _, _, .nil => .nil
  | _, _, .cons h t => by rw [List.reverse_cons, List.reverse_cons]; exact (Reps.reverse t).append (.cons h .nil)
theorem Reps.take : ∀ {vs : List V} {xs : List PV} (n : Nat), Reps r H vs xs → Reps r H (vs.take n) (xs.take n)
  | _, _, 0, _ => .nil
  | _, _, _ + 1, .nil => .nil
  | _, _, n + 1, .cons h t => .cons h (Reps.take n t)
theorem Reps.drop : ∀ {vs : List V} {xs : List PV} (n : Nat), Reps r H vs xs → Reps r H (vs.drop n) (xs.drop n)
  | _, _, 0, h => h
  | _, _, _ + 1, .nil => .nil
  | _, _, n + 1, .cons _ t => Reps.drop n t
theorem Reps.set {v : V} {x : PV} (h : Rep r H v x) : ∀ {vs : List V} {xs : List PV} (i : Nat), Reps r H vs xs → Reps r H (vs.set i v) (xs.set i x)
  | _, _, _, .nil => .nil
  | _, _, 0, .cons _ t => .cons h t
  | _, _, i + 1, .cons q t => .cons q (Reps.set h i t)
theorem Reps.reps {vs : List V} {xs : List PV} (h : Reps r H vs xs) : ∀ k : Nat, Reps r H (List.replicate k vs).flatten (List.replicate k xs).flatten
  | 0 => .nil
  | k + 1 => by
    rw [List.replicate_succ, List.replicate_succ, List.flatten_cons, List.flatten_cons]
    exact h.append (Reps.reps h k)
theorem Reps.mem : ∀ {vs : List V} {xs : List PV} {x : PV}, Reps r H vs xs → x ∈ xs → ∃ v, Rep r H v x
  | _, _, _, .cons h t, m => by
    rcases List.mem_cons.mp m with rfl | m
    · exact ⟨_, h⟩
    · exact Reps.mem t m
end
/-- the hidden objects are there -/
def Rc.Al (r : Rc) (H : Hp) : Prop := ∀ b, r.S b → H b ≠ none
theorem Rc.Al.new {r : Rc} {H : Hp} (h : r.Al H) {p : Addr} (n : H p = none) : ¬ r.S p := fun s => h p s n
theorem Rc.Al.same {r : Rc} {H H' : Hp} (h : r.Al H) (s : Same H H') : r.Al H' := fun b q e => by
  cases z : H b with
  | none => exact h b q z
  | some o => rw [s _ _ z] at e; cases e
theorem same_upd {H : Hp} {p : Addr} {o : HO} (h : H p = none) : Same H (upd H p o) := fun b x e => by
  rw [upd_ne (ne_of_none e h)]; exact e
/-- slots and all, an object beside -/
def Rc.plus (r : Rc) (p : Addr) : Rc := ⟨r.K, fun b => r.S b ∨ b = p, r.Ex⟩
theorem Keeps.beside {r : Rc} {H : Hp} {p : Addr} {o : HO} (n : H p = none) : Keeps r H (r.plus p) (upd H p o) :=
  ⟨rfl, fun b x h _ => by rw [upd_ne (ne_of_none h n)]; exact h, fun b x h hb z => z.elim hb fun e => (by rw [e, n] at h; cases h), fun _ _ h => h⟩
/-- the top is a new object; a list's items lean not on it -/
def Fresh (r : Rc) (H H' : Hp) (v : V) (x : PV) : Prop := mutTop x = true → ∃ p, v = .ref p ∧ H p = none ∧ ∀ xs, x = .lst xs → ∃ vs, H' p = some (.lst vs) ∧ Reps (r.plus p) H' vs xs
/-- what is wanted behind an expression: W of every new state with the value -/
def Out (r : Rc) (H : Hp) (x : PV) (Q : VK) : Prop := ∀ v H', Same H H' → Rep r H' v x → Fresh r H H' v x → Q v H'
/-- .. not new, perhaps -/
def OutOld (r : Rc) (H : Hp) (x : PV) (Q : VK) : Prop := ∀ v H', Same H H' → Rep r H' v x → Q v H'
theorem OutOld.out {r : Rc} {H : Hp} {x : PV} {Q : VK} (h : OutOld r H x Q) : Out r H x Q := fun v H' s q _ => h v H' s q
/-- a tuple is laid -/
theorem Out.tup {r : Rc} {H : Hp} {xs : List PV} {vs : List V} {Q : VK} (o : Out r H (.tup xs) Q) (h : Reps r H vs xs) (p : Addr) (n : H p = none) : Q (.ref p) (upd H p (.tup vs)) :=
  o _ _ (same_upd n) (.tup (SqT.of upd_same) (h.same (same_upd n))) fun z => by simp [mutTop] at z
theorem Out.lst {r : Rc} {H : Hp} {xs : List PV} {vs : List V} {Q : VK} (o : Out r H (.lst xs) Q) (a : r.Al H) (h : Reps r H vs xs) (p : Addr) (n : H p = none) : Q (.ref p) (upd H p (.lst vs)) :=
  o _ _ (same_upd n) (.lst (a.new n) upd_same (h.same (same_upd n))) fun _ => ⟨p, rfl, n, fun ys e => by cases e; exact ⟨_, upd_same, Reps.keep (Keeps.beside n) _ _ h⟩⟩
theorem Out.at {r : Rc} {H : Hp} {x : PV} {v : V} {Q : VK} (o : Out r H x Q) (h : Rep r H v x) (z : mutTop x = false) : Q v H := o v H (Same.refl H) h fun q => by rw [z] at q; cases q
theorem OutOld.at {r : Rc} {H : Hp} {x : PV} {v : V} {Q : VK} (o : OutOld r H x Q) (h : Rep r H v x) : Q v H := o v H (Same.refl H) h

/-! ### equality -/
theorem str_beq (x y : List Nat) : ((⟨x.toArray⟩ : Str) == ⟨y.toArray⟩) = (x == y) := by
  by_cases h : x = y
  · subst h; simp
  · have h2 : ¬ ((⟨x.toArray⟩ : Str) = ⟨y.toArray⟩) := fun e => h (by injection e with e; simpa using congrArg Array.toList e)
    rw [beq_eq_false_iff_ne.mpr h, beq_eq_false_iff_ne.mpr h2]
mutual
theorem eqv_toD : ∀ x y : PV, isData x = true → isData y = true → PyData.eqv (toD x) (toD y) = eqPV x y
  | .str x, .str y, _, _ => by
    show PyData.eqv (.str ⟨x.toArray⟩) (.str ⟨y.toArray⟩) = (x == y)
    rw [PyData.eqv, str_beq]
  | .tup xs, .tup ys, h1, h2 => by
    show PyData.eqv (.tuple (toDs xs)) (.tuple (toDs ys)) = eqPVs xs ys
    rw [PyData.eqv]
    exact eqv_toDs xs ys (by simpa [isData] using h1) (by simpa [isData] using h2)
  | .lst xs, .lst ys, h1, h2 => by
    show PyData.eqv (.list (toDs xs)) (.list (toDs ys)) = eqPVs xs ys
    rw [PyData.eqv]
    exact eqv_toDs xs ys (by simpa [isData] using h1) (by simpa [isData] using h2)
  | .non, y, _, h2 => by cases y <;> first | rfl | (simp [isData] at h2)
  | .bl b, y, _, h2 => by cases y <;> first | rfl | (simp [isData] at h2)
  | .int b, y, _, h2 => by cases y <;> first | rfl | (simp [isData] at h2)
  | .str x, .non, _, h2 => rfl
  | .str x, .bl _, _, h2 => rfl
  | .str x, .int _, _, h2 => rfl
  | .str x, .tup _, _, h2 => rfl
  | .str x, .lst _, _, h2 => rfl
  | .str x, .dic _, _, h2 => by simp [isData] at h2
  | .str x, .scr _, _, h2 => by simp [isData] at h2
  | .str x, .ob _ _, _, h2 => by simp [isData] at h2
  | .tup x, .non, _, h2 => rfl
  | .tup x, .bl _, _, h2 => rfl
  | .tup x, .int _, _, h2 => rfl
  | .tup x, .str _, _, h2 => rfl
  | .tup x, .lst _, _, h2 => rfl
  | .tup x, .dic _, _, h2 => by simp [isData] at h2
  | .tup x, .scr _, _, h2 => by simp [isData] at h2
  | .tup x, .ob _ _, _, h2 => by simp [isData] at h2
  | .lst x, .non, _, h2 => rfl
  | .lst x, .bl _, _, h2 => rfl
  | .lst x, .int _, _, h2 => rfl
  | .lst x, .str _, _, h2 => rfl
  | .lst x, .tup _, _, h2 => rfl
  | .lst x, .dic _, _, h2 => by simp [isData] at h2
  | .lst x, .scr _, _, h2 => by simp [isData] at h2
  | .lst x, .ob _ _, _, h2 => by simp [isData] at h2
  | .dic _, _, h1, _ => by simp [isData] at h1
  | .scr _, _, h1, _ => by simp [isData] at h1
  | .ob _ _, _, h1, _ => by simp [isData] at h1
theorem eqv_toDs : ∀ xs ys : List PV, areData xs = true → areData ys = true → PyData.eqvAll (toDs xs) (toDs ys) = eqPVs xs ys
  | [], [], _, _ => rfl
  | [], y :: ys, _, _ => rfl
  | x :: xs, [], _, _ => rfl
  | x :: xs, y :: ys, h1, h2 => by
    have h1' : isData x = true ∧ areData xs = true := by simpa [areData] using h1
    have h2' : isData y = true ∧ areData ys = true := by simpa [areData] using h2
    show (PyData.eqv (toD x) (toD y) && PyData.eqvAll (toDs xs) (toDs ys)) = (eqPV x y && eqPVs xs ys)
    rw [eqv_toD x y h1'.1 h2'.1, eqv_toDs xs ys h1'.2 h2'.2]
end
mutual
theorem depth_toD : ∀ x : PV, isData x = true → (toD x).depth = deep x
  | .non, _ => rfl
  | .bl _, _ => rfl
  | .int _, _ => rfl
  | .str _, _ => rfl
  | .tup xs, h => by
    show PyData.depth (.tuple (toDs xs)) = deeps xs + 1
    rw [PyData.depth, depth_toDs xs (by simpa [isData] using h)]
  | .lst xs, h => by
    show PyData.depth (.list (toDs xs)) = deeps xs + 1
    rw [PyData.depth, depth_toDs xs (by simpa [isData] using h)]
  | .dic _, h => by simp [isData] at h
  | .scr _, h => by simp [isData] at h
  | .ob _ _, h => by simp [isData] at h
theorem depth_toDs : ∀ x : List PV, areData x = true → PyData.depthAll (toDs x) = deeps x
  | [], _ => rfl
  | x :: xs, h => by
    have h' : isData x = true ∧ areData xs = true := by simpa [areData] using h
    show PyData.depthAll (toD x :: toDs xs) = max (deep x) (deeps xs)
    rw [PyData.depthAll, depth_toD x h'.1, depth_toDs xs h'.2]
end
mutual
theorem lay_toD {r : Rc} {H : Hp} : ∀ (x : PV) (v : V), isData x = true → Rep r H v x → PyData.canLay0 (toD x) = true
  | .non, _, _, _ => rfl
  | .bl _, _, _, _ => rfl
  | .int _, _, _, _ => rfl
  | .str x, _, _, h => by
    cases h with
    | str _ g =>
      show PyData.canLay0 (.str ⟨x.toArray⟩) = true
      rw [PyData.canLay0]
      show (x.toArray.all fun c => decide (c < 0x110000)) = true
      rw [List.all_toArray]
      exact List.all_eq_true.mpr fun c hc => decide_eq_true (g.2 c hc)
  | .tup xs, _, d, h => by
    cases h with
    | tup _ h2 =>
      show PyData.canLay0 (.tuple (toDs xs)) = true
      rw [PyData.canLay0, lay_toDs xs _ (by simpa [isData] using d) h2]
  | .lst xs, _, d, h => by
    cases h with
    | lst _ _ h2 =>
      show PyData.canLay0 (.list (toDs xs)) = true
      rw [PyData.canLay0, lay_toDs xs _ (by simpa [isData] using d) h2]
  | .dic _, _, h, _ => by simp [isData] at h
  | .scr _, _, h, _ => by simp [isData] at h
  | .ob _ _, _, h, _ => by simp [isData] at h
theorem lay_toDs {r : Rc} {H : Hp} : ∀ (x : List PV) (vs : List V), areData x = true → Reps r H vs x → PyData.canLayAll0 (toDs x) = true
  | [], _, _, _ => rfl
  | x :: xs, _, d, h => by
    have d' : isData x = true ∧ areData xs = true := by simpa [areData] using d
    cases h with
    | cons h1 h2 =>
      show PyData.canLayAll0 (toD x :: toDs xs) = true
      rw [PyData.canLayAll0, lay_toD x _ d'.1 h1, lay_toDs xs _ d'.2 h2]; rfl
end
mutual
theorem Rep.dp {r : Rc} {H : Hp} : ∀ (x : PV) (v : V), isData x = true → Rep r H v x → Dp r.K H v (toD x)
  | .non, _, _, h => by cases h; exact .non
  | .bl b, _, _, h => by cases h; exact .bl b
  | .int i, _, _, h => by cases h; exact .int i
  | .str s, _, _, h => by cases h; exact .str _
  | .tup xs, _, d, h => by
    cases h with
    | tup h1 h2 => exact .tup h1 (Reps.dp xs _ (by simpa [isData] using d) h2)
  | .lst xs, _, d, h => by
    cases h with
    | lst _ h1 h2 => exact .lst (SqL.of h1) (Reps.dp xs _ (by simpa [isData] using d) h2)
  | .dic _, _, h, _ => by simp [isData] at h
  | .scr _, _, h, _ => by simp [isData] at h
  | .ob _ _, _, h, _ => by simp [isData] at h
theorem Reps.dp {r : Rc} {H : Hp} : ∀ (xs : List PV) (vs : List V), areData xs = true → Reps r H vs xs → DpAll r.K H vs (toDs xs)
  | [], _, _, h => by cases h; exact .nil
  | x :: xs, _, d, h => by
    have d' : isData x = true ∧ areData xs = true := by simpa [areData] using d
    cases h with
    | cons h1 h2 => exact .cons (Rep.dp x _ d'.1 h1) (Reps.dp xs _ d'.2 h2)
end
/-! ### dicts -/
theorem RepK.flat {r : Rc} {H : Hp} : ∀ {kvs : List (Key × V)} {ps : List (PV × PV)}, RepK r H kvs ps → flatD ps = true
  | _, _, .nil => rfl
  | _, _, .cons h _ t => by
    show (keyB _ && flatD _) = true
    rw [keyB_of h, t.flat]; rfl
theorem RepK.get {r : Rc} {H : Hp} {p : PV} {k : Key} (hk : keyOf p = some k) : ∀ {kvs : List (Key × V)} {ps : List (PV × PV)}, RepK r H kvs ps → (∀ x, dget ps p = some x → ∃ v, valV kvs k = some v ∧ Rep r H v x) ∧ (dget ps p = none → valV kvs k = none)
  | _, _, .nil => ⟨fun x h => (by cases h), fun _ => rfl⟩
  | _, _, .cons (k := k') (p := p') (kvs := kvs) (ps := ps) (v := v) (x := x) h rv t => by
    obtain ⟨h1, h2⟩ := RepK.get hk t
    have e : sameKey p' p = decide (k' = k) := sameKey_ok h hk
    by_cases z : k' = k
    · have e' : sameKey p' p = true := by rw [e]; exact decide_eq_true z
      have d : dget ((p', x) :: ps) p = some x := by
        unfold dget
        rw [List.find?_cons_of_pos (by exact e')]
        rfl
      rw [d, valV_pos z]
      exact ⟨fun y hy => by cases hy; exact ⟨v, rfl, rv⟩, fun q => by cases q⟩
    · have e' : ¬ sameKey p' p = true := by rw [e]; simpa using z
      have d : dget ((p', x) :: ps) p = dget ps p := by
        unfold dget
        rw [List.find?_cons_of_neg (by exact e')]
      rw [d, valV_neg z]
      exact ⟨h1, h2⟩
theorem RepK.any {r : Rc} {H : Hp} {p : PV} {k : Key} (hk : keyOf p = some k) : ∀ {kvs : List (Key × V)} {ps : List (PV × PV)}, RepK r H kvs ps → (ps.any fun q => sameKey q.1 p) = kvs.any fun kv => decide (kv.1 = k)
  | _, _, .nil => rfl
  | _, _, .cons h _ t => by rw [List.any_cons, List.any_cons, RepK.any hk t, sameKey_ok h hk]
theorem RepK.append {r : Rc} {H : Hp} : ∀ {kvs kvs' : List (Key × V)} {ps ps' : List (PV × PV)}, RepK r H kvs ps → RepK r H kvs' ps' → RepK r H (kvs ++ kvs') (ps ++ ps')
  | _, _, _, _, .nil, t => t
  | _, _, _, _, .cons h v s, t => .cons h v (s.append t)
theorem RepK.repl {r : Rc} {H : Hp} {p x : PV} {k : Key} {v : V} (hk : keyOf p = some k) (hv : Rep r H v x) : ∀ {kvs : List (Key × V)} {ps : List (PV × PV)}, RepK r H kvs ps → RepK r H (kvs.map fun kv => if kv.1 = k then (kv.1, v) else kv) (ps.map fun q => if sameKey q.1 p = true then (q.1, x) else q)
  | _, _, .nil => .nil
  | _, _, .cons (k := k') (p := p') h rv t => by
    rw [List.map_cons, List.map_cons]
    have e : sameKey p' p = decide (k' = k) := sameKey_ok h hk
    have tt := RepK.repl hk hv t
    by_cases z : k' = k
    · rw [if_pos z, if_pos (by rw [e]; exact decide_eq_true z)]
      exact .cons h hv tt
    · rw [if_neg z, if_neg (by rw [e]; simpa using z)]
      exact .cons h rv tt
theorem RepK.put {r : Rc} {H : Hp} {p x : PV} {k : Key} {v : V} {kvs : List (Key × V)} {ps : List (PV × PV)} (h : RepK r H kvs ps) (hk : keyOf p = some k) (hv : Rep r H v x) : RepK r H (putK kvs k v) (dput ps p x) := by
  unfold putK dput
  rw [RepK.any hk h]
  by_cases z : (kvs.any fun kv => decide (kv.1 = k)) = true
  · rw [if_pos z, if_pos z]; exact h.repl hk hv
  · rw [if_neg z, if_neg z]; exact h.append (.cons hk hv .nil)
theorem RepK.merge {r : Rc} {H : Hp} : ∀ {more : List (Key × V)} {ms : List (PV × PV)}, RepK r H more ms → ∀ {kvs : List (Key × V)} {ps : List (PV × PV)}, RepK r H kvs ps → RepK r H (mergeK kvs more) (ms.foldl (fun acc q => dput acc q.1 q.2) ps) := by
  intro more ms
  induction ms generalizing more with
  | nil => intro z kvs ps h; cases z; exact h
  | cons q ms ih =>
    intro z kvs ps h
    cases z with
    | cons hk hv t => exact ih t (h.put hk hv)
theorem RepK.len {r : Rc} {H : Hp} : ∀ {kvs : List (Key × V)} {ps : List (PV × PV)}, RepK r H kvs ps → kvs.length = ps.length
  | _, _, .nil => rfl
  | _, _, .cons _ _ t => congrArg Nat.succ t.len
end PyV
set_option Elab.async false
set_option linter.all false
set_option maxRecDepth 100000
set_option maxHeartbeats 1000000
/-! Layer PyV, part 3: operations on values. -/
namespace PyV
open PySem PySem.Spec PyProof.Rows L2

theorem need_ok {α : Type} {c : Prop} [Decidable c] {x : R α} {a : α} (h : need c x = .ok a) : c ∧ x = .ok a := by
  unfold need at h
  split at h
  · rename_i hc; exact ⟨hc, h⟩
  · cases h
theorem ofOpt_ok {α : Type} {x : Option α} {a : α} (h : ofOpt x = .ok a) : x = some a := by
  cases x with
  | none => cases h
  | some b => cases h; rfl
theorem bind_ok {α β : Type} {x : R α} {f : α → R β} {b : β} (h : R.bind x f = .ok b) : ∃ a, x = .ok a ∧ f a = .ok b := by
  cases x with
  | ok a => exact ⟨a, rfl, h⟩
  | exc c fs => cases h
  | stuck => cases h
theorem line_eq : line = sizeLine := by decide
theorem str_app (x y : List Nat) : (⟨x.toArray⟩ : Str) ++ ⟨y.toArray⟩ = ⟨(x ++ y).toArray⟩ := by
  show (⟨x.toArray ++ y.toArray⟩ : Str) = _
  simp
theorem goodS.app {x y : List Nat} (h : goodS x) (h' : goodS y) (l : x.length + y.length ≤ line) : goodS (x ++ y) :=
  ⟨by rw [List.length_append, ← line_eq]; exact l, fun c hc => by
    rcases List.mem_append.mp hc with hc | hc
    · exact h.2 c hc
    · exact h'.2 c hc⟩
theorem str_len (x : List Nat) : (⟨x.toArray⟩ : Str).length = x.length := by
  show x.toArray.size = _
  simp

theorem reps_signs (r : Rc) (H : Hp) : ∀ x : List Nat, (∀ c ∈ x, c < 0x110000) → Reps r H (x.map fun c => V.str ⟨#[c]⟩) (x.map fun c => PV.str [c])
  | [], _ => .nil
  | c :: x, h => .cons (.str [c] ⟨by show 1 ≤ sizeLine; decide, fun d hd => by rw [List.mem_singleton.mp hd]; exact h c List.mem_cons_self⟩) (reps_signs r H x fun d hd => h d (List.mem_cons_of_mem _ hd))
theorem reps_flat (k : Int) (x : List Nat) (hk : 0 ≤ k) : Txt.mul ⟨x.toArray⟩ k = ⟨(reps k x).toArray⟩ := by
  have ef : (List.replicate k.toNat x.toArray).foldl (· ++ ·) #[] = (reps k x).toArray := by
    have z : ∀ (m : Nat) (a : List Nat), (List.replicate m x.toArray).foldl (· ++ ·) a.toArray = (a ++ (List.replicate m x).flatten).toArray := by
      intro m
      induction m with
      | zero => intro a; simp
      | succ m ih =>
        intro a
        rw [List.replicate_succ, List.foldl_cons, List.replicate_succ, List.flatten_cons, ← List.append_assoc]
        have e : a.toArray ++ x.toArray = (a ++ x).toArray := by simp
        rw [e]; exact ih (a ++ x)
    have := z k.toNat []
    rw [List.nil_append] at this
    exact this
  unfold Txt.mul
  by_cases h1 : k < 1
  · rw [if_pos h1]
    have : k = 0 := by omega
    subst this
    rfl
  · rw [if_neg h1]
    by_cases h2 : (k == 1 || (⟨x.toArray⟩ : Str).length == 0) = true
    · rw [if_pos h2]
      rcases Bool.or_eq_true _ _ |>.mp h2 with h | h
      · have : k = 1 := by simpa using h
        subst this
        simp [reps]
      · rw [str_len] at h
        have : x = [] := List.eq_nil_of_length_eq_zero (by simpa using h)
        subst this
        simp [reps]
    · rw [if_neg h2]
      show (⟨(List.replicate k.toNat x.toArray).foldl (· ++ ·) #[]⟩ : Str) = _
      rw [ef]
theorem goodS.reps {x : List Nat} {k : Int} (h : goodS x) (h1 : x.length ≤ 16) (h2 : k ≤ 1048576) : goodS (reps k x) := by
  refine ⟨?_, fun c hc => ?_⟩
  · show (List.replicate k.toNat x).flatten.length ≤ _
    rw [PyProof.Rows.lm_len_rep_flat, ← line_eq]
    have : k.toNat * x.length ≤ 1048576 * 16 := Nat.mul_le_mul (by omega) h1
    exact this
  · obtain ⟨y, hy, hc⟩ := List.mem_flatten.mp hc
    rw [(List.mem_replicate.mp hy).2] at hc
    exact h.2 c hc
theorem op_repS {X : Cx} : OpR X (binaryOp .Mult) (fun x y H Q => ∃ (l : List Nat) (k : Int), x = .str ⟨l.toArray⟩ ∧ y = .int k ∧ l.length ≤ 16 ∧ 0 ≤ k ∧ k ≤ 1048576 ∧ Q (.str ⟨(reps k l).toArray⟩) H) := by
  intro pins s σ H x y v u Q I rx ry h
  obtain ⟨l, k, rfl, rfl, h1, h2, h3, q⟩ := h
  obtain ⟨t, rfl⟩ := rx
  obtain ⟨t2, rfl⟩ := ry
  refine SB.mul (mulOk_of 16 1048576 (by rw [str_len]; exact h1) h3 (by omega) (by decide) (by decide)) fun t' kk => ?_
  rw [reps_flat k l h2]
  exact ⟨.str _, H, I.tok _, ⟨_, rfl⟩, q⟩
theorem signs_vals {x : Str} {acc : Array Value} (h : ItemsOf (SignAt x) acc x.cps.size) : Vals (x.cps.toList.map fun c => V.str ⟨#[c]⟩) acc.toList :=
  vals_of_at (by rw [List.length_map]; simp [h.1]) fun j v u h1 h2 => by
    obtain ⟨c, t, e1, e2⟩ := h.2 j u (by rw [← Array.getElem?_toList]; exact h2)
    rw [List.getElem?_map, Array.getElem?_toList, e1] at h1
    cases h1
    exact ⟨t, e2⟩
theorem call_list_txt {X : Cx} (hc : X.calm = true) : CallR X (.type "list") (fun xs H Q => ∃ x : Str, xs = [.str x] ∧ x.cps.size ≤ sizeLine ∧ ∀ q, H q = none → Q (.ref q) (upd H q (.lst (x.cps.toList.map fun c => V.str ⟨#[c]⟩)))) := by
  intro pins s σ H xs us Q I r h
  obtain ⟨x, rfl, hz, q⟩ := h
  obtain ⟨u, eu, rx⟩ := vals1 r
  subst eu
  obtain ⟨t, rfl⟩ := rx
  refine call_list_str (hn := hz) (I.ok.hd hc) x t fun h' tk acc' c' hkeep hS hacc => ?_
  refine ⟨.ref s.heap.objs.size, upd H s.heap.objs.size (.lst (x.cps.toList.map fun c => V.str ⟨#[c]⟩)), I.laid hkeep (Nat.le_refl _) (show ObjOk X.prog X.w _ _ _ (.lst (x.cps.toList.map fun c => V.str ⟨#[c]⟩)) from ⟨?_, acc'.toList, c', signs_vals hacc, ?_⟩), rfl, q _ (I.hok.fresh (Nat.le_refl _))⟩
  · rw [List.length_map]; simpa using hz
  · rw [Array.toArray_toList]; exact hS
theorem call_tuple_txt {X : Cx} (hc : X.calm = true) : CallR X (.type "tuple") (fun xs H Q => ∃ x : Str, xs = [.str x] ∧ x.cps.size ≤ sizeLine ∧ ∀ q, H q = none → Q (.ref q) (upd H q (.tup (x.cps.toList.map fun c => V.str ⟨#[c]⟩)))) := by
  intro pins s σ H xs us Q I r h
  obtain ⟨x, rfl, hz, q⟩ := h
  obtain ⟨u, eu, rx⟩ := vals1 r
  subst eu
  obtain ⟨t, rfl⟩ := rx
  refine call_tuple_str (hsz := hz) (I.ok.hd hc) x t fun h' tk acc' hkeep hacc => ?_
  have I2 : Inv X pins σ H { s with heap := h', toks := tk } := I.kept hkeep
  refine ⟨.ref h'.objs.size, upd H h'.objs.size (.tup (x.cps.toList.map fun c => V.str ⟨#[c]⟩)), I2.laid (t' := tk) (fun c o e => Heap.get?_push_of_some _ e) (Nat.le_refl _) (show ObjOk X.prog X.w _ _ _ (.tup (x.cps.toList.map fun c => V.str ⟨#[c]⟩)) from ⟨?_, acc'.toList, signs_vals hacc, ?_⟩), rfl, q _ (I2.hok.fresh (Nat.le_refl _))⟩
  · rw [List.length_map]; simpa using hz
  · rw [Array.toArray_toList]; exact IsTup.new _ _
/-- two values' operation by the evaluator's -/
def okR2 (K : PySem.W.Frag) (f : PV → PV → R PV) : R2 := fun x y H Q => ∃ (r : Rc) (p q z : PV), r.K = K ∧ r.Al H ∧ Rep r H x p ∧ Rep r H y q ∧ f p q = .ok z ∧ Out r H z Q
def okR1 (K : PySem.W.Frag) (f : PV → R PV) : V → Hp → VK → Prop := fun x H Q => ∃ (r : Rc) (p z : PV), r.K = K ∧ r.Al H ∧ Rep r H x p ∧ f p = .ok z ∧ Out r H z Q
section
variable {X : Cx}
theorem OpR.imp {f : Value → Value → Sem Value} {r r' : R2} (h : OpR X f r) (i : ∀ x y H Q, r' x y H Q → r x y H Q) : OpR X f r' :=
  fun pins s σ H x y v u Q I rx ry q => h pins s σ H x y v u Q I rx ry (i _ _ _ _ q)
theorem OpR.by {f : Value → Value → Sem Value} {r' : R2} (h : ∀ x y H Q, r' x y H Q → ∃ r : R2, OpR X f r ∧ r x y H Q) : OpR X f r' :=
  fun pins s σ H x y v u Q I rx ry q => by
    obtain ⟨r, hr, q'⟩ := h x y H Q q
    exact hr pins s σ H x y v u Q I rx ry q'
theorem line63' : (sizeLine : Nat) < 2 ^ 63 := line63
/-- the list's length bound comes from the state -/
theorem op_catT' : OpR X (binaryOp .Add) (rCatA X.K) := op_catA
theorem binop_ok (op : Operator) : OpR X (binaryOp op) (okR2 X.K (binop op)) := by
  refine OpR.by fun x y H Q h => ?_
  obtain ⟨r, p, q, z, hK, hA, rx, ry, e, o⟩ := h
  revert e
  unfold binop
  split
  · intro e; cases e; cases rx; cases ry
    exact ⟨_, op_add, _, _, rfl, rfl, o.at (.int _) rfl⟩
  · intro e; cases e; cases rx; cases ry
    exact ⟨_, op_sub, _, _, rfl, rfl, o.at (.int _) rfl⟩
  · intro e; obtain ⟨c, e⟩ := need_ok e; cases e; cases rx; cases ry
    exact ⟨_, op_mul, _, _, rfl, rfl, c, o.at (.int _) rfl⟩
  · intro e; obtain ⟨c, e⟩ := need_ok e; cases e; cases rx; cases ry
    exact ⟨_, op_fdiv, _, _, rfl, rfl, c, o.at (.int _) rfl⟩
  · intro e; obtain ⟨c, e⟩ := need_ok e; cases e; cases rx; cases ry
    exact ⟨_, op_mod, _, _, rfl, rfl, c, o.at (.int _) rfl⟩
  · intro e; obtain ⟨c, e⟩ := need_ok e; cases e; cases rx; cases ry
    exact ⟨_, op_pow, _, _, rfl, rfl, c, o.at (.int _) rfl⟩
  · intro e; obtain ⟨c, e⟩ := need_ok e; cases e
    cases rx with
    | str x g =>
      cases ry with
      | str y g' =>
        refine ⟨_, op_add_str, _, _, rfl, rfl, by rw [str_len, str_len, ← line_eq]; exact c, ?_⟩
        rw [str_app]
        exact o.at (.str _ (g.app g' c)) rfl
  · rename_i x y
    intro e; obtain ⟨c, e⟩ := need_ok e; cases e
    cases rx with
    | tup s1 r1 =>
      cases ry with
      | tup s2 r2 =>
        refine ⟨_, op_catA, _, _, _, _, rfl, rfl, hK ▸ s1, hK ▸ s2, by rw [r1.length, r2.length, ← line_eq]; exact c, ?_, ?_, ?_⟩
        · intro z; subst z; cases r1
          exact o.at (.tup s2 r2) rfl
        · intro _ z; subst z; cases r2
          rw [List.append_nil] at o
          exact o.at (.tup s1 r1) rfl
        · intro _ _ p n
          exact o.tup (r1.append r2) p n
  · intro e; obtain ⟨c, e⟩ := need_ok e; cases e
    cases rx with
    | lst n1 s1 r1 =>
      cases ry with
      | lst n2 s2 r2 =>
        exact ⟨_, op_cat, _, _, _, _, rfl, rfl, s1, s2, by rw [r1.length, r2.length, ← line_eq]; exact c, fun p n => o.lst hA (r1.append r2) p n⟩
  · intro e; obtain ⟨c, e⟩ := need_ok e; cases e
    cases rx with
    | lst n1 s1 r1 =>
      cases ry
      exact ⟨_, op_rep, _, _, _, rfl, rfl, s1, c.1, c.2.1, by rw [r1.length, ← line_eq]; exact c.2.2, fun p n => o.lst hA (r1.reps _) p n⟩
  · intro e; obtain ⟨c, e⟩ := need_ok e; cases e
    cases rx with
    | str x g =>
      cases ry
      exact ⟨_, op_repS, _, _, rfl, rfl, c.1, c.2.1, c.2.2, o.at (.str _ (g.reps c.1 c.2.2)) rfl⟩
  · intro e; obtain ⟨c, e⟩ := need_ok e; cases e
    cases rx with
    | tup s1 r1 =>
      cases ry
      refine ⟨_, op_repT, _, _, _, rfl, rfl, hK ▸ s1, ?_, c.2.2.1, c.2.2.2, by rw [r1.length]; exact c.2.1, fun p n => o.tup (r1.reps _) p n⟩
      intro z; subst z
      have := r1.length
      simp at this; omega
  · intro e; cases e
theorem unop_ok (op : UnaryOp) : UnR X (unaryOp op) (okR1 X.K (unop op)) := by
  intro pins s σ H x v Q I rx h
  obtain ⟨r, p, z, hK, hA, r1, e, o⟩ := h
  revert e
  unfold unop
  split
  · intro e; cases e; cases r1
    exact un_neg pins s σ H _ v Q I rx ⟨_, rfl, o.at (.int _) rfl⟩
  · intro e; cases e
/-! ### comparisons -/
theorem eq_ok (hu : X.A.units + 64 < cLine) {r : Rc} (hK : r.K = X.K) : OpR X (compareOp .Eq) (fun x y H Q => ∃ p q, Rep r H x p ∧ Rep r H y q ∧ okEq p q = true ∧ Q (.bl (eqPV p q)) H) := by
  intro pins s σ H x y v u Q I rx ry h
  obtain ⟨p, q, r1, r2, e, o⟩ := h
  have e' : (isData p = true ∧ isData q = true) ∧ min (deep p) (deep q) ≤ 64 := by simpa [okEq] using e
  obtain ⟨as, a1⟩ := Dp.reads I _ x v (hK ▸ r1.dp p _ e'.1.1) rx
  obtain ⟨bs, a2⟩ := Dp.reads I _ y u (hK ▸ r2.dp q _ e'.1.2) ry
  refine SeqAt.compareEq_reads a1 a2 (lay_toD p _ e'.1.1 r1) (lay_toD q _ e'.1.2 r2) ?_ ?_
  · rw [depth_toD p e'.1.1, depth_toD q e'.1.2]; omega
  · rw [eqv_toD p q e'.1.1 e'.1.2]
    exact ⟨.bl _, H, I, rfl, o⟩

theorem ne_ok (hu : X.A.units + 64 < cLine) {r : Rc} (hK : r.K = X.K) : OpR X (compareOp .NotEq) (fun x y H Q => ∃ p q, Rep r H x p ∧ Rep r H y q ∧ okEq p q = true ∧ Q (.bl (!eqPV p q)) H) := by
  intro pins s σ H x y v u Q I rx ry h
  obtain ⟨p, q, r1, r2, e, o⟩ := h
  have e' : (isData p = true ∧ isData q = true) ∧ min (deep p) (deep q) ≤ 64 := by simpa [okEq] using e
  obtain ⟨as, a1⟩ := Dp.reads I _ x v (hK ▸ r1.dp p _ e'.1.1) rx
  obtain ⟨bs, a2⟩ := Dp.reads I _ y u (hK ▸ r2.dp q _ e'.1.2) ry
  refine SeqAt.compareNe_reads a1 a2 (lay_toD p _ e'.1.1 r1) (lay_toD q _ e'.1.2 r2) ?_ ?_
  · rw [depth_toD p e'.1.1, depth_toD q e'.1.2]; omega
  · rw [eqv_toD p q e'.1.1 e'.1.2]
    exact ⟨.bl _, H, I, rfl, o⟩
theorem lt_ok (hu : X.A.units + 64 < cLine) {r : Rc} (hK : r.K = X.K) : OpR X (compareOp .Lt) (fun x y H Q => ∃ p q, Rep r H x (.tup p) ∧ Rep r H y (.tup q) ∧ okOrd p q = true ∧ Q (.bl (PySem.W.dataLt (toD (.tup p)) (toD (.tup q)))) H) := by
  intro pins s σ H x y v u Q I rx ry h
  obtain ⟨p, q, r1, r2, e, o⟩ := h
  have e' : ((isData (.tup p) = true ∧ isData (.tup q) = true) ∧ PySem.W.alike (toD (.tup p)) (toD (.tup q)) = true) ∧ min (deep (.tup p)) (deep (.tup q)) ≤ 64 := by
    unfold okOrd at e
    rw [Bool.and_eq_true, Bool.and_eq_true, Bool.and_eq_true, decide_eq_true_eq] at e
    exact e
  obtain ⟨as, a1⟩ := Dp.reads I _ x v (hK ▸ r1.dp _ _ e'.1.1.1) rx
  obtain ⟨bs, a2⟩ := Dp.reads I _ y u (hK ▸ r2.dp _ _ e'.1.1.2) ry
  refine PySem.W.lt_data a1 a2 e'.1.2 (fun z => by cases z) ?_ ⟨.bl _, H, I, rfl, o⟩
  rw [depth_toD _ e'.1.1.1, depth_toD _ e'.1.1.2]; omega
theorem gt_ok (hu : X.A.units + 64 < cLine) {r : Rc} (hK : r.K = X.K) : OpR X (compareOp .Gt) (fun x y H Q => ∃ p q, Rep r H x (.tup p) ∧ Rep r H y (.tup q) ∧ okOrd p q = true ∧ Q (.bl (PySem.W.dataLt (toD (.tup q)) (toD (.tup p)))) H) := by
  intro pins s σ H x y v u Q I rx ry h
  obtain ⟨p, q, r1, r2, e, o⟩ := h
  have e' : ((isData (.tup p) = true ∧ isData (.tup q) = true) ∧ PySem.W.alike (toD (.tup p)) (toD (.tup q)) = true) ∧ min (deep (.tup p)) (deep (.tup q)) ≤ 64 := by
    unfold okOrd at e
    rw [Bool.and_eq_true, Bool.and_eq_true, Bool.and_eq_true, decide_eq_true_eq] at e
    exact e
  obtain ⟨as, a1⟩ := Dp.reads I _ x v (hK ▸ r1.dp _ _ e'.1.1.1) rx
  obtain ⟨bs, a2⟩ := Dp.reads I _ y u (hK ▸ r2.dp _ _ e'.1.1.2) ry
  refine PySem.W.gt_data a1 a2 e'.1.2 (fun z => by cases z) ?_ ⟨.bl _, H, I, rfl, o⟩
  rw [depth_toD _ e'.1.1.1, depth_toD _ e'.1.1.2]; omega
theorem any_toDs {p : PV} (hp : isData p = true) : ∀ {ys : List PV}, areData ys = true → ((toDs ys).any fun y => PyData.eqv y (toD p)) = ys.any fun y => eqPV y p
  | [], _ => rfl
  | y :: ys, h => by
    have h' : isData y = true ∧ areData ys = true := by simpa [areData] using h
    show (PyData.eqv (toD y) (toD p) || (toDs ys).any fun y => PyData.eqv y (toD p)) = (eqPV y p || ys.any fun y => eqPV y p)
    rw [eqv_toD y p h'.1 hp, any_toDs hp h'.2]
theorem in_core (hu : X.A.units + 65 < cLine) {r : Rc} (hK : r.K = X.K) (neg : Bool) : OpR X (compareOp (if neg then .NotIn else .In)) (fun x y H Q => ∃ p q ys, (q = .lst ys ∨ q = .tup ys) ∧ Rep r H x p ∧ Rep r H y q ∧ okEq p q = true ∧ Q (.bl (if neg then !(ys.any fun y => eqPV y p) else ys.any fun y => eqPV y p)) H) := by
  intro pins s σ H x y v u Q I rx ry h
  obtain ⟨p, q, ys, hq, r1, r2, e, o⟩ := h
  have e' : (isData p = true ∧ isData q = true) ∧ min (deep p) (deep q) ≤ 64 := by simpa [okEq] using e
  obtain ⟨as, a1⟩ := Dp.reads I _ x v (hK ▸ r1.dp p _ e'.1.1) rx
  obtain ⟨bs, a2⟩ := Dp.reads I _ y u (hK ▸ r2.dp q _ e'.1.2) ry
  have hd : areData ys = true := by
    rcases hq with rfl | rfl <;> simpa [isData] using e'.1.2
  have hl : PyData.canLayAll0 (toDs ys) = true := by
    have := lay_toD q _ e'.1.2 r2
    rcases hq with rfl | rfl
    · simpa [toD, PyData.canLay0] using this
    · simpa [toD, PyData.canLay0] using this
  have hdp : X.A.units + 1 + min (PyData.depthAll (toDs ys)) (toD p).depth < cLine := by
    rw [depth_toDs ys hd, depth_toD p e'.1.1]
    have : deep q = deeps ys + 1 := by rcases hq with rfl | rfl <;> rfl
    have := e'.2
    omega
  have ha := any_toDs e'.1.1 hd
  cases neg with
  | false =>
    rcases hq with rfl | rfl
    · exact SeqAt.in_list_reads a2 a1 hl (lay_toD p _ e'.1.1 r1) hdp (by rw [ha]; exact ⟨.bl _, H, I, rfl, o⟩)
    · exact SeqAt.in_tuple_reads a2 a1 hl (lay_toD p _ e'.1.1 r1) hdp (by rw [ha]; exact ⟨.bl _, H, I, rfl, o⟩)
  | true =>
    rcases hq with rfl | rfl
    · exact SeqAt.notIn_list_reads a2 a1 hl (lay_toD p _ e'.1.1 r1) hdp (by rw [ha]; exact ⟨.bl _, H, I, rfl, o⟩)
    · exact SeqAt.notIn_tuple_reads a2 a1 hl (lay_toD p _ e'.1.1 r1) hdp (by rw [ha]; exact ⟨.bl _, H, I, rfl, o⟩)
theorem contains_dec (c : Nat) (y : List Nat) : y.contains c = decide (c ∈ y) := by
  by_cases h : c ∈ y <;> simp [h]
def okCmp (K : PySem.W.Frag) (op : CmpOp) : R2 := fun x y H Q => ∃ (r : Rc) (p q : PV) (c : Bool), r.K = K ∧ r.Al H ∧ Rep r H x p ∧ Rep r H y q ∧ cmpop op p q = .ok c ∧ Q (.bl c) H
theorem and_sp {a b : Bool} (h : (a && b) = true) : a = true ∧ b = true := by simpa using h
theorem tkey_flat {p : PV} {k : List Key} (h : tkeyOf p = some k) : keyB p = false := by
  cases p <;> first | rfl | (cases h; done)
theorem RepT.notFlat {r : Rc} {H : Hp} {kvs : List (List Key × V)} {ps : List (PV × PV)} (h : RepT r H kvs ps) (n : ps ≠ []) : flatD ps = false := by
  cases h with
  | nil => exact (n rfl).elim
  | cons hk _ _ =>
    show (keyB _ && _) = false
    rw [tkey_flat hk]; rfl
theorem keyV {r : Rc} {H : Hp} {p : PV} {k : Key} {x : V} (hk : keyOf p = some k) (h : Rep r H x p) : x = kV k := by
  cases h <;> cases hk <;> rfl
/-- what a dict of ints and texts holds -/
theorem dic_get {r : Rc} {H : Hp} {d y : V} {ps : List (PV × PV)} {p : PV} (rd : Rep r H d (.dic ps)) (rp : Rep r H y p) (hf : (keyB p && flatD ps) = true) :
    ∃ a o, d = .ref a ∧ DGet H a y o ∧ (∀ x, dget ps p = some x → ∃ v, o = some v ∧ Rep r H v x) ∧ (dget ps p = none → o = none) ∧ o.isSome = (dget ps p).isSome := by
  obtain ⟨h1, h2⟩ := and_sp hf
  obtain ⟨k, hk⟩ := keyB_ok h1
  cases rd with
  | dicK n s h =>
    obtain ⟨g1, g2⟩ := h.get hk
    refine ⟨_, valV _ k, rfl, by rw [keyV hk rp]; exact .k s, g1, g2, ?_⟩
    cases e : dget ps p with
    | none => rw [g2 e]; rfl
    | some x => obtain ⟨v, e2, _⟩ := g1 x e; rw [e2]; rfl
  | dicT n s h m => rw [h.notFlat m] at h2; cases h2
theorem din_ok (hu : X.A.units + 1 < cLine) (neg : Bool) : OpR X (compareOp (if neg then .NotIn else .In)) (fun x y H Q => ∃ (r : Rc) (p : PV) (ps : List (PV × PV)), Rep r H x p ∧ Rep r H y (.dic ps) ∧ (keyB p && flatD ps) = true ∧ Q (.bl (if neg then !(dget ps p).isSome else (dget ps p).isSome)) H) := by
  intro pins s σ H x y v u Q I rx ry h
  obtain ⟨r, p, ps, r1, r2, hf, o⟩ := h
  obtain ⟨a, ov, rfl, g, _, _, e⟩ := dic_get r2 r1 hf
  obtain rfl : u = Value.ref a := ry
  rw [← e] at o
  cases neg with
  | false => exact d_in hu I g rx fun s' I' => ⟨.bl _, H, I', rfl, o⟩
  | true => exact d_notIn hu I g rx fun s' I' => ⟨.bl _, H, I', rfl, o⟩
theorem isIn_ok (hu : X.A.units + 65 < cLine) (neg : Bool) : OpR X (compareOp (if neg then .NotIn else .In)) (fun x y H Q => ∃ (r : Rc) (p q : PV) (c : Bool), r.K = X.K ∧ r.Al H ∧ Rep r H x p ∧ Rep r H y q ∧ isIn p q = .ok c ∧ Q (.bl (if neg then !c else c)) H) := by
  refine OpR.by fun x y H Q h => ?_
  obtain ⟨r, p, q, c, hK, hA, r1, r2, e, o⟩ := h
  revert e
  unfold isIn
  split
  · intro e; obtain ⟨k, e⟩ := need_ok e; cases e
    exact ⟨_, in_core hu hK neg, _, _, _, .inl rfl, r1, r2, k, o⟩
  · intro e; obtain ⟨k, e⟩ := need_ok e; cases e
    exact ⟨_, in_core hu hK neg, _, _, _, .inr rfl, r1, r2, k, o⟩
  · unfold inStr
    split
    · rename_i c0
      intro e; cases e
      cases r1
      cases r2
      rw [contains_dec] at o
      cases neg with
      | false => exact ⟨_, op_in_sign, _, _, rfl, rfl, o⟩
      | true => exact ⟨_, op_notIn_sign, _, _, rfl, rfl, o⟩
    · intro e; cases e
  · intro e
    obtain ⟨k, e⟩ := need_ok e; cases e
    exact ⟨_, din_ok (by omega) neg, r, _, _, r1, r2, k, o⟩
  · intro e; cases e
theorem cmpop_ok (hu : X.A.units + 65 < cLine) (op : CmpOp) : OpR X (compareOp op) (okCmp X.K op) := by
  refine OpR.by fun x y H Q h => ?_
  obtain ⟨r, p, q, c, hK, hA, r1, r2, e, o⟩ := h
  revert e
  unfold cmpop
  split
  · intro e; obtain ⟨k, e⟩ := need_ok e; cases e
    exact ⟨_, eq_ok (by omega) hK, _, _, r1, r2, k, o⟩
  · intro e; obtain ⟨k, e⟩ := need_ok e; cases e
    exact ⟨_, ne_ok (by omega) hK, _, _, r1, r2, k, o⟩
  · intro e; cases e; cases r1; cases r2; exact ⟨_, op_lt, _, _, rfl, rfl, o⟩
  · intro e; cases e; cases r1; cases r2; exact ⟨_, op_le, _, _, rfl, rfl, o⟩
  · intro e; cases e; cases r1; cases r2; exact ⟨_, op_gt, _, _, rfl, rfl, o⟩
  · intro e; cases e; cases r1; cases r2; exact ⟨_, op_ge, _, _, rfl, rfl, o⟩
  · intro e; obtain ⟨k, e⟩ := need_ok e; cases e
    exact ⟨_, lt_ok (by omega) hK, _, _, r1, r2, k, o⟩
  · intro e; obtain ⟨k, e⟩ := need_ok e; cases e
    exact ⟨_, gt_ok (by omega) hK, _, _, r1, r2, k, o⟩
  · intro e; cases e; cases r2
    refine ⟨_, op_isN, rfl, ?_⟩
    cases r1 <;> first | exact o | (simpa using o)
  · intro e; cases e; cases r2
    refine ⟨_, op_notN, rfl, ?_⟩
    cases r1 <;> first | exact o | (simpa using o)
  · intro e; cases e; cases r1; cases r2
    exact ⟨_, op_isBl, _, _, rfl, rfl, o⟩
  · intro e; cases e; cases r1; cases r2
    exact ⟨_, op_notBl, _, _, rfl, rfl, o⟩
  · intro e
    exact ⟨_, isIn_ok hu false, r, _, _, c, hK, hA, r1, r2, e, o⟩
  · intro e
    obtain ⟨k, e1, e2⟩ := bind_ok e
    cases e2
    exact ⟨_, isIn_ok hu true, r, _, _, k, hK, hA, r1, r2, e1, o⟩
  · intro e; cases e
/-! ### truth -/
theorem Reps.isEmpty {r : Rc} {H : Hp} {vs : List V} {xs : List PV} (h : Reps r H vs xs) : vs.isEmpty = xs.isEmpty := by
  cases h <;> rfl
theorem truth_ok : TruR X (fun x H Q => ∃ (r : Rc) (p : PV) (c : Bool), r.K = X.K ∧ Rep r H x p ∧ truth p = .ok c ∧ Q c H) := by
  intro pins s σ H x v Q I rx h
  obtain ⟨r, p, c, hK, rp, e, q⟩ := h
  refine tru_ok pins s σ H x v Q I rx ⟨c, ?_, q⟩
  cases rp with
  | non => cases e; rfl
  | bl b => cases e; rfl
  | int i => cases e; rfl
  | str x g =>
    cases e
    refine ⟨g.len, ?_⟩
    rw [str_len]
    cases x with
    | nil => rfl
    | cons a t => simp; omega
  | tup s h =>
    cases e
    exact .inr (.inl ⟨_, hK ▸ s, by rw [h.isEmpty]⟩)
  | lst n s h =>
    cases e
    exact .inl ⟨_, SqL.of s, by rw [h.isEmpty]⟩
  | dicK => cases e
  | dicT => cases e
  | scr => cases e
  | scrK => cases e
  | ob => cases e
/-! ### places -/
theorem Reps.at {r : Rc} {H : Hp} {vs : List V} {xs : List PV} {i : Int} {x : PV} (h : Reps r H vs xs) (e : at? xs i = some x) : ∃ v, atI vs i = some v ∧ Rep r H v x := by
  have e' : (ixN xs.length i).bind (fun j => xs[j]?) = some x := e
  cases z : ixN xs.length i with
  | none => rw [z] at e'; cases e'
  | some j =>
    rw [z] at e'
    obtain ⟨v, h1, h2⟩ := h.get (show xs[j]? = some x from e')
    refine ⟨v, ?_, h2⟩
    show (ixN vs.length i).bind (fun j => vs[j]?) = some v
    rw [h.length, z]
    exact h1
def isDic : PV → Bool
  | .dic _ => true
  | _ => false
theorem index_ok (hu : X.A.units + 1 < cLine) : IxR X (fun x y H Q => ∃ (r : Rc) (p q z : PV), r.K = X.K ∧ Rep r H x p ∧ Rep r H y q ∧ index p q = .ok z ∧ OutOld r H z Q) := by
  intro value slc pins s σ H x y v u Q I rx ry h
  obtain ⟨r, p, q, z, hK, r1, r2, e, o⟩ := h
  by_cases hd : isDic p = true
  · cases p with
    | dic ps =>
      have e : need ((keyB q && flatD ps) = true) (ofOpt (dget ps q)) = .ok z := by
        cases q <;> exact e
      obtain ⟨hf, e⟩ := need_ok e
      have e := ofOpt_ok e
      obtain ⟨a, ov, rfl, g, g1, _, _⟩ := dic_get r1 r2 hf
      obtain ⟨w', rfl, rw'⟩ := g1 z e
      obtain rfl : v = Value.ref a := rx
      intro hs
      exact tail_any (dict_typeIs I g) slot_dict_getitem.lookup (d_getItem hu I g ry fun w2 s' I' rv => ⟨w', H, I', rv, o.at rw'⟩) hs
    | _ => cases hd
  refine ix_seq value slc pins s σ H x y v u Q I rx ry ?_
  revert e
  unfold index
  split
  · intro e
    have e := ofOpt_ok e
    cases r2
    cases r1 with
    | lst n s h =>
      obtain ⟨w', h1, h2⟩ := h.at e
      exact .inl ⟨_, _, _, _, rfl, rfl, SqL.of s, h1, o.at h2⟩
  · intro e
    have e := ofOpt_ok e
    cases r2
    cases r1 with
    | tup s h =>
      obtain ⟨w', h1, h2⟩ := h.at e
      exact .inr (.inl ⟨_, _, _, _, rfl, rfl, hK ▸ s, h1, o.at h2⟩)
  · rename_i xs i
    intro e
    have e := ofOpt_ok e
    cases r2
    cases r1 with
    | str _ g =>
      cases e2 : at? xs i with
      | none => rw [e2] at e; cases e
      | some c =>
        rw [e2] at e
        cases e
        refine .inr (.inr ⟨_, _, c, rfl, rfl, g.len, ?_, ?_⟩)
        · show atI xs.toArray.toList i = some c
          exact e2
        · refine o.at (v := .str ⟨[c].toArray⟩) (.str _ ⟨by show 1 ≤ sizeLine; decide, fun d hd => ?_⟩)
          have : d = c := by simpa using hd
          subst this
          refine g.2 d ?_
          cases z : place xs.length i with
          | none => rw [at?, z] at e2; cases e2
          | some j =>
            rw [at?, z] at e2
            exact List.mem_of_getElem? (show xs[j]? = some d from e2)
  · exact (hd rfl).elim
  · intro e; cases e
/-! ### slices -/
theorem Reps.cut {r : Rc} {H : Hp} {vs : List V} {xs : List PV} (h : Reps r H vs xs) (lo hi : Option Int) : Reps r H (cutV vs lo hi) (cut xs lo hi) := by
  have e : cutV vs lo hi = (vs.drop (sIx xs.length 0 lo)).take (sIx xs.length xs.length hi - sIx xs.length 0 lo) := by
    show (vs.drop (sIx vs.length 0 lo)).take (sIx vs.length vs.length hi - sIx vs.length 0 lo) = _
    rw [h.length]
  rw [e]
  exact (h.drop _).take _
theorem reps_ints (r : Rc) (H : Hp) : ∀ ns : List Int, Reps r H (ns.map V.int) (ns.map PV.int)
  | [] => .nil
  | n :: ns => .cons (.int n) (reps_ints r H ns)
theorem SlR.by {r' : V → Option Int → Option Int → Hp → VK → Prop} (h : ∀ x lo hi H Q, r' x lo hi H Q → ∃ r, SlR X r ∧ r x lo hi H Q) : SlR X r' :=
  fun pins s σ H x v vl vu lo hi sl Q I rx hs pl pu q => by
    obtain ⟨r, hr, q'⟩ := h _ _ _ _ _ q
    exact hr pins s σ H x v vl vu lo hi sl Q I rx hs pl pu q'
theorem cut_le {α : Type} (xs : List α) (lo hi : Option Int) : (cut xs lo hi).length ≤ xs.length := by
  show ((xs.drop _).take _).length ≤ _
  rw [List.length_take, List.length_drop]; omega
theorem cut_mem {α : Type} {xs : List α} {lo hi : Option Int} {a : α} (h : a ∈ cut xs lo hi) : a ∈ xs :=
  List.mem_of_mem_drop (List.mem_of_mem_take h)
theorem goodS.cut {x : List Nat} (h : goodS x) (lo hi : Option Int) : goodS (cut x lo hi) :=
  ⟨Nat.le_trans (cut_le _ _ _) h.1, fun c hc => h.2 c (cut_mem hc)⟩
theorem slice_ok : SlR X (fun x lo hi H Q => ∃ (r : Rc) (p z : PV), r.K = X.K ∧ r.Al H ∧ Rep r H x p ∧ slice p lo hi = .ok z ∧ Out r H z Q) := by
  refine SlR.by fun x lo hi H Q h => ?_
  obtain ⟨r, p, z, hK, hA, rp, e, o⟩ := h
  revert e
  unfold slice
  cases rp with
  | lst n s h =>
    intro e; cases e
    exact ⟨_, sl_list, _, _, rfl, SqL.of s, fun p n => o.lst hA (h.cut lo hi) p n⟩
  | tup s h =>
    intro e; cases e
    refine ⟨_, sl_tupA, _, _, rfl, hK ▸ s, fun hw => ?_, fun _ p n => o.tup (h.cut lo hi) p n⟩
    refine o.at (v := .ref _) (.tup s ?_) rfl
    have hw1 : sIx _ 0 lo = 0 := hw.1
    have hw2 : sIx _ _ hi = _ := hw.2
    have hc := h.cut lo hi
    have e : cutV _ lo hi = _ := show (List.drop _ _).take _ = _ from by
      rw [show HT.sIx _ 0 lo = 0 from hw.1, show HT.sIx _ _ hi = _ from hw.2, List.drop_zero, Nat.sub_zero, List.take_length]
    rw [e] at hc
    exact hc
  | str x g =>
    intro e; cases e
    refine ⟨_, sl_str, _, rfl, g.len, ?_⟩
    have e : cutS ⟨x.toArray⟩ lo hi = ⟨(cut x lo hi).toArray⟩ := by
      show (⟨_⟩ : Str) = _
      rw [str_len]
      rfl
    rw [e]
    exact o.at (.str _ (g.cut lo hi)) rfl
  | @scr a ns h n =>
    intro e; cases e
    exact ⟨_, sl_list, _, _, rfl, .inl h, fun p n => o.lst hA ((reps_ints r H ns).cut lo hi) p n⟩
  | @scrK a ns h =>
    intro e; cases e
    exact ⟨_, sl_list, _, _, rfl, .inr (hK ▸ h), fun p n => o.lst hA ((reps_ints r H ns).cut lo hi) p n⟩
  | non => intro e; cases e
  | bl => intro e; cases e
  | int => intro e; cases e
  | dicK => intro e; cases e
  | dicT => intro e; cases e
  | ob => intro e; cases e
/-! ### calls of builtins -/
theorem CallR.by {f : Value} {r' : List V → Hp → VK → Prop} (h : ∀ xs H Q, r' xs H Q → ∃ r : List V → Hp → VK → Prop, CallR X f r ∧ r xs H Q) : CallR X f r' :=
  fun pins s σ H xs us Q I rx q => by
    obtain ⟨r, hr, q'⟩ := h xs H Q q
    exact hr pins s σ H xs us Q I rx q'
theorem reps_allInts {r : Rc} {H : Hp} : ∀ {vs : List V} {xs : List PV} {ns : List Int}, Reps r H vs xs → allInts xs = some ns → vs = ns.map V.int
  | _, _, _, .nil, e => by cases e; rfl
  | _, .int i :: xs, ns, .cons h t, e => by
    cases h
    cases z : allInts xs with
    | none => simp [allInts, z] at e
    | some ms =>
      simp only [allInts, z, Option.map_some, Option.some.injEq] at e
      subst e
      rw [reps_allInts t z]; rfl
  | _, .non :: _, _, .cons h t, e => by simp [allInts] at e
  | _, .bl _ :: _, _, .cons h t, e => by simp [allInts] at e
  | _, .str _ :: _, _, .cons h t, e => by simp [allInts] at e
  | _, .tup _ :: _, _, .cons h t, e => by simp [allInts] at e
  | _, .lst _ :: _, _, .cons h t, e => by simp [allInts] at e
  | _, .dic _ :: _, _, .cons h t, e => by simp [allInts] at e
  | _, .scr _ :: _, _, .cons h t, e => by simp [allInts] at e
  | _, .ob _ _ :: _, _, .cons h t, e => by simp [allInts] at e
theorem reps_allBls {r : Rc} {H : Hp} : ∀ {vs : List V} {xs : List PV} {ns : List Bool}, Reps r H vs xs → allBls xs = some ns → vs = ns.map V.bl
  | _, _, _, .nil, e => by cases e; rfl
  | _, .bl i :: xs, ns, .cons h t, e => by
    cases h
    cases z : allBls xs with
    | none => simp [allBls, z] at e
    | some ms =>
      simp only [allBls, z, Option.map_some, Option.some.injEq] at e
      subst e
      rw [reps_allBls t z]; rfl
  | _, .non :: _, _, .cons h t, e => by simp [allBls] at e
  | _, .int _ :: _, _, .cons h t, e => by simp [allBls] at e
  | _, .str _ :: _, _, .cons h t, e => by simp [allBls] at e
  | _, .tup _ :: _, _, .cons h t, e => by simp [allBls] at e
  | _, .lst _ :: _, _, .cons h t, e => by simp [allBls] at e
  | _, .dic _ :: _, _, .cons h t, e => by simp [allBls] at e
  | _, .scr _ :: _, _, .cons h t, e => by simp [allBls] at e
  | _, .ob _ _ :: _, _, .cons h t, e => by simp [allBls] at e
theorem reps_allStrs {r : Rc} {H : Hp} : ∀ {vs : List V} {xs : List PV} {ns : List (List Nat)}, Reps r H vs xs → allStrs xs = some ns → vs = (ns.map fun x => (⟨x.toArray⟩ : Str)).map V.str ∧ ∀ x ∈ ns, goodS x
  | _, _, _, .nil, e => by cases e; exact ⟨rfl, fun x hx => by cases hx⟩
  | _, .str i :: xs, ns, .cons h t, e => by
    cases h with
    | str _ g =>
      cases z : allStrs xs with
      | none => simp [allStrs, z] at e
      | some ms =>
        simp only [allStrs, z, Option.map_some, Option.some.injEq] at e
        subst e
        obtain ⟨e1, e2⟩ := reps_allStrs t z
        refine ⟨by rw [e1]; rfl, fun x hx => ?_⟩
        rcases List.mem_cons.mp hx with rfl | hx
        · exact g
        · exact e2 x hx
  | _, .non :: _, _, .cons h t, e => by simp [allStrs] at e
  | _, .int _ :: _, _, .cons h t, e => by simp [allStrs] at e
  | _, .bl _ :: _, _, .cons h t, e => by simp [allStrs] at e
  | _, .tup _ :: _, _, .cons h t, e => by simp [allStrs] at e
  | _, .lst _ :: _, _, .cons h t, e => by simp [allStrs] at e
  | _, .dic _ :: _, _, .cons h t, e => by simp [allStrs] at e
  | _, .scr _ :: _, _, .cons h t, e => by simp [allStrs] at e
  | _, .ob _ _ :: _, _, .cons h t, e => by simp [allStrs] at e
def okCall (K : PySem.W.Frag) (f : List PV → R PV) : List V → Hp → VK → Prop := fun xs H Q => ∃ (r : Rc) (ps : List PV) (z : PV), r.K = K ∧ r.Al H ∧ Reps r H xs ps ∧ f ps = .ok z ∧ Out r H z Q
theorem reps1 {r : Rc} {H : Hp} {vs : List V} {x : PV} (h : Reps r H vs [x]) : ∃ v, vs = [v] ∧ Rep r H v x := by
  cases h with
  | cons h t => cases t; exact ⟨_, rfl, h⟩
theorem reps2 {r : Rc} {H : Hp} {vs : List V} {x y : PV} (h : Reps r H vs [x, y]) : ∃ v w, vs = [v, w] ∧ Rep r H v x ∧ Rep r H w y := by
  cases h with
  | cons h t =>
    obtain ⟨w, rfl, h2⟩ := reps1 t
    exact ⟨_, _, rfl, h, h2⟩
theorem bindOpt {α β : Type} {x : Option α} {f : α → β} {z : β} (h : x.map f = some z) : ∃ a, x = some a ∧ f a = z := by
  cases x with
  | none => cases h
  | some a => exact ⟨a, rfl, Option.some.inj h⟩
theorem foldMax : ∀ (r : List Int) (x : Int), (r.foldl (fun a b => if b > a then b else a) x = x ∨ r.foldl (fun a b => if b > a then b else a) x ∈ r) ∧ x ≤ r.foldl (fun a b => if b > a then b else a) x ∧ ∀ y ∈ r, y ≤ r.foldl (fun a b => if b > a then b else a) x
  | [], x => ⟨.inl rfl, Int.le_refl _, fun y hy => by cases hy⟩
  | b :: r, x => by
    obtain ⟨h1, h2, h3⟩ := foldMax r (if b > x then b else x)
    rw [List.foldl_cons]
    have hx : x ≤ (if b > x then b else x) := by split <;> omega
    have hb : b ≤ (if b > x then b else x) := by split <;> omega
    refine ⟨?_, Int.le_trans hx h2, fun y hy => ?_⟩
    · rcases h1 with h1 | h1
      · rw [h1]
        split
        · exact .inr List.mem_cons_self
        · exact .inl rfl
      · exact .inr (List.mem_cons_of_mem _ h1)
    · rcases List.mem_cons.mp hy with e | e
      · rw [e]; exact Int.le_trans hb h2
      · exact h3 y e
theorem foldMin : ∀ (r : List Int) (x : Int), (r.foldl (fun a b => if b < a then b else a) x = x ∨ r.foldl (fun a b => if b < a then b else a) x ∈ r) ∧ r.foldl (fun a b => if b < a then b else a) x ≤ x ∧ ∀ y ∈ r, r.foldl (fun a b => if b < a then b else a) x ≤ y
  | [], x => ⟨.inl rfl, Int.le_refl _, fun y hy => by cases hy⟩
  | b :: r, x => by
    obtain ⟨h1, h2, h3⟩ := foldMin r (if b < x then b else x)
    rw [List.foldl_cons]
    have hx : (if b < x then b else x) ≤ x := by split <;> omega
    have hb : (if b < x then b else x) ≤ b := by split <;> omega
    refine ⟨?_, Int.le_trans h2 hx, fun y hy => ?_⟩
    · rcases h1 with h1 | h1
      · rw [h1]
        split
        · exact .inr List.mem_cons_self
        · exact .inl rfl
      · exact .inr (List.mem_cons_of_mem _ h1)
    · rcases List.mem_cons.mp hy with e | e
      · rw [e]; exact Int.le_trans h2 hb
      · exact h3 y e
theorem maxL_spec {ns : List Int} {m : Int} (h : maxL ns = some m) : m ∈ ns ∧ ∀ y ∈ ns, y ≤ m := by
  cases ns with
  | nil => cases h
  | cons x r =>
    obtain ⟨h1, h2, h3⟩ := foldMax r x
    cases h
    refine ⟨?_, fun y hy => ?_⟩
    · rcases h1 with h1 | h1
      · rw [h1]; exact List.mem_cons_self
      · exact List.mem_cons_of_mem _ h1
    · rcases List.mem_cons.mp hy with e | e
      · rw [e]; exact h2
      · exact h3 y e
theorem minL_spec {ns : List Int} {m : Int} (h : minL ns = some m) : m ∈ ns ∧ ∀ y ∈ ns, m ≤ y := by
  cases ns with
  | nil => cases h
  | cons x r =>
    obtain ⟨h1, h2, h3⟩ := foldMin r x
    cases h
    refine ⟨?_, fun y hy => ?_⟩
    · rcases h1 with h1 | h1
      · rw [h1]; exact List.mem_cons_self
      · exact List.mem_cons_of_mem _ h1
    · rcases List.mem_cons.mp hy with e | e
      · rw [e]; exact h2
      · exact h3 y e
theorem reps_prs {r : Rc} {H : Hp} : ∀ {vs : List V} {xs : List PV} {qs : List (Int × Int)}, Reps r H vs xs → allPairs xs = some qs → Prs r.K H vs qs
  | _, _, _, .nil, e => by cases e; exact .nil
  | _, x :: xs, qs, .cons h t, e => by
    unfold allPairs at e
    split at e
    · rename_i heq; cases heq
    · rename_i i j r' heq
      cases heq
      obtain ⟨qs', e1, e2⟩ := bindOpt e
      subst e2
      cases h with
      | tup s rs =>
        cases rs with
        | cons h1 t1 =>
          cases t1 with
          | cons h2 t2 =>
            cases t2
            cases h1
            cases h2
            exact .cons s (reps_prs t e1)
    · cases e
theorem prs_reps {r : Rc} {H : Hp} : ∀ {vs : List V} {qs : List (Int × Int)}, Prs r.K H vs qs → Reps r H vs (qs.map fun q => .tup [.int q.1, .int q.2])
  | _, _, .nil => .nil
  | _, _, .cons s t => .cons (.tup s (.cons (.int _) (.cons (.int _) .nil))) (prs_reps t)
/-! min, max of a tuple of ints -/
section
variable {prog : Program} {w : World} {A : Around} {E : Value → Shared → Prop} {s : Shared} {l : Addr}
theorem iter_intTuple {xs : Array (Int × Tok)} {Q : Value → Shared → Prop} (hl : s.heap.IsTuple l (intItems xs))
    (h : ∀ s₂ : Shared, s₂ = { s with heap := s.heap.push { cls := .type "tuple_iterator", data := .fields #[.ref l, .int 0 0] } } →
      (s₂.heap.IsTupleIter s.heap.objs.size l 0 ∧ s₂.heap.IsTuple l (intItems xs)) → (∀ b ∈ [s.heap.objs.size, l], b < s₂.heap.objs.size) → l ≠ s.heap.objs.size → Q (.ref s.heap.objs.size) s₂) :
    wpAny (model prog w) A (pyIter (.ref l)) Q E s := by
  have hlt : l < s.heap.objs.size := by obtain ⟨_, e, _⟩ := hl; exact Heap.lt_size e
  refine wpAny_pyIter_tuple hl (h _ rfl ⟨⟨_, Heap.get?_push_size _ rfl, rfl, rfl⟩, hl.push _⟩ (fun b hb => ?_) (Nat.ne_of_lt hlt))
  show b < (s.heap.push _).objs.size
  rw [Heap.size_push]
  rcases List.mem_cons.mp hb with rfl | hb
  · exact Nat.lt_succ_self _
  · rcases List.mem_cons.mp hb with rfl | hb
    · exact Nat.lt_succ_of_lt hlt
    · cases hb
theorem old_keptT {h' : Heap} (hk : ∀ b o, b ∉ [s.heap.objs.size] → (s.heap.push { cls := .type "tuple_iterator", data := .fields #[.ref l, .int 0 0] }).get? b = some o → h'.get? b = some o) :
    ∀ b o, s.heap.get? b = some o → h'.get? b = some o := fun b o e => by
  refine hk b o (fun hm => ?_) (Heap.get?_push_of_some _ e)
  rcases List.mem_cons.mp hm with e1 | hm
  · exact absurd (e1 ▸ Heap.lt_size e) (Nat.lt_irrefl _)
  · cases hm
theorem maxT_raw {its : List Value} {ns : List Int} {Q : Value → Shared → Prop} (hh : A.handled = none) (hl : s.heap.IsTuple l its.toArray) (hi : IntsAre its ns) (hne : 0 < ns.length)
    (h : ∀ h' tk M t', (∀ b o, s.heap.get? b = some o → h'.get? b = some o) → M ∈ ns → (∀ a, a ∈ ns → a ≤ M) → Q (.int M t') { s with heap := h', toks := tk }) : wpAny (model prog w) A (call (.builtin "max") [.ref l]) Q E s := by
  obtain ⟨xs, e⟩ := hi.allInts.items
  have hn : numsOf (intItems xs).toList = ns := by rw [← e]; exact hi.numsOf
  rw [nums_intItems] at hn
  subst hn
  rw [e] at hl
  have hsz : 0 < xs.size := by simpa using hne
  refine call_max_walk (iter_intTuple hl fun s₂ e st hfp hlI => ?_)
  subst e
  refine ⟨_, _, _, _, _, _, _, rfl, Walks.tuple (A := A.in1) hh _ l hlI (intItems xs), st, hfp, by simpa [intItems] using hne, CmpOf.ints_gt (numAt xs) (fun _ _ => intItems_at), fun v h' tk hP hk => ?_⟩
  have hv : (intItems xs)[argBest (fun i j => decide (numAt xs i > numAt xs j)) (xs.size - 1)]? = some v := by simpa [intItems] using hP
  obtain ⟨t, rfl⟩ := intItems_at hv
  obtain ⟨h1, h2⟩ := argBest_gt (numAt xs) (xs.size - 1)
  refine h h' tk _ t (old_keptT hk) ?_ fun a ha => ?_
  · rw [numAt_eq]; exact PySem.getD_mem (by rw [List.length_map, Array.length_toList]; omega)
  · obtain ⟨j, hj, rfl⟩ := mem_getD ha
    rw [List.length_map, Array.length_toList] at hj
    rw [← numAt_eq]; exact h2 j (by omega)
theorem minT_raw {its : List Value} {ns : List Int} {Q : Value → Shared → Prop} (hh : A.handled = none) (hl : s.heap.IsTuple l its.toArray) (hi : IntsAre its ns) (hne : 0 < ns.length)
    (h : ∀ h' tk M t', (∀ b o, s.heap.get? b = some o → h'.get? b = some o) → M ∈ ns → (∀ a, a ∈ ns → M ≤ a) → Q (.int M t') { s with heap := h', toks := tk }) : wpAny (model prog w) A (call (.builtin "min") [.ref l]) Q E s := by
  obtain ⟨xs, e⟩ := hi.allInts.items
  have hn : numsOf (intItems xs).toList = ns := by rw [← e]; exact hi.numsOf
  rw [nums_intItems] at hn
  subst hn
  rw [e] at hl
  have hsz : 0 < xs.size := by simpa using hne
  refine call_min_walk (iter_intTuple hl fun s₂ e st hfp hlI => ?_)
  subst e
  refine ⟨_, _, _, _, _, _, _, rfl, Walks.tuple (A := A.in1) hh _ l hlI (intItems xs), st, hfp, by simpa [intItems] using hne, CmpOf.ints_lt (numAt xs) (fun _ _ => intItems_at), fun v h' tk hP hk => ?_⟩
  have hv : (intItems xs)[argBest (fun i j => decide (numAt xs i < numAt xs j)) (xs.size - 1)]? = some v := by simpa [intItems] using hP
  obtain ⟨t, rfl⟩ := intItems_at hv
  obtain ⟨h1, h2⟩ := argBest_lt (numAt xs) (xs.size - 1)
  refine h h' tk _ t (old_keptT hk) ?_ fun a ha => ?_
  · rw [numAt_eq]; exact PySem.getD_mem (by rw [List.length_map, Array.length_toList]; omega)
  · obtain ⟨j, hj, rfl⟩ := mem_getD ha
    rw [List.length_map, Array.length_toList] at hj
    rw [← numAt_eq]; exact h2 j (by omega)
end
def rSumT (K : PySem.W.Frag) : List V → Hp → VK → Prop := fun vs H Q => ∃ (a : Addr) (ns : List Int), vs = [V.ref a] ∧ SqT K H a (ns.map V.int) ∧ Q (.int ns.sum) H
theorem cr_sumT (hc : X.calm = true) : CallR X (.builtin "sum") (rSumT X.K) := by
  intro pins s σ H vs us Q I r h
  obtain ⟨a, ns, rfl, hs, q⟩ := h
  obtain ⟨its, rv, hl, _⟩ := I.tuple hs
  rw [Vals.ref1 r]
  obtain ⟨xs, e⟩ := rv.ints.allInts.items
  have hn : numsOf (intItems xs).toList = ns := by rw [← e]; exact rv.ints.numsOf
  rw [nums_intItems] at hn
  have hl : s.heap.IsTuple a (intItems xs) := e ▸ hl
  refine call_sum_walkG (iter_intTuple hl fun s₂ e2 st hfp hlI => ?_)
  subst e2
  refine ⟨_, _, _, _, _, _, numAt xs, rfl, Walks.tuple (A := X.A.in1) (I.ok.hd hc) _ a hlI (intItems xs), st, hfp, (fun _ _ => intItems_at), fun h' tk t' hk => ?_⟩
  have hp : preSum (numAt xs) (intItems xs).size = ns.sum := by
    have : (intItems xs).size = xs.size := by simp [intItems]
    rw [this, preSum_eq, List.take_of_length_le (by simp), hn]
  rw [hp]
  exact ⟨.int _, H, I.kept (old_keptT hk), ⟨_, rfl⟩, q⟩
def rMaxT (K : PySem.W.Frag) : List V → Hp → VK → Prop := fun vs H Q => ∃ (a : Addr) (ns : List Int), vs = [V.ref a] ∧ SqT K H a (ns.map V.int) ∧ 0 < ns.length ∧ ∀ m, m ∈ ns → (∀ y, y ∈ ns → y ≤ m) → Q (.int m) H
def rMinT (K : PySem.W.Frag) : List V → Hp → VK → Prop := fun vs H Q => ∃ (a : Addr) (ns : List Int), vs = [V.ref a] ∧ SqT K H a (ns.map V.int) ∧ 0 < ns.length ∧ ∀ m, m ∈ ns → (∀ y, y ∈ ns → m ≤ y) → Q (.int m) H
theorem cr_maxT (hc : X.calm = true) : CallR X (.builtin "max") (rMaxT X.K) := by
  intro pins s σ H vs us Q I r h
  obtain ⟨a, ns, rfl, hs, hne, q⟩ := h
  obtain ⟨its, rv, hl, _⟩ := I.tuple hs
  rw [Vals.ref1 r]
  exact maxT_raw (I.ok.hd hc) hl rv.ints hne fun h' tk m t' hk h1 h2 => ⟨.int _, H, I.kept hk, ⟨_, rfl⟩, q m h1 h2⟩
theorem cr_minT (hc : X.calm = true) : CallR X (.builtin "min") (rMinT X.K) := by
  intro pins s σ H vs us Q I r h
  obtain ⟨a, ns, rfl, hs, hne, q⟩ := h
  obtain ⟨its, rv, hl, _⟩ := I.tuple hs
  rw [Vals.ref1 r]
  exact minT_raw (I.ok.hd hc) hl rv.ints hne fun h' tk m t' hk h1 h2 => ⟨.int _, H, I.kept hk, ⟨_, rfl⟩, q m h1 h2⟩
/-! ### sorted of tuples -/
theorem vals_each {r : Rc} {H : Hp} : ∀ {vs : List V} {us : List Value} {xs : List PV}, Vals vs us → Reps r H vs xs → PySem.W.EachIs (fun u x => ∃ v, RelV v u ∧ Rep r H v x) us xs
  | _, _, _, .nil, h => by cases h; exact .nil
  | _, _, _, .cons r rr, h => by
    cases h with
    | cons h1 h2 => exact .cons ⟨_, r, h1⟩ (vals_each rr h2)
theorem each_vals {r : Rc} {H : Hp} : ∀ {us : List Value} {xs : List PV}, PySem.W.EachIs (fun u x => ∃ v, RelV v u ∧ Rep r H v x) us xs → ∃ vs, Vals vs us ∧ Reps r H vs xs
  | _, _, .nil => ⟨[], .nil, .nil⟩
  | _, _, .cons ⟨v, h1, h2⟩ t => by
    obtain ⟨vs, a, b⟩ := each_vals t
    exact ⟨v :: vs, .cons h1 a, .cons h2 b⟩
theorem each_reads {X : Cx} {pins : List (Addr × Obj)} {σ : L2.St} {H : Hp} {s : Shared} {r : Rc} (I : Inv X pins σ H s) (hK : r.K = X.K) : ∀ {vs : List V} {us : List Value} {xs : List PV}, areData xs = true → Vals vs us → Reps r H vs xs → PySem.W.EachIs (fun u x => ∃ as, Reads s.heap u (toD x) as) us xs
  | _, _, _, _, .nil, h => by cases h; exact .nil
  | _, _, x :: xs, d, .cons r1 rr, h => by
    have d' : isData x = true ∧ areData xs = true := by simpa [areData] using d
    cases h with
    | cons h1 h2 => exact .cons (Dp.reads I _ _ _ (hK ▸ h1.dp x _ d'.1) r1) (each_reads I hK d'.2 rr h2)
theorem deep_mem {x : PV} : ∀ {xs : List PV}, x ∈ xs → deep x ≤ deeps xs
  | y :: ys, h => by
    show deep x ≤ max (deep y) (deeps ys)
    rcases List.mem_cons.mp h with rfl | h
    · omega
    · have := deep_mem h; omega
theorem data_mem {x : PV} : ∀ {xs : List PV}, areData xs = true → x ∈ xs → isData x = true
  | y :: ys, d, h => by
    have d' : isData y = true ∧ areData ys = true := by simpa [areData] using d
    rcases List.mem_cons.mp h with rfl | h
    · exact d'.1
    · exact data_mem d'.2 h
def rSortD (K : PySem.W.Frag) : List V → Hp → VK → Prop := fun us H Q => ∃ (r : Rc) (a : Addr) (vs : List V) (xs : List PV), r.K = K ∧ us = [.ref a] ∧ SqL K H a vs ∧ Reps r H vs xs ∧
  (xs.all tupNe && arePure xs && areData xs && (xs.all fun x => xs.all fun y => PySem.W.alike (toD x) (toD y)) && decide (deeps xs ≤ 60)) = true ∧ ∀ vs', Reps r H vs' (xs.mergeSort leD) → ∀ p, H p = none → Q (.ref p) (upd H p (.lst vs'))
theorem call_sortD {X : Cx} (hu : X.A.units + 64 < cLine) : CallR X (.builtin "sorted") (rSortD X.K) := by
  intro pins s σ H us vs Q I rv h
  obtain ⟨r, a, ws, xs, hK, rfl, hs, rs, hc, q⟩ := h
  have hc' : ((((xs.all tupNe = true ∧ arePure xs = true) ∧ areData xs = true) ∧ (xs.all fun x => xs.all fun y => PySem.W.alike (toD x) (toD y)) = true)) ∧ deeps xs ≤ 60 := by simpa only [Bool.and_eq_true, decide_eq_true_eq] using hc
  obtain ⟨⟨⟨⟨c1, c2⟩, c3⟩, c4⟩, c5⟩ := hc'
  obtain ⟨its, rw1, hl, hsz⟩ := I.list hs
  rw [Vals.ref1 rv]
  have l1 := rw1.length
  have l2 := rs.length
  refine PySem.W.sorted_data (vs := its) (bs := xs) (enc := toD) hl.isList (vals_each rw1 rs) (each_reads I hK c3 rw1 rs) ?_ ?_ (by omega) (fun b hb => ?_) fun out ho eo => ?_
  · intro d hd d' hd'
    obtain ⟨x, hx, rfl⟩ := List.mem_map.mp hd
    obtain ⟨y, hy, rfl⟩ := List.mem_map.mp hd'
    exact List.all_eq_true.mp (List.all_eq_true.mp c4 x hx) y hy
  · refine .inl fun d hd => ?_
    obtain ⟨x, hx, rfl⟩ := List.mem_map.mp hd
    have := List.all_eq_true.mp c1 x hx
    unfold tupNe at this
    split at this
    · rename_i y ys
      exact ⟨toD y, toDs ys, rfl⟩
    · cases this
  · rw [depth_toD b (data_mem c3 hb)]
    have := deep_mem hb
    omega
  · obtain ⟨vs', v1, v2⟩ := each_vals eo
    obtain ⟨ep, he'⟩ := PyProof.Rows.sortedAll_at s.heap its out.toArray
    have hlen : vs'.length ≤ sizeLine := by have := v2.length; rw [List.length_mergeSort] at this; omega
    refine ⟨.ref _, upd H (s.heap.objs.size + 1) (.lst vs'), I.laid (t' := s.toks) (fun _ _ => PyProof.Rows.sortedAll_old) (Nat.le_succ _) ⟨hlen, out, ep, v1, ?_⟩, rfl, q vs' v2 _ (I.hok.fresh (Nat.le_succ _))⟩
    simpa using he'
theorem builtin_ok (hu : X.A.units + 64 < cLine) (hc : X.calm = true) (f : String) : CallR X (.builtin f) (okCall X.K (builtin f)) := by
  refine CallR.by fun xs H Q h => ?_
  obtain ⟨r, ps, z, hK, hA, rs, e, o⟩ := h
  revert e
  unfold builtin
  split
  · intro e; cases e
    obtain ⟨v, rfl, h⟩ := reps1 rs
    cases h with
    | lst n s h => exact ⟨_, call_len_seq, _, _, rfl, .inl (SqL.of s), by rw [h.length]; exact o.at (.int _) rfl⟩
  · intro e; cases e
    obtain ⟨v, rfl, h⟩ := reps1 rs
    cases h with
    | tup s h => exact ⟨_, call_len_seq, _, _, rfl, .inr (hK ▸ s), by rw [h.length]; exact o.at (.int _) rfl⟩
  · intro e; cases e
    obtain ⟨v, rfl, h⟩ := reps1 rs
    cases h with
    | str x g => exact ⟨_, call_len_str, _, rfl, g.len, by rw [str_len]; exact o.at (.int _) rfl⟩
  · intro e; cases e
    obtain ⟨v, rfl, h⟩ := reps1 rs
    cases h
    exact ⟨_, call_abs, _, rfl, o.at (.int _) rfl⟩
  · intro e; cases e
    obtain ⟨v, w', rfl, h, h2⟩ := reps2 rs
    cases h; cases h2
    exact ⟨_, call_max2 hc, _, _, rfl, o.at (.int _) rfl⟩
  · intro e; cases e
    obtain ⟨v, w', rfl, h, h2⟩ := reps2 rs
    cases h; cases h2
    exact ⟨_, call_min2 hc, _, _, rfl, o.at (.int _) rfl⟩
  · rename_i ys
    intro e
    have e := ofOpt_ok e
    cases z1 : allInts ys with
    | none => rw [z1] at e; cases e
    | some ns =>
      rw [z1] at e; cases e
      obtain ⟨v, rfl, h⟩ := reps1 rs
      cases h with
      | lst n s h =>
        have := reps_allInts h z1
        subst this
        exact ⟨_, cr_sum hc, _, ns, rfl, SqL.of s, o.at (.int _) rfl⟩
  · rename_i ys
    intro e
    have e := ofOpt_ok e
    cases z1 : allBls ys with
    | none => rw [z1] at e; cases e
    | some ns =>
      rw [z1] at e; cases e
      obtain ⟨v, rfl, h⟩ := reps1 rs
      cases h with
      | lst n s h =>
        have := reps_allBls h z1
        subst this
        exact ⟨_, cr_any hc, _, ns, rfl, SqL.of s, o.at (.bl _) rfl⟩
  · rename_i ys
    intro e
    have e := ofOpt_ok e
    cases z1 : allBls ys with
    | none => rw [z1] at e; cases e
    | some ns =>
      rw [z1] at e; cases e
      obtain ⟨v, rfl, h⟩ := reps1 rs
      cases h with
      | lst n s h =>
        have := reps_allBls h z1
        subst this
        exact ⟨_, cr_all hc, _, ns, rfl, SqL.of s, o.at (.bl _) rfl⟩
  · rename_i ys
    intro e
    have e := ofOpt_ok e
    cases z1 : allInts ys with
    | none => rw [z1] at e; cases e
    | some ns =>
      rw [z1] at e
      obtain ⟨m, em, e⟩ := bindOpt (show (maxL ns).map PV.int = some z from e)
      cases e
      obtain ⟨v, rfl, h⟩ := reps1 rs
      cases h with
      | lst n s h =>
        have := reps_allInts h z1
        subst this
        obtain ⟨k1, k2⟩ := maxL_spec em
        refine ⟨_, cr_max hc, _, ns, rfl, SqL.of s, List.length_pos_of_mem k1, fun m' h1 h2 => ?_⟩
        have : m' = m := Int.le_antisymm (k2 _ h1) (h2 _ k1)
        rw [this]
        exact o.at (.int _) rfl
  · rename_i ys
    intro e
    have e := ofOpt_ok e
    cases z1 : allInts ys with
    | none => rw [z1] at e; cases e
    | some ns =>
      rw [z1] at e
      obtain ⟨m, em, e⟩ := bindOpt (show (minL ns).map PV.int = some z from e)
      cases e
      obtain ⟨v, rfl, h⟩ := reps1 rs
      cases h with
      | lst n s h =>
        have := reps_allInts h z1
        subst this
        obtain ⟨k1, k2⟩ := minL_spec em
        refine ⟨_, cr_min hc, _, ns, rfl, SqL.of s, List.length_pos_of_mem k1, fun m' h1 h2 => ?_⟩
        have : m' = m := Int.le_antisymm (h2 _ k1) (k2 _ h1)
        rw [this]
        exact o.at (.int _) rfl
  · rename_i ys
    intro e
    have e := ofOpt_ok e
    cases z1 : allInts ys with
    | none => rw [z1] at e; cases e
    | some ns =>
      rw [z1] at e; cases e
      obtain ⟨v, rfl, h⟩ := reps1 rs
      cases h with
      | tup s h =>
        have := reps_allInts h z1
        subst this
        exact ⟨_, cr_sumT hc, _, ns, rfl, hK ▸ s, o.at (.int _) rfl⟩
  · rename_i ys
    intro e
    have e := ofOpt_ok e
    cases z1 : allInts ys with
    | none => rw [z1] at e; cases e
    | some ns =>
      rw [z1] at e
      obtain ⟨m, em, e⟩ := bindOpt (show (maxL ns).map PV.int = some z from e)
      cases e
      obtain ⟨v, rfl, h⟩ := reps1 rs
      cases h with
      | tup s h =>
        have := reps_allInts h z1
        subst this
        obtain ⟨k1, k2⟩ := maxL_spec em
        refine ⟨_, cr_maxT hc, _, ns, rfl, hK ▸ s, List.length_pos_of_mem k1, fun m' h1 h2 => ?_⟩
        have : m' = m := Int.le_antisymm (k2 _ h1) (h2 _ k1)
        rw [this]
        exact o.at (.int _) rfl
  · rename_i ys
    intro e
    have e := ofOpt_ok e
    cases z1 : allInts ys with
    | none => rw [z1] at e; cases e
    | some ns =>
      rw [z1] at e
      obtain ⟨m, em, e⟩ := bindOpt (show (minL ns).map PV.int = some z from e)
      cases e
      obtain ⟨v, rfl, h⟩ := reps1 rs
      cases h with
      | tup s h =>
        have := reps_allInts h z1
        subst this
        obtain ⟨k1, k2⟩ := minL_spec em
        refine ⟨_, cr_minT hc, _, ns, rfl, hK ▸ s, List.length_pos_of_mem k1, fun m' h1 h2 => ?_⟩
        have : m' = m := Int.le_antisymm (h2 _ k1) (k2 _ h1)
        rw [this]
        exact o.at (.int _) rfl
  · rename_i ys
    intro e
    have e := ofOpt_ok e
    unfold sortPV at e
    obtain ⟨v, rfl, h⟩ := reps1 rs
    cases h with
    | lst n s h =>
      cases z1 : allInts ys with
      | some ns =>
        rw [z1] at e
        cases e
        have := reps_allInts h z1
        subst this
        exact ⟨_, call_sortI, _, ns, rfl, SqL.of s, fun p np => o.lst hA (reps_ints r H _) p np⟩
      | none =>
        rw [z1] at e
        have e : (match allPairs ys with | some ps => some (PV.lst ((sortQ ps).map fun q => PV.tup [.int q.1, .int q.2])) | none => sortD ys) = some z := e
        cases eq : allPairs ys with
        | some qs =>
          rw [eq] at e
          cases e
          exact ⟨_, call_sortQ, _, _, qs, rfl, SqL.of s, hK ▸ reps_prs h eq, fun vs p hp np => o.lst hA (prs_reps (hK.symm ▸ hp)) p np⟩
        | none =>
          rw [eq] at e
          have e : (if (ys.all tupNe && arePure ys && areData ys && (ys.all fun x => ys.all fun y => PySem.W.alike (toD x) (toD y)) && decide (deeps ys ≤ 60)) = true then some (PV.lst (ys.mergeSort leD)) else none) = some z := e
          split at e
          · rename_i c
            cases e
            exact ⟨_, call_sortD hu, r, _, _, ys, hK, rfl, SqL.of s, h, c, fun vs' h' p np => o.lst hA h' p np⟩
          · cases e
  · rename_i ys
    intro e
    have e := ofOpt_ok e
    obtain ⟨v, rfl, h⟩ := reps1 rs
    cases h with
    | tup s h =>
      cases z1 : allInts ys with
      | some ns =>
        rw [z1] at e
        cases e
        have := reps_allInts h z1
        subst this
        exact ⟨_, call_sortT, _, ns, rfl, hK ▸ s, fun p np => o.lst hA (reps_ints r H _) p np⟩
      | none => rw [z1] at e; cases e
  · intro e; cases e
theorem builtinT_ok (hc : X.calm = true) (f : String) : CallR X (.type f) (okCall X.K (builtinT f)) := by
  refine CallR.by fun xs H Q h => ?_
  obtain ⟨r, ps, z, hK, hA, rs, e, o⟩ := h
  revert e
  unfold builtinT
  split
  · intro e; cases e
    obtain ⟨v, rfl, h⟩ := reps1 rs
    cases h
    exact ⟨_, call_int1, .inl ⟨_, rfl, o.at (.int _) rfl⟩⟩
  · intro e; cases e
    obtain ⟨v, rfl, h⟩ := reps1 rs
    cases h
    exact ⟨_, call_int1, .inr ⟨_, rfl, o.at (.int _) rfl⟩⟩
  · intro e; cases e
    obtain ⟨v, rfl, h⟩ := reps1 rs
    cases h with
    | lst n s h => exact ⟨_, call_tuple_of, _, _, rfl, .inl ⟨SqL.of s, fun p n => o.tup h p n⟩⟩
  · intro e; cases e
    obtain ⟨v, rfl, h⟩ := reps1 rs
    cases h with
    | tup s h => exact ⟨_, call_tuple_of, _, _, rfl, .inr ⟨hK ▸ s, o.at (v := .ref _) (.tup s h) rfl⟩⟩
  · intro e; cases e
    obtain ⟨v, rfl, h⟩ := reps1 rs
    cases h with
    | lst n s h => exact ⟨_, call_list_of, _, _, rfl, .inl (SqL.of s), fun p n => o.lst hA h p n⟩
  · intro e; cases e
    obtain ⟨v, rfl, h⟩ := reps1 rs
    cases h with
    | tup s h => exact ⟨_, call_list_of, _, _, rfl, .inr (hK ▸ s), fun p n => o.lst hA h p n⟩
  · intro e; cases e
    obtain ⟨v, rfl, h⟩ := reps1 rs
    cases h with
    | str x g => exact ⟨_, call_list_txt hc, _, rfl, by simpa using g.1, fun p n => by simpa using o.lst hA (reps_signs r H _ g.2) p n⟩
  · intro e; cases e
    obtain ⟨v, rfl, h⟩ := reps1 rs
    cases h with
    | str x g => exact ⟨_, call_tuple_txt hc, _, rfl, by simpa using g.1, fun p n => by simpa using o.tup (reps_signs r H _ g.2) p n⟩
  · intro e; cases e
end
end PyV
set_option Elab.async false
set_option linter.all false
set_option maxRecDepth 100000
set_option maxHeartbeats 1000000
/-! Layer PyV, part 4: expressions. -/
namespace PyV
open PySem PySem.Spec PyProof.Rows L2

/-! ### static looks -/
def noStar : Expr → Bool
  | .Starred _ _ => false
  | _ => true
def noSet : Expr → Bool
  | .Set _ _ _ => false
  | _ => true
/-- ::-1 -/
def isRevSl : Expr → Bool
  | .Slice none none (some (.UnaryOp .USub (.Constant (.int 1) _ _) _)) _ => true
  | _ => false
def noSlice : Expr → Bool
  | .Slice _ _ _ _ => false
  | _ => true
def visB (sc : Scope) (x : Str) : Bool := match sc.names.lookup x with
  | some .local => true
  | some .cell => true
  | some .free => true
  | _ => false
def glB (sc : Scope) (x : Str) : Bool := match sc.names.lookup x with
  | some .globalImplicit => true
  | _ => false
def plainB (x : Str) : Bool := !(x == ("__debug__" : Str)) && !(x == ("__classdict__" : Str)) && !(x == ("__name__" : Str))
def goodB : Const → Bool
  | .str x => decide (x.cps.toList.length ≤ line) && x.cps.toList.all fun c => decide (c < 0x110000)
  | _ => true
def noCall : Expr → Bool
  | .Call _ _ _ _ => false
  | _ => true
/-- a name that may be stored; fb: cells that the block has made itself -/
def targetB (N : List Str) (sc : Scope) (fb : Str → Bool) (own : List Nat) : Expr → Bool
  | .Name x _ => (match sc.names.lookup x with | some .local => true | some .cell => fb x | _ => false) && (match slotOf N x with | some i => own.contains i | none => false)
  | _ => false
def targetsB (N : List Str) (sc : Scope) (fb : Str → Bool) (own : List Nat) : Expr → Bool
  | .Name x p => targetB N sc fb own (.Name x p)
  | .Tuple es _ _ => es.all (targetB N sc fb own)
  | _ => false
/-- a loop's target: names, tuples of names -/
def targetsG (N : List Str) (sc : Scope) (fb : Str → Bool) (own : List Nat) : Expr → Bool
  | .Name x p => targetB N sc fb own (.Name x p)
  | .Tuple es _ _ => es.all (targetsB N sc fb own)
  | _ => false
/-- a target's slots -/
def tslots1 (N : List Str) : Expr → List Nat
  | .Name x _ => (slotOf N x).toList
  | _ => []
def tslots (N : List Str) : Expr → List Nat
  | .Tuple es _ _ => es.flatMap (tslots1 N)
  | e => tslots1 N e
def tslotsG (N : List Str) : Expr → List Nat
  | .Tuple es _ _ => es.flatMap (tslots N)
  | e => tslots1 N e
/-- a name's own or built-in function -/
def callee (P : Prog) (sc : Scope) (f : Str) : Bool := glB sc f && plainB f && ((P.fns.lookup f).isSome || P.blt.contains f)
def knownB (f : Str) : Bool := (plainNames.find? fun t => f == Str.ofString t).isSome || (typeCalls.find? fun t => f == Str.ofString t).isSome
def isTupT : Expr → Bool
  | .Tuple _ _ _ => true
  | _ => false
mutual
def wfE (P : Prog) (N : List Str) : Nat → Scope → List Nat → Expr → Bool
  | 0, _, _, _ => false
  | n + 1, sc, I, e => match e with
    | .Constant c _ _ => goodB c
    | .Name x _ => plainB x && match slotOf N x with
      | some i => visB sc x && I.contains i
      | none => glB sc x
    | .BoolOp _ [a] _ => wfE P N n sc I a
    | .BoolOp op (a :: b :: r) p => wfE P N n sc I a && wfE P N n sc I (.BoolOp op (b :: r) p)
    | .UnaryOp _ a _ => wfE P N n sc I a
    | .BinOp a _ b _ => wfE P N n sc I a && wfE P N n sc I b
    | .Compare a [_] [b] _ => wfE P N n sc I a && wfE P N n sc I b && noSet b
    | .Compare a [_, _] [b, c] _ => wfE P N n sc I a && wfE P N n sc I b && wfE P N n sc I c && noSet b && noSet c
    | .IfExp c a b _ => wfT P N n sc I c && wfE P N n sc I a && wfE P N n sc I b
    | .Subscript a (.Slice lo hi none _) _ => wfE P N n sc I a && wfO P N n sc I lo && wfO P N n sc I hi
    | .Subscript a (.Slice none none (some (.UnaryOp .USub (.Constant (.int 1) _ _) _)) _) _ => wfE P N n sc I a
    | .Subscript a b _ => wfE P N n sc I a && wfE P N n sc I b && noSlice b
    | .Tuple es _ _ => wfA P N n sc I es && decide (es.length ≤ line)
    | .List es _ => wfA P N n sc I es && decide (es.length ≤ line)
    | .Dict ks vs _ => (interl ks vs).all (fun e => wfE P N n sc I e) && ks.all (·.isSome) && decide (ks.length = vs.length) && !ks.isEmpty && decide (ks.length ≤ 15)
    | .Call (.Name f _) es [] _ => if nameIs f "isinstance" = true then
        match es with
        | [a, .Name t _] => callee P sc f && (P.fns.lookup f).isNone && wfE P N n sc I a && noStar a && glB sc t && plainB t && P.blt.contains t && (typeName t).isSome
        | _ => false
      else match rngArg f es with
        | some es2 => callee P sc f && (P.fns.lookup f).isNone && callee P sc (Str.ofString "range") && (P.fns.lookup (Str.ofString "range")).isNone && wfA P N n sc I es2
        | none => callee P sc f && wfC P N n sc I es && ((P.fns.lookup f).isSome || (!es.isEmpty && knownB f))
    | .Call (.Attribute o m ap) (e :: es) [] p => wfE P N n sc I o && wfA P N n sc I (e :: es) && noCall o && decide (ap.endLine = p.line) && decide ((e :: es).length < 30) && (methodNames.find? fun t => m == Str.ofString t).isSome
    | .ListComp elt [⟨tg, it, ifs, 0⟩] cs _ => wfI P N n sc I tg it && noSet it && blkC N sc cs (ownPairs N cs) && targetsG N (relS cs sc) (fun x => cs.names.lookup x == some .cell) (ownSlots N cs) tg
        && wfE P N n (relS cs sc) (ownSlots N cs ++ I) elt && wfIfs P N n (relS cs sc) (ownSlots N cs ++ I) ifs
    | _ => false
def wfA (P : Prog) (N : List Str) : Nat → Scope → List Nat → List Expr → Bool
  | 0, _, _, _ => false
  | n + 1, sc, I, es => match es with
    | [] => true
    | e :: r => wfE P N n sc I e && noStar e && wfA P N n sc I r
def wfT (P : Prog) (N : List Str) : Nat → Scope → List Nat → Expr → Bool
  | 0, _, _, _ => false
  | n + 1, sc, I, e => match e with
    | .UnaryOp .Not a _ => wfT P N n sc I a
    | .BoolOp _ [a] _ => wfT P N n sc I a
    | .BoolOp op (a :: b :: r) p => wfT P N n sc I a && wfT P N n sc I (.BoolOp op (b :: r) p)
    | .BoolOp _ _ _ => false
    | .IfExp _ _ _ _ => false
    | .Compare a [_] [b] _ => wfE P N n sc I a && wfE P N n sc I b && noSet b
    | .Compare a [_, _] [b, c] _ => wfE P N n sc I a && wfE P N n sc I b && wfE P N n sc I c && noSet b && noSet c
    | .Compare _ _ _ _ => false
    | e => wfE P N n sc I e
/-- a call's arguments: a fuel further down -/
def wfC (P : Prog) (N : List Str) : Nat → Scope → List Nat → List Expr → Bool
  | 0, _, _, _ => false
  | n + 1, sc, I, es => wfA P N n sc I es
def wfO (P : Prog) (N : List Str) : Nat → Scope → List Nat → Option Expr → Bool
  | 0, _, _, _ => false
  | n + 1, sc, I, es => match es with
    | none => true
    | some e => wfE P N n sc I e
def wfIfs (P : Prog) (N : List Str) : Nat → Scope → List Nat → List Expr → Bool
  | 0, _, _, _ => false
  | n + 1, sc, I, es => match es with
    | [] => true
    | [c] => wfT P N n sc I c
    | _ => false
def wfI (P : Prog) (N : List Str) : Nat → Scope → List Nat → Expr → Expr → Bool
  | 0, _, _, _, _ => false
  | n + 1, sc, I, tg, e => match e with
    | .Call (.Name f _) es [] _ =>
      if nameIs f "range" = true then callee P sc f && (P.fns.lookup f).isNone && wfA P N n sc I es && (es.length == 1 || es.length == 2 || es.length == 3)
      else if nameIs f "enumerate" = true then callee P sc f && (P.fns.lookup f).isNone && wfA P N n sc I es && isTupT tg && decide (es.length = 1)
      else if nameIs f "zip" = true then callee P sc f && (P.fns.lookup f).isNone && wfA P N n sc I es && isTupT tg && decide (es.length = 2)
      else wfE P N n sc I e
    | e => wfE P N n sc I e
end
/-! ### results -/
def OutF (fl : Bool) (r : Rc) (H : Hp) (x : PV) (Q : VK) : Prop := ∀ v H', Same H H' → Rep r H' v x → (fl = true → Fresh r H H' v x) → Q v H'
theorem OutF.out {fl : Bool} {r : Rc} {H : Hp} {x : PV} {Q : VK} (h : OutF fl r H x Q) : Out r H x Q := fun v H' s q f => h v H' s q fun _ => f
theorem OutF.outOld {r : Rc} {H : Hp} {x : PV} {Q : VK} (h : OutF false r H x Q) : OutOld r H x Q := fun v H' s q => h v H' s q fun z => by cases z
theorem Fresh.back {r : Rc} {H H' H2 : Hp} {v : V} {x : PV} (s : Same H H') (f : Fresh r H' H2 v x) : Fresh r H H2 v x := fun z =>
  let ⟨p, e, n, l⟩ := f z; ⟨p, e, s.free n, l⟩
theorem OutF.same {fl : Bool} {r : Rc} {H H' : Hp} {x : PV} {Q : VK} (s : Same H H') (h : OutF fl r H x Q) : OutF fl r H' x Q := fun v H2 s2 q f => h v H2 (s.trans s2) q fun z => (f z).back s
theorem Out.same {r : Rc} {H H' : Hp} {x : PV} {Q : VK} (s : Same H H') (h : Out r H x Q) : Out r H' x Q := fun v H2 s2 q f => h v H2 (s.trans s2) q (f.back s)
theorem OutOld.same {r : Rc} {H H' : Hp} {x : PV} {Q : VK} (s : Same H H') (h : OutOld r H x Q) : OutOld r H' x Q := fun v H2 s2 q => h v H2 (s.trans s2) q

/-- an exception's own dict -/
inductive RepF (K : PySem.W.Frag) (H : Hp) : List (Str × V) → List (Str × PV) → Prop
  | nil : RepF K H [] []
  | cons {f : Str} {v : V} {x : PV} {vs : List (Str × V)} {xs : List (Str × PV)} : isPure x = true → (∀ r : Rc, r.K = K → Rep r H v x) → RepF K H vs xs → RepF K H ((f, v) :: vs) ((f, x) :: xs)
def ExRep (K : PySem.W.Frag) (mg : Str → Option Value) (c : Str) (fs : List (Str × PV)) (cls : Value) (d : Option Addr) (H : Hp) : Prop :=
  ∃ C, mg c = some (.ref C) ∧ cls = .ref C ∧ ((fs = [] ∧ d = none) ∨ (fs ≠ [] ∧ ∃ dx vs, d = some dx ∧ H dx = some (.xd vs) ∧ RepF K H vs fs))
def Post {α : Type} (X : Cx) (W : WX) (σ : L2.St) (H : Hp) (x : R α) (ok : α → Prop) : Prop := match x with
  | .ok a => ok a
  | .exc c fs => ∀ cls d H', Same H H' → ExRep X.K X.mg c fs cls d H' → W cls d σ H'
  | .stuck => False
section
variable {α β : Type} {X : Cx} {W : WX} {σ : L2.St} {H H' : Hp}
theorem Post.bind {x : R α} {f : α → R β} {ok : β → Prop} (h : Post X W σ H (R.bind x f) ok) : Post X W σ H x fun a => Post X W σ H (f a) ok := by
  cases x with
  | ok a => exact h
  | exc c fs => exact h
  | stuck => exact h
theorem Post.mono {x : R α} {P Q : α → Prop} (h : Post X W σ H x P) (i : ∀ a, P a → Q a) : Post X W σ H x Q := by
  cases x with
  | ok a => exact i a h
  | exc c fs => exact h
  | stuck => exact h
theorem Post.monoOk {x : R α} {P Q : α → Prop} (h : Post X W σ H x P) (i : ∀ a, x = .ok a → P a → Q a) : Post X W σ H x Q := by
  cases x with
  | ok a => exact i a rfl h
  | exc c fs => exact h
  | stuck => exact h
theorem Post.same {x : R α} {P : α → Prop} (s : Same H H') (h : Post X W σ H x P) : Post X W σ H' x P := by
  cases x with
  | ok a => exact h
  | exc c fs => exact fun cls d H2 s2 e => h cls d H2 (s.trans s2) e
  | stuck => exact h
/-- without exceptions -/
theorem Post.pure {x : R α} {P : α → Prop} (h : Post X W σ H x P) (n : ∀ c fs, x ≠ .exc c fs) : ∃ a, x = .ok a ∧ P a := by
  cases x with
  | ok a => exact ⟨a, rfl, h⟩
  | exc c fs => exact (n c fs rfl).elim
  | stuck => exact h.elim
end
/-- the slots of I as the evaluator's -/
def Vis (r : Rc) (H : Hp) (σ : L2.St) (ρ : Env) (I : List Nat) : Prop := ∀ i v, I.contains i = true → ρ[i]? = some (some v) → ∃ w, σ[i]? = some (some w) ∧ Rep r H w v.1
theorem Vis.same {r : Rc} {H H' : Hp} {σ : L2.St} {ρ : Env} {I : List Nat} (s : Same H H') (h : Vis r H σ ρ I) : Vis r H' σ ρ I := fun i v hi e =>
  let ⟨w', e1, q⟩ := h i v hi e; ⟨w', e1, q.same s⟩
structure At (K : PySem.W.Frag) (N : List Str) (r : Rc) (H : Hp) (σ : L2.St) (ρ : Env) (I : List Nat) : Prop where
  k : r.K = K
  ln : ρ.length = N.length
  al : r.Al H
  vis : Vis r H σ ρ I
  nx : ∀ b x, ¬ r.Ex b x
theorem At.same {K : PySem.W.Frag} {N : List Str} {r : Rc} {H H' : Hp} {σ : L2.St} {ρ : Env} {I : List Nat} (h : At K N r H σ ρ I) (s : Same H H') : At K N r H' σ ρ I := ⟨h.k, h.ln, h.al.same s, h.vis.same s, h.nx⟩
/-- at turn i the i-th of xs comes -/
def ItFor (r : Rc) (H1 : Hp) (xs : List PV) (J : It) : Prop := ∀ (r' : Rc) i H, Keeps r H1 r' H → (i < xs.length → J.go i H) ∧ (i = xs.length → J.stop i H) ∧
  ∀ v H', J.yld i H v H' → Same H H' ∧ ∀ x, xs[i]? = some x → Rep r' H' v x

section
variable (P : Prog) (call : Str → List PV → R PV) (N : List Str)
def tE (X : Cx) (W : WX) (I : List Nat) (n : Nat) (e : Expr) : TE := fun σ H Q => ∃ r ρ, At X.K N r H σ ρ I ∧ Post X W σ H (denE P call N n e ρ) fun z => OutF (freshE P e) r H z Q
def tA (X : Cx) (W : WX) (I : List Nat) (n : Nat) (es : List Expr) : TA := fun σ H Q => ∃ r ρ, At X.K N r H σ ρ I ∧ Post X W σ H (denA P call N n es ρ) fun zs => ∀ vs H', Same H H' → Reps r H' vs zs → Q vs H'
def tO (X : Cx) (W : WX) (I : List Nat) (n : Nat) (e : Option Expr) : TO := fun σ H Q => ∃ r ρ, At X.K N r H σ ρ I ∧ Post X W σ H (denO P call N n e ρ) fun o => ∀ H', Same H H' → Q o H'
def tT (X : Cx) (W : WX) (I : List Nat) (n : Nat) (e : Expr) : TT := fun σ H Q => ∃ r ρ, At X.K N r H σ ρ I ∧ Post X W σ H (denT P call N n e ρ) fun c => ∀ H', Same H H' → Q c H'
def tIfs (X : Cx) (W : WX) (I : List Nat) (n : Nat) (es : List Expr) : TT := fun σ H Q => ∃ r ρ, At X.K N r H σ ρ I ∧ Post X W σ H (denIfs P call N n es ρ) fun c => ∀ H', Same H H' → Q c H'
def tI (X : Cx) (W : WX) (I : List Nat) (n : Nat) (e : Expr) : TI := fun σ H R => ∃ r ρ, At X.K N r H σ ρ I ∧ Post X W σ H (denI P call N n e ρ) fun xs => ∀ J H', Same H H' → ItFor r H' xs J → (isRange e = true ∨ xs.length ≤ sizeLine) → R J H'
/-- what a def of the program promises -/
def spOf (K : PySem.W.Frag) (mg : Str → Option Value) (fd : FD) (f : Str) : Sp := fun vs H Q E => ∃ (r : Rc) (ps : List PV), r.K = K ∧ r.Al H ∧ (∀ b x, ¬ r.Ex b x) ∧ Reps r H vs ps ∧ vs.length = fd.ps.length ∧
  match call f ps with
  | .ok z => OutF fd.fresh r H z Q
  | .exc c fs => ∀ cls d H', Same H H' → ExRep K mg c fs cls d H' → E cls d H'
  | .stuck => False
structure Ctx (X : Cx) (k : Nat) : Prop where
  n : X.N = N
  nd : X.N.Nodup
  calm : X.calm = true
  room : Room k X.A
  fns : ∀ f fd, P.fns.lookup f = some fd → ∃ fa fdata, X.mg f = some (.ref fa) ∧ PySem.W.keepIn X.K (.ref fa) = true ∧
    FnOk X.prog X.w X.K X.mg X.base (L2.CX X.prog X.w) k fa fdata fd.ps (spOf call X.K X.mg fd f) ∧ Binds X.K fdata fd.ps []
  consts : ∀ x pv, P.consts.lookup x = some pv → ∃ u v, X.mg x = some u ∧ RelV v u ∧ ∀ (r : Rc) (H : Hp), r.K = X.K → Rep r H v pv
  free : ∀ x, P.blt.contains x = true → X.mg x = none
  dcts : ∀ x ps, P.dcts.lookup x = some ps → ∃ a, X.mg x = some (.ref a) ∧ KD X.K X.w a ∧ (∀ s : List Nat, dget ps (.str s) = none → KMiss X.K X.w a ⟨s.toArray⟩) ∧ ∀ p z, dget ps p = some z → ∃ s v, p = .str s ∧ KDct X.K X.w a ⟨s.toArray⟩ v ∧ ∀ (r : Rc) (H : Hp), r.K = X.K → Rep r H v z
end
section
variable {P : Prog} {call : Str → List PV → R PV} {N : List Str} {X : Cx} {k : Nat}
theorem Ctx.blk (c : Ctx P call N X k) (s : Shared) (H : Hp) (scope : Scope) (cl : List (Str × Addr)) (C : Addr) (fp : List Addr) : Ctx P call N (X.blk s H scope (compEnvC scope cl C X.env) fp) k :=
  ⟨c.n, c.nd, c.calm, c.room, c.fns, c.consts, c.free, c.dcts⟩
theorem _root_.L2.PE.imp {e : Expr} {t t' : TE} (h : PE X e t) (i : ∀ σ H Q, t' σ H Q → t σ H Q) : PE X e t' := ⟨fun pins s σ H Q I q => h.run pins s σ H Q I (i _ _ _ q)⟩
theorem _root_.L2.PT.imp {e : Expr} {t t' : TT} (h : PT X e t) (i : ∀ σ H Q, t' σ H Q → t σ H Q) : PT X e t' := ⟨fun pins s σ H Q I q => h.run pins s σ H Q I (i _ _ _ q)⟩
theorem _root_.L2.PTs.imp {e : List Expr} {t t' : TT} (h : PTs X e t) (i : ∀ σ H Q, t' σ H Q → t σ H Q) : PTs X e t' := ⟨fun pins s σ H Q I q => h.run pins s σ H Q I (i _ _ _ q)⟩
theorem _root_.L2.PA.imp {e : List Expr} {t t' : TA} (h : PA X e t) (i : ∀ σ H Q, t' σ H Q → t σ H Q) : PA X e t' := ⟨fun pos pins s σ H Q I q => h.run pos pins s σ H Q I (i _ _ _ q)⟩
theorem _root_.L2.PO.imp {e : Option Expr} {t t' : TO} (h : PO X e t) (i : ∀ σ H Q, t' σ H Q → t σ H Q) : PO X e t' := ⟨fun pins s σ H Q I q => h.run pins s σ H Q I (i _ _ _ q)⟩
theorem _root_.L2.PI.imp {tg e : Expr} {t t' : TI} (h : PI X tg e t) (i : ∀ σ H Q, t' σ H Q → t σ H Q) : PI X tg e t' := ⟨fun pins s σ H Q I q => h.run pins s σ H Q I (i _ _ _ q)⟩
/-- by the evaluator's answer -/
theorem tE.of {W : WX} {I : List Nat} {n : Nat} {e : Expr} {σ : L2.St} {H : Hp} {Q : VK} {r : Rc} {ρ : Env} (a : At X.K N r H σ ρ I) {ok : PV → Prop} (h : Post X W σ H (denE P call N n e ρ) ok)
    (q : ∀ z, ok z → ∀ v H', Same H H' → Rep r H' v z → (freshE P e = true → Fresh r H H' v z) → Q v H') : tE P call N X W I n e σ H Q := ⟨r, ρ, a, h.mono fun z hz => q z hz⟩
theorem tA.of {W : WX} {I : List Nat} {n : Nat} {e : List Expr} {σ : L2.St} {H : Hp} {Q : List V → Hp → Prop} {r : Rc} {ρ : Env} (a : At X.K N r H σ ρ I) {ok : List PV → Prop} (h : Post X W σ H (denA P call N n e ρ) ok)
    (q : ∀ z, ok z → ∀ v H', Same H H' → Reps r H' v z → Q v H') : tA P call N X W I n e σ H Q := ⟨r, ρ, a, h.mono fun z hz => q z hz⟩
theorem tT.of {W : WX} {I : List Nat} {n : Nat} {e : Expr} {σ : L2.St} {H : Hp} {Q : Bool → Hp → Prop} {r : Rc} {ρ : Env} (a : At X.K N r H σ ρ I) {ok : Bool → Prop} (h : Post X W σ H (denT P call N n e ρ) ok)
    (q : ∀ z, ok z → ∀ H', Same H H' → Q z H') : tT P call N X W I n e σ H Q := ⟨r, ρ, a, h.mono fun z hz => q z hz⟩
/-- the statement by fuel -/
structure Sound (P : Prog) (call : Str → List PV → R PV) (N : List Str) (n : Nat) : Prop where
  e : ∀ (X : Cx) (k : Nat) (W : WX), Ctx P call N X k → Takes X W → ∀ I e, wfE P N n X.env.scope I e = true → PE X e (tE P call N X W I n e)
  a : ∀ (X : Cx) (k : Nat) (W : WX), Ctx P call N X k → Takes X W → ∀ I es, wfA P N n X.env.scope I es = true → PA X es (tA P call N X W I n es)
  o : ∀ (X : Cx) (k : Nat) (W : WX), Ctx P call N X k → Takes X W → ∀ I e, wfO P N n X.env.scope I e = true → PO X e (tO P call N X W I n e)
  t : ∀ (X : Cx) (k : Nat) (W : WX), Ctx P call N X k → Takes X W → ∀ I e, wfT P N n X.env.scope I e = true → PT X e (tT P call N X W I n e)
  ifs : ∀ (X : Cx) (k : Nat) (W : WX), Ctx P call N X k → Takes X W → ∀ I e, wfIfs P N n X.env.scope I e = true → PTs X e (tIfs P call N X W I n e)
  i : ∀ (X : Cx) (k : Nat) (W : WX), Ctx P call N X k → Takes X W → ∀ I tg e, wfI P N n X.env.scope I tg e = true → PI X tg e (tI P call N X W I n e)
end
end PyV
set_option Elab.async false
set_option linter.all false
set_option maxRecDepth 100000
set_option maxHeartbeats 2000000
/-! Layer PyV, part 4b: enumerate over a tuple, a text. -/
namespace PySem
open Sem (wp)
theorem pyv_meets_en1 {v : Value} {ob : Obj} {G : Heap → Prop} (B : Begins v ob G) :
    Meets (Builtin.«enumerate.__new__» ⟨[.type "enumerate", v], []⟩) (fun _ R s => G s.heap ∧
      R (.ok (.ret (.ref (s.heap.push ob).objs.size))) { s with heap := (s.heap.push ob).push { cls := .type "enumerate", data := .fields #[.none, .bool false, .ref s.heap.objs.size, rawInt 0, .none, .none] } }) :=
  .of_wp fun prog w A R s hs => by
    obtain ⟨hp, gs, dr, tk, os⟩ := s
    obtain ⟨g1, hr⟩ := hs
    have sub1 := sub_enumerate
    have it1 : ∀ {A1 : Around} {E1 : Value → Shared → Prop} {Q1 : Value → Shared → Prop}, Q1 (.ref hp.objs.size) ⟨hp.push ob, gs, dr, tk, os⟩ → wpAny (model prog w) A1 (pyIter v) Q1 E1 ⟨hp, gs, dr, tk, os⟩ :=
      fun q => B.iter prog w _ _ ⟨hp, gs, dr, tk, os⟩ _ g1 q
    wp_walk using it1
    refine wpAny_stack_any fun stk => wpAny_pure ?_
    split
    · rename_i cc _ _ _ _ _
      cases (cc == Value.type "enumerate")
      · wp_walk using it1
        exact ⟨_, rfl, hr⟩
      · wp_walk using it1
        exact ⟨_, rfl, hr⟩
    · wp_walk using it1
      exact ⟨_, rfl, hr⟩
theorem pyv_call_en1 {prog : Program} {w : World} {A : Around} {E : Value → Shared → Prop} {s : Shared} {v : Value} {ob : Obj} {G : Heap → Prop} {Q : Value → Shared → Prop} (B : Begins v ob G) (g1 : G s.heap)
    (hq : ∀ h', IsEnum h' (s.heap.objs.size + 1) s.heap.objs.size 0 .none → h'.get? s.heap.objs.size = some ob → (∀ b o, s.heap.get? b = some o → h'.get? b = some o) → Q (.ref (s.heap.objs.size + 1)) { s with heap := h' }) :
    wpAny (model prog w) A (call (.type "enumerate") [v]) Q E s := by
  refine callType_new F.called_enumerate (by decide) (F.typeCall_enumerate_1 _) (F.newCall_enumerate_1 _) (fun obj => F.args_object_init_2 obj _) F.entry_enumerate_new (pyv_meets_en1 B) ⟨g1, ?_⟩
  have sz : (s.heap.push ob).objs.size = s.heap.objs.size + 1 := Heap.size_push ..
  show _ ∧ _
  rw [sz]
  have he : IsEnum ((s.heap.push ob).push { cls := .type "enumerate", data := .fields #[.none, .bool false, .ref s.heap.objs.size, rawInt 0, .none, .none] }) (s.heap.objs.size + 1) s.heap.objs.size 0 .none := by
    have z := Heap.get?_push_size (s.heap.push ob) (o := { cls := .type "enumerate", data := .fields #[.none, .bool false, .ref s.heap.objs.size, rawInt 0, .none, .none] }) rfl
    rw [sz] at z
    exact z
  exact ⟨⟨_, he, rfl⟩, hq _ he (Heap.get?_push_of_some _ (Heap.get?_push_size _ B.free)) fun b o x => Heap.get?_push_of_some _ (Heap.get?_push_of_some _ x)⟩
/-- an enumerate whose source has come to its end -/
theorem pyv_enum_end {prog : Program} {w : World} {A : Around} {E : Value → Shared → Prop} {s : Shared} {e it : Addr} {i : Int} {old : Value} {Q : Option Value → Shared → Prop} (he : IsEnum s.heap e it i old)
    (hn : ∀ (Q1 : Value → Shared → Prop) (E1 : Value → Shared → Prop), (∀ h1 x, Heap.ExtBut it s.heap h1 → (∃ o, h1.get? x = some o ∧ o.cls = .type "StopIteration") → E1 (.ref x) { s with heap := h1 }) → wpAny (model prog w) A.in1 (Builtin.SmallTypes.nextOf (.ref it)) Q1 E1 s)
    (hQ : ∀ h1, Heap.ExtBut it s.heap h1 → Q none { s with heap := h1 }) : wpAny (model prog w) A (pyNext (.ref e)) Q E s := by
  have ty : s.TypeIs (.ref e) "enumerate" := ⟨_, he, rfl⟩
  unfold pyNext
  refine wpAny_bind (wpAny_attempt (wpAny_callSpecial?_slot (name := Str.ofString "__next__") ty F.slot_enumerate_next (wpAny_call_entry F.slot_enumerate_next ty F.entry_enumerate_next ?_ (F.args_enumerate_next_1 _))))
  show wpAny _ _ (field (.ref e) 2 >>= _) _ _ s
  refine wpAny_bind (wpAny_field he rfl (x := Value.ref it) rfl (wpAny_bind (hn _ _ fun h1 x hb hs => ?_)))
  obtain ⟨so, hso, hcl⟩ := hs
  exact wpAny_bind (wpAny_isInstance (T := "StopIteration") (b := true) ⟨so, hso, hcl⟩ isSubtype_stop (wpAny_pure (hQ h1 hb)))
end PySem
namespace PyV
open PySem PySem.Spec PyProof.Rows L2
/-- pairs of an immutable row's items; G: what the heap says of it -/
def IteF (G : Hp → Prop) (vs : List V) : It :=
  ⟨fun i H => G H ∧ i < vs.length, fun i H v H' => ∃ T x, v = .ref T ∧ H T = none ∧ H' = upd H T (.tup [.int (i : Nat), x]) ∧ vs[i]? = some x, fun i H => G H ∧ vs.length ≤ i⟩
theorem tup_ne {h : Heap} {a it : Addr} {i : Nat} {xs : Array Value} (x : IsTup h a xs) (y : h.IsTupleIter it a i) : a ≠ it := by
  rintro rfl
  obtain ⟨o, h1, c1, _⟩ := x
  obtain ⟨o2, h2, c2, _⟩ := y
  rw [h1] at h2
  cases h2
  rw [c1] at c2
  exact absurd (Value.type.inj c2) (by decide)
theorem tup_enum_ne {h : Heap} {a e it : Addr} {i : Int} {old : Value} {xs : Array Value} (x : IsTup h a xs) (y : IsEnum h e it i old) : e ≠ a := by
  rintro rfl
  obtain ⟨o, h1, c1, _⟩ := x
  have y : h.get? e = some _ := y
  rw [h1] at y
  cases y
  exact absurd (Value.type.inj c1) (by decide)
theorem turn_enumT {P : Program} {w : World} {K : PySem.W.Frag} {elts : List Expr} {kk : Nat} {tpos : Pos} {vs : List V} (a e it : Addr) :
    Turn P w K (.Tuple elts kk tpos) (IteF (fun H => SqT K H a vs) vs) [e, it] e (fun i h => (∃ old, IsEnum h e it ((i : Nat) : Int) old) ∧ h.IsTupleIter it a i ∧ e ≠ it) where
  mem := by simp
  obj := fun i h st b hb => by
    obtain ⟨⟨old, he⟩, ⟨o, ho, hc, hd⟩, _⟩ := st
    rcases List.mem_cons.mp hb with z | z
    · rw [z]; exact ⟨_, he, fun v q => nomatch q⟩
    · rw [List.mem_singleton.mp z]; exact ⟨o, ho, fun v q => by rw [hd] at q; cases q⟩
  keep := fun i h h2 st k => let ⟨⟨old, he⟩, hi, hne⟩ := st; ⟨⟨old, k e (by simp) _ he⟩, hi.at fun o q => k it (by simp) o q, hne⟩
  item := by
    intro X hP hw hK hc i pins s σ H E I hf st hg
    subst hP hw hK
    obtain ⟨⟨old, he⟩, hit, hne⟩ := st
    obtain ⟨hq, hi⟩ := hg
    obtain ⟨its, rv, p, hz⟩ := I.tuple hq
    have hl := rv.length
    have hel : e < s.heap.objs.size := Heap.lt_size he
    have hil : it < s.heap.objs.size := by obtain ⟨_, q, _⟩ := hit; exact Heap.lt_size q
    refine wpAny_pyNext_enum_itemD (Draws.tuple (show X.A.in1.handled = none from I.ok.hd hc) it a (tup_ne p hit) its.toArray) he ⟨hit, p⟩ (by simp; omega) hne (by simp [hne, tup_enum_ne p he]) fun x h1 tk hPx ho st1 hT hsz hk => ?_
    have hx : its[i]? = some x := by simpa using hPx
    obtain ⟨xv, hxv, rx⟩ : ∃ xv, vs[i]? = some xv ∧ RelV xv x := by
      cases q : vs[i]? with
      | none => rw [List.getElem?_eq_none_iff] at q; omega
      | some y =>
        obtain ⟨u, hu, ru⟩ := rv.get q
        rw [hx] at hu
        cases hu
        exact ⟨y, rfl, ru⟩
    refine ⟨_, rfl, wpAny_letOwnedTupleGo_enum (s := { s with heap := h1, toks := tk + 1 }) ho fun h2 he2 sb => ?_⟩
    have hT2 : h2.get? s.heap.objs.size = some { cls := .type "tuple", data := .seq #[.int i tk, x] } := (sb.2 _ (Nat.ne_of_gt hel)).trans hT
    have new : ObjOk X.prog X.w (upd H s.heap.objs.size (.tup [.int (i : Nat), xv])) h2 s.heap.objs.size (.tup [.int (i : Nat), xv]) :=
      ⟨by show 2 ≤ sizeLine; decide, [.int i tk, x], .cons ⟨_, rfl⟩ (.cons rx .nil), ⟨_, hT2, rfl, _, rfl⟩⟩
    have I1 : Inv X pins σ (upd H s.heap.objs.size (.tup [.int (i : Nat), xv])) { s with heap := h2, toks := tk + 1 } :=
      I.turnedNew (ch := [e, it]) (fun b ob hb q => (sb.2 b (fun z => hb (by simp [z]))).trans (hk b ob (fun z => hb (by simp [z])) (fun z => hb (by simp [z])) q)) hf (Nat.le_refl _) new
    refine ⟨.ref s.heap.objs.size, _, I1, rfl, ⟨_, xv, rfl, I.hok.fresh (Nat.le_refl _), rfl, hxv⟩, ⟨⟨x, ?_⟩, st1.1.at fun o q => (sb.2 it (Ne.symm hne)).trans q, hne⟩, fun b hb => ?_⟩
    · have z : ((i + 1 : Nat) : Int) = (i : Int) + 1 := by omega
      rw [z]; exact he2
    · have hb2 : b < s.heap.objs.size := by
        rcases List.mem_cons.mp hb with z | z
        · rw [z]; exact hel
        · rw [List.mem_singleton.mp z]; exact hil
      rw [upd_ne (Nat.ne_of_lt hb2)]
      exact (hf b hb).1
  done := by
    intro X hP hw hK hc i pins s σ H E I hf st hg
    subst hP hw hK
    obtain ⟨⟨old, he⟩, hit, hne⟩ := st
    obtain ⟨hq, hi⟩ := hg
    obtain ⟨its, rv, p, hz⟩ := I.tuple hq
    have hl := rv.length
    obtain ⟨f0, f1, f2, f3, f4, f5⟩ := hf it (by simp)
    exact pyv_enum_end he (fun Q1 E1 hE => wpAny_nextOf_tuple_end (show X.A.in1.handled = none from I.ok.hd hc) hit p (by simp; omega) hE) fun h1 eb => ⟨rfl, I.turned (t' := s.toks) (fun b o hb q => eb b o hb q) f0 f1 f3 f4 f5⟩
  self := fun A i s Q E st h => let ⟨⟨_, he⟩, _⟩ := st; wpAny_pyIter_enum he h
theorem turn_enumS {P : Program} {w : World} {K : PySem.W.Frag} {elts : List Expr} {kk : Nat} {tpos : Pos} {x : Str} {t : Tok} (e it : Addr) :
    Turn P w K (.Tuple elts kk tpos) (IteF (fun _ => True) (x.cps.toList.map fun c => V.str ⟨#[c]⟩)) [e, it] e (fun i h => (∃ old, IsEnum h e it ((i : Nat) : Int) old) ∧ h.IsStrIter it (strIterType x) x t i ∧ e ≠ it) where
  mem := by simp
  obj := fun i h st b hb => by
    obtain ⟨⟨old, he⟩, ⟨o, ho, hc, hd⟩, _⟩ := st
    rcases List.mem_cons.mp hb with z | z
    · rw [z]; exact ⟨_, he, fun v q => nomatch q⟩
    · rw [List.mem_singleton.mp z]; exact ⟨o, ho, fun v q => by rw [hd] at q; cases q⟩
  keep := fun i h h2 st k => let ⟨⟨old, he⟩, ⟨o, ho, r⟩, hne⟩ := st; ⟨⟨old, k e (by simp) _ he⟩, ⟨o, k it (by simp) o ho, r⟩, hne⟩
  item := by
    intro X hP hw hK hc i pins s σ H E I hf st hg
    subst hP hw hK
    obtain ⟨⟨old, he⟩, hit, hne⟩ := st
    obtain ⟨_, hi⟩ := hg
    have hi2 : i < x.cps.size := by simpa using hi
    have hel : e < s.heap.objs.size := Heap.lt_size he
    have hil : it < s.heap.objs.size := by obtain ⟨_, q, _⟩ := hit; exact Heap.lt_size q
    refine wpAny_pyNext_enum_itemD (Draws.text (show X.A.in1.handled = none from I.ok.hd hc) it x t) he hit hi2 hne (by simp [hne]) fun u h1 tk hPx ho st1 hT hsz hk => ?_
    obtain ⟨c, tc, hcx, rfl⟩ := hPx
    refine ⟨_, rfl, wpAny_letOwnedTupleGo_enum (s := { s with heap := h1, toks := tk + 1 }) ho fun h2 he2 sb => ?_⟩
    have hT2 : h2.get? s.heap.objs.size = some { cls := .type "tuple", data := .seq #[.int i tk, .str ⟨#[c]⟩ tc] } := (sb.2 _ (Nat.ne_of_gt hel)).trans hT
    have new : ObjOk X.prog X.w (upd H s.heap.objs.size (.tup [.int (i : Nat), .str ⟨#[c]⟩])) h2 s.heap.objs.size (.tup [.int (i : Nat), .str ⟨#[c]⟩]) :=
      ⟨by show 2 ≤ sizeLine; decide, [.int i tk, .str ⟨#[c]⟩ tc], .cons ⟨_, rfl⟩ (.cons ⟨_, rfl⟩ .nil), ⟨_, hT2, rfl, _, rfl⟩⟩
    have I1 : Inv X pins σ (upd H s.heap.objs.size (.tup [.int (i : Nat), .str ⟨#[c]⟩])) { s with heap := h2, toks := tk + 1 } :=
      I.turnedNew (ch := [e, it]) (fun b ob hb q => (sb.2 b (fun z => hb (by simp [z]))).trans (hk b ob (fun z => hb (by simp [z])) (fun z => hb (by simp [z])) q)) hf (Nat.le_refl _) new
    refine ⟨.ref s.heap.objs.size, _, I1, rfl, ⟨_, .str ⟨#[c]⟩, rfl, I.hok.fresh (Nat.le_refl _), rfl, ?_⟩, ⟨⟨Value.str ⟨#[c]⟩ tc, ?_⟩, ?_, hne⟩, fun b hb => ?_⟩
    · rw [List.getElem?_map]
      have z : x.cps.toList[i]? = some c := by simpa using hcx
      rw [z]; rfl
    · have z : ((i + 1 : Nat) : Int) = (i : Int) + 1 := by omega
      rw [z]; exact he2
    · obtain ⟨o, q, r⟩ := st1
      exact ⟨o, (sb.2 it (Ne.symm hne)).trans q, r⟩
    · have hb2 : b < s.heap.objs.size := by
        rcases List.mem_cons.mp hb with z | z
        · rw [z]; exact hel
        · rw [List.mem_singleton.mp z]; exact hil
      rw [upd_ne (Nat.ne_of_lt hb2)]
      exact (hf b hb).1
  done := by
    intro X hP hw hK hc i pins s σ H E I hf st hg
    subst hP hw hK
    obtain ⟨⟨old, he⟩, hit, hne⟩ := st
    obtain ⟨_, hi⟩ := hg
    have hi2 : x.cps[i]? = none := by simp; simpa using hi
    obtain ⟨f0, f1, f2, f3, f4, f5⟩ := hf it (by simp)
    have hh : X.A.in1.handled = none := I.ok.hd hc
    refine pyv_enum_end he (fun Q1 E1 hE => ?_) fun h1 eb => ⟨rfl, I.turned (t' := s.toks) (fun b o hb q => eb b o hb q) f0 f1 f3 f4 f5⟩
    cases ha : x.cps.all (· < 128)
    · simp only [strIterType, ha, Bool.false_eq_true, if_false] at hit
      exact wpAny_nextOf_wide_end hh hit hi2 hE
    · simp only [strIterType, ha, if_true] at hit
      exact wpAny_nextOf_ascii_end hh hit hi2 hE
  self := fun A i s Q E st h => let ⟨⟨_, he⟩, _⟩ := st; wpAny_pyIter_enum he h
end PyV
set_option Elab.async false
set_option linter.all false
set_option maxRecDepth 100000
set_option maxHeartbeats 2000000
/-! Layer PyV, part 4c: zip of a list and a tuple. -/
namespace PyV
open PySem PySem.Spec PyProof.Rows L2
def ItzM (K : PySem.W.Frag) (a b : Addr) : It :=
  ⟨fun i H => ∃ (xs ys : List V) (x y : V), SqL K H a xs ∧ SqT K H b ys ∧ xs[i]? = some x ∧ ys[i]? = some y,
    fun i H v H' => ∃ T x y, v = .ref T ∧ H T = none ∧ H' = upd H T (.tup [x, y]) ∧ (∀ xs, SqL K H a xs → xs[i]? = some x) ∧ ∀ ys, SqT K H b ys → ys[i]? = some y,
    fun i H => ∃ xs ys : List V, SqL K H a xs ∧ SqT K H b ys ∧ i ≤ xs.length ∧ i ≤ ys.length ∧ (xs.length ≤ i ∨ ys.length ≤ i)⟩
theorem lst_ne {h : Heap} {a it : Addr} {i : Nat} {xs : Array Value} (x : h.IsList a xs) (y : h.IsListIter it a i) : a ≠ it := by
  rintro rfl
  obtain ⟨o, h1, c1, _⟩ := x
  obtain ⟨o2, h2, c2, _⟩ := y
  rw [h1] at h2
  cases h2
  rw [c1] at c2
  exact absurd (Value.type.inj c2) (by decide)
theorem turn_zipM {P : Program} {w : World} {K : PySem.W.Frag} {elts : List Expr} {kk : Nat} {tpos : Pos} {a b z TI TO i1 i2 : Addr} (S : ZipSep2 z TI TO i1 i2 [i1, a] [i2, b]) :
    Turn P w K (.Tuple elts kk tpos) (ItzM K a b) [z, TI, TO, i1, i2] z (fun i h => IsZip h z TI TO .none ∧ IsTupOf2 h TI (.ref i1) (.ref i2) ∧ (∃ x y, IsTupOf2 h TO x y) ∧ h.IsListIter i1 a i ∧ h.IsTupleIter i2 b i) where
  mem := List.mem_cons_self
  obj := fun i h st c hc => by
    obtain ⟨q1, q2, ⟨x, y, q3⟩, ⟨o1, e1, _, d1⟩, ⟨o2, e2, _, d2⟩⟩ := st
    have cs : c = z ∨ c = TI ∨ c = TO ∨ c = i1 ∨ c = i2 := by simpa using hc
    rcases cs with rfl | rfl | rfl | rfl | rfl
    · exact ⟨_, q1, fun v q => nomatch q⟩
    · exact ⟨_, q2, fun v q => nomatch q⟩
    · exact ⟨_, q3, fun v q => nomatch q⟩
    · exact ⟨o1, e1, fun v q => by rw [d1] at q; cases q⟩
    · exact ⟨o2, e2, fun v q => by rw [d2] at q; cases q⟩
  keep := fun i h h2 st k => by
    obtain ⟨q1, q2, ⟨x, y, q3⟩, q4, q5⟩ := st
    exact ⟨k _ (by simp) _ q1, k _ (by simp) _ q2, ⟨x, y, k _ (by simp) _ q3⟩, q4.at fun o q => k _ (by simp) o q, q5.at fun o q => k _ (by simp) o q⟩
  item := by
    intro X hP hw hK hc i pins s σ H E I hf st hg
    subst hP hw hK
    obtain ⟨q1, q2, ⟨x0, y0, q3⟩, q4, q5⟩ := st
    obtain ⟨xs, ys, x, y, sx, sy, gx, gy⟩ := hg
    obtain ⟨its, rv, p, _⟩ := I.list sx
    obtain ⟨its2, rv2, p2, _⟩ := I.tuple sy
    obtain ⟨u, hu, ru⟩ := rv.get gx
    obtain ⟨u2, hu2, ru2⟩ := rv2.get gy
    have zl : z < s.heap.objs.size := Heap.lt_size q1
    have h1 : i < its.toArray.size := by obtain ⟨z, _⟩ := List.getElem?_eq_some_iff.mp hu; simpa using z
    have h2 : i < its2.toArray.size := by obtain ⟨z, _⟩ := List.getElem?_eq_some_iff.mp hu2; simpa using z
    refine wpAny_pyNext_zipD2_item S (Draws.list (show X.A.in1.handled = none from I.ok.hd hc) i1 a (lst_ne p.isList q4) its.toArray) (Draws.tuple (show X.A.in1.handled = none from I.ok.hd hc) i2 b (tup_ne p2 q5) its2.toArray)
      q1 q2 q3 ⟨q4, p.isList⟩ ⟨q5, p2⟩ h1 h2 fun v1 v2 h' tk e1 e2 z' TO' s1 s2 hT hsz hk => ?_
    have e1 : v1 = u := by have e1 : its[i]? = some v1 := by simpa using e1
                           rw [hu] at e1; exact (Option.some.inj e1).symm
    have e2 : v2 = u2 := by have e2 : its2[i]? = some v2 := by simpa using e2
                            rw [hu2] at e2; exact (Option.some.inj e2).symm
    subst e1 e2
    refine ⟨_, rfl, wpAny_letOwnedTupleGo_zip (s := { s with heap := h', toks := tk }) z' fun h3 z3 sb => ?_⟩
    have hT2 : h3.get? s.heap.objs.size = some { cls := .type "tuple", data := .seq #[v1, v2] } := (sb.2 _ (Nat.ne_of_gt zl)).trans hT
    have new : ObjOk X.prog X.w (upd H s.heap.objs.size (.tup [x, y])) h3 s.heap.objs.size (.tup [x, y]) :=
      ⟨by show 2 ≤ sizeLine; decide, [v1, v2], .cons ru (.cons ru2 .nil), ⟨_, hT2, rfl, _, rfl⟩⟩
    have I1 : Inv X pins σ (upd H s.heap.objs.size (.tup [x, y])) { s with heap := h3, toks := tk } :=
      I.turnedNew (ch := [z, TI, TO, i1, i2]) (fun c o hb q => (sb.2 c (fun e => hb (by simp [e]))).trans (hk c o (fun e => hb (by simp [e])) (fun e => hb (by simp [e])) (fun e => hb (by simp [e])) (fun e => hb (by simp [e])) q)) hf (Nat.le_refl _) new
    refine ⟨.ref s.heap.objs.size, _, I1, rfl, ⟨_, x, y, rfl, I.hok.fresh (Nat.le_refl _), rfl, fun l hl => by rw [I.list_inj hl sx]; exact gx, fun l hl => by rw [I.tuple_inj hl sy]; exact gy⟩, ⟨z3, ?_, ⟨v1, v2, ?_⟩, ?_, ?_⟩, fun c hcm => ?_⟩
    · exact (sb.2 _ S.TIz).trans (hk _ _ S.TIz S.TITO S.TIi1 S.TIi2 q2)
    · exact (sb.2 _ S.TOz).trans TO'
    · exact s1.1.at fun o q => (sb.2 _ S.zi1.symm).trans q
    · exact s2.1.at fun o q => (sb.2 _ S.zi2.symm).trans q
    · have lt : c < s.heap.objs.size := by
        have cs : c = z ∨ c = TI ∨ c = TO ∨ c = i1 ∨ c = i2 := by simpa using hcm
        rcases cs with rfl | rfl | rfl | rfl | rfl
        · exact zl
        · exact Heap.lt_size q2
        · exact Heap.lt_size q3
        · obtain ⟨_, e, _⟩ := q4; exact Heap.lt_size e
        · obtain ⟨_, e, _⟩ := q5; exact Heap.lt_size e
      rw [upd_ne (Nat.ne_of_lt lt)]
      exact (hf c hcm).1
  done := by
    intro X hP hw hK hc i pins s σ H E I hf st hg
    subst hP hw hK
    obtain ⟨q1, q2, ⟨x0, y0, q3⟩, q4, q5⟩ := st
    obtain ⟨xs, ys, sx, sy, l1, l2, hend⟩ := hg
    obtain ⟨its, rv, p, _⟩ := I.list sx
    obtain ⟨its2, rv2, p2, _⟩ := I.tuple sy
    have m1 := rv.length
    have m2 := rv2.length
    refine wpAny_pyNext_zipD2_end S (Draws.list (show X.A.in1.handled = none from I.ok.hd hc) i1 a (lst_ne p.isList q4) its.toArray) (Draws.tuple (show X.A.in1.handled = none from I.ok.hd hc) i2 b (tup_ne p2 q5) its2.toArray)
      q1 q2 q3 ⟨q4, p.isList⟩ ⟨q5, p2⟩ (by simp; omega) (by simp; omega) (by simp; omega) fun h' tk hk => ⟨rfl, I.turnedL (ch := [z, TI, TO, i1, i2]) (fun c o hb q =>
      hk c o (fun e => hb (by simp [e])) (fun e => hb (by simp [e])) (fun e => hb (by simp [e])) (fun e => hb (by simp [e])) q) hf⟩
  self := fun A i s Q E st h => wpAny_pyIter_zip st.1 h
/-! the other way round -/
def ItzN (K : PySem.W.Frag) (a b : Addr) : It :=
  ⟨fun i H => ∃ (xs ys : List V) (x y : V), SqT K H a xs ∧ SqL K H b ys ∧ xs[i]? = some x ∧ ys[i]? = some y,
    fun i H v H' => ∃ T x y, v = .ref T ∧ H T = none ∧ H' = upd H T (.tup [x, y]) ∧ (∀ xs, SqT K H a xs → xs[i]? = some x) ∧ ∀ ys, SqL K H b ys → ys[i]? = some y,
    fun i H => ∃ xs ys : List V, SqT K H a xs ∧ SqL K H b ys ∧ i ≤ xs.length ∧ i ≤ ys.length ∧ (xs.length ≤ i ∨ ys.length ≤ i)⟩
theorem turn_zipN {P : Program} {w : World} {K : PySem.W.Frag} {elts : List Expr} {kk : Nat} {tpos : Pos} {a b z TI TO i1 i2 : Addr} (S : ZipSep2 z TI TO i1 i2 [i1, a] [i2, b]) :
    Turn P w K (.Tuple elts kk tpos) (ItzN K a b) [z, TI, TO, i1, i2] z (fun i h => IsZip h z TI TO .none ∧ IsTupOf2 h TI (.ref i1) (.ref i2) ∧ (∃ x y, IsTupOf2 h TO x y) ∧ h.IsTupleIter i1 a i ∧ h.IsListIter i2 b i) where
  mem := List.mem_cons_self
  obj := fun i h st c hc => by
    obtain ⟨q1, q2, ⟨x, y, q3⟩, ⟨o1, e1, _, d1⟩, ⟨o2, e2, _, d2⟩⟩ := st
    have cs : c = z ∨ c = TI ∨ c = TO ∨ c = i1 ∨ c = i2 := by simpa using hc
    rcases cs with rfl | rfl | rfl | rfl | rfl
    · exact ⟨_, q1, fun v q => nomatch q⟩
    · exact ⟨_, q2, fun v q => nomatch q⟩
    · exact ⟨_, q3, fun v q => nomatch q⟩
    · exact ⟨o1, e1, fun v q => by rw [d1] at q; cases q⟩
    · exact ⟨o2, e2, fun v q => by rw [d2] at q; cases q⟩
  keep := fun i h h2 st k => by
    obtain ⟨q1, q2, ⟨x, y, q3⟩, q4, q5⟩ := st
    exact ⟨k _ (by simp) _ q1, k _ (by simp) _ q2, ⟨x, y, k _ (by simp) _ q3⟩, q4.at fun o q => k _ (by simp) o q, q5.at fun o q => k _ (by simp) o q⟩
  item := by
    intro X hP hw hK hc i pins s σ H E I hf st hg
    subst hP hw hK
    obtain ⟨q1, q2, ⟨x0, y0, q3⟩, q4, q5⟩ := st
    obtain ⟨xs, ys, x, y, sx, sy, gx, gy⟩ := hg
    obtain ⟨its, rv, p, _⟩ := I.tuple sx
    obtain ⟨its2, rv2, p2, _⟩ := I.list sy
    obtain ⟨u, hu, ru⟩ := rv.get gx
    obtain ⟨u2, hu2, ru2⟩ := rv2.get gy
    have zl : z < s.heap.objs.size := Heap.lt_size q1
    have h1 : i < its.toArray.size := by obtain ⟨z, _⟩ := List.getElem?_eq_some_iff.mp hu; simpa using z
    have h2 : i < its2.toArray.size := by obtain ⟨z, _⟩ := List.getElem?_eq_some_iff.mp hu2; simpa using z
    refine wpAny_pyNext_zipD2_item S (Draws.tuple (show X.A.in1.handled = none from I.ok.hd hc) i1 a (tup_ne p q4) its.toArray) (Draws.list (show X.A.in1.handled = none from I.ok.hd hc) i2 b (lst_ne p2.isList q5) its2.toArray)
      q1 q2 q3 ⟨q4, p⟩ ⟨q5, p2.isList⟩ h1 h2 fun v1 v2 h' tk e1 e2 z' TO' s1 s2 hT hsz hk => ?_
    have e1 : v1 = u := by have e1 : its[i]? = some v1 := by simpa using e1
                           rw [hu] at e1; exact (Option.some.inj e1).symm
    have e2 : v2 = u2 := by have e2 : its2[i]? = some v2 := by simpa using e2
                            rw [hu2] at e2; exact (Option.some.inj e2).symm
    subst e1 e2
    refine ⟨_, rfl, wpAny_letOwnedTupleGo_zip (s := { s with heap := h', toks := tk }) z' fun h3 z3 sb => ?_⟩
    have hT2 : h3.get? s.heap.objs.size = some { cls := .type "tuple", data := .seq #[v1, v2] } := (sb.2 _ (Nat.ne_of_gt zl)).trans hT
    have new : ObjOk X.prog X.w (upd H s.heap.objs.size (.tup [x, y])) h3 s.heap.objs.size (.tup [x, y]) :=
      ⟨by show 2 ≤ sizeLine; decide, [v1, v2], .cons ru (.cons ru2 .nil), ⟨_, hT2, rfl, _, rfl⟩⟩
    have I1 : Inv X pins σ (upd H s.heap.objs.size (.tup [x, y])) { s with heap := h3, toks := tk } :=
      I.turnedNew (ch := [z, TI, TO, i1, i2]) (fun c o hb q => (sb.2 c (fun e => hb (by simp [e]))).trans (hk c o (fun e => hb (by simp [e])) (fun e => hb (by simp [e])) (fun e => hb (by simp [e])) (fun e => hb (by simp [e])) q)) hf (Nat.le_refl _) new
    refine ⟨.ref s.heap.objs.size, _, I1, rfl, ⟨_, x, y, rfl, I.hok.fresh (Nat.le_refl _), rfl, fun l hl => by rw [I.tuple_inj hl sx]; exact gx, fun l hl => by rw [I.list_inj hl sy]; exact gy⟩, ⟨z3, ?_, ⟨v1, v2, ?_⟩, ?_, ?_⟩, fun c hcm => ?_⟩
    · exact (sb.2 _ S.TIz).trans (hk _ _ S.TIz S.TITO S.TIi1 S.TIi2 q2)
    · exact (sb.2 _ S.TOz).trans TO'
    · exact s1.1.at fun o q => (sb.2 _ S.zi1.symm).trans q
    · exact s2.1.at fun o q => (sb.2 _ S.zi2.symm).trans q
    · have lt : c < s.heap.objs.size := by
        have cs : c = z ∨ c = TI ∨ c = TO ∨ c = i1 ∨ c = i2 := by simpa using hcm
        rcases cs with rfl | rfl | rfl | rfl | rfl
        · exact zl
        · exact Heap.lt_size q2
        · exact Heap.lt_size q3
        · obtain ⟨_, e, _⟩ := q4; exact Heap.lt_size e
        · obtain ⟨_, e, _⟩ := q5; exact Heap.lt_size e
      rw [upd_ne (Nat.ne_of_lt lt)]
      exact (hf c hcm).1
  done := by
    intro X hP hw hK hc i pins s σ H E I hf st hg
    subst hP hw hK
    obtain ⟨q1, q2, ⟨x0, y0, q3⟩, q4, q5⟩ := st
    obtain ⟨xs, ys, sx, sy, l1, l2, hend⟩ := hg
    obtain ⟨its, rv, p, _⟩ := I.tuple sx
    obtain ⟨its2, rv2, p2, _⟩ := I.list sy
    have m1 := rv.length
    have m2 := rv2.length
    refine wpAny_pyNext_zipD2_end S (Draws.tuple (show X.A.in1.handled = none from I.ok.hd hc) i1 a (tup_ne p q4) its.toArray) (Draws.list (show X.A.in1.handled = none from I.ok.hd hc) i2 b (lst_ne p2.isList q5) its2.toArray)
      q1 q2 q3 ⟨q4, p⟩ ⟨q5, p2.isList⟩ (by simp; omega) (by simp; omega) (by simp; omega) fun h' tk hk => ⟨rfl, I.turnedL (ch := [z, TI, TO, i1, i2]) (fun c o hb q =>
      hk c o (fun e => hb (by simp [e])) (fun e => hb (by simp [e])) (fun e => hb (by simp [e])) (fun e => hb (by simp [e])) q) hf⟩
  self := fun A i s Q E st h => wpAny_pyIter_zip st.1 h
end PyV
set_option Elab.async false
set_option linter.all false
set_option maxRecDepth 100000
set_option maxHeartbeats 2000000
/-! Layer PyV, part 4d: zip of a range and two tuples. -/
namespace PySem
open Sem (wp)
section
variable {prog : Program} {w : World} {A : Around} {E : Value → Shared → Prop} {s : Shared}
theorem pyv_nextOf_range_item {it : Addr} {x left step : Int} {Q : Value → Shared → Prop} (hit : IsRangeIter s.heap it x left step) (hleft : 0 < left)
    (hQ : ∀ h', IsRangeIter h' it (x + step) (left - 1) step → Heap.SameBut it s.heap h' → Q (.int x s.toks) { s with heap := h', toks := s.toks + 1 }) :
    wpAny (model prog w) A (Builtin.SmallTypes.nextOf (.ref it)) Q E s := by
  have hT : s.TypeIs (.ref it) "range_iterator" := ⟨_, hit, rfl⟩
  unfold Builtin.SmallTypes.nextOf
  refine wpAny_bind (wpAny_callSpecial?_slot (name := Str.ofString "__next__") hT F.slot_range_iterator_next
    (call_meets F.slot_range_iterator_next hT F.entry_range_iterator_next (F.args_range_iterator_next_1 _) (AutoRange.range_iterator___next___range_iterator_1 it x left step (by omega)) ⟨hit, ?_⟩))
  exact wpAny_pure (hQ _ (Heap.get?_update_self _ (Heap.get?_update_self _ hit rfl) rfl) ((Heap.SameBut.update ..).trans (Heap.SameBut.update ..)))
theorem pyv_nextOf_range_end {it : Addr} {x left step : Int} {Q : Value → Shared → Prop} (hh : A.handled = none) (hit : IsRangeIter s.heap it x left step) (hleft : left ≤ 0)
    (hE : ∀ h' e, Heap.ExtBut it s.heap h' → (∃ o, h'.get? e = some o ∧ o.cls = .type "StopIteration") → E (.ref e) { s with heap := h' }) : wpAny (model prog w) A (Builtin.SmallTypes.nextOf (.ref it)) Q E s := by
  have hT : s.TypeIs (.ref it) "range_iterator" := ⟨_, hit, rfl⟩
  unfold Builtin.SmallTypes.nextOf
  refine wpAny_bind (wpAny_callSpecial?_slot (name := Str.ofString "__next__") hT F.slot_range_iterator_next
    (wpAny_call_entry F.slot_range_iterator_next hT F.entry_range_iterator_next ?_ (F.args_range_iterator_next_1 _)))
  show wpAny _ _ (field (.ref it) 0 >>= _) _ _ s
  refine wpAny_bind (wpAny_field hit rfl (x := rawInt x) rfl ?_)
  show wpAny _ _ (field (.ref it) 1 >>= _) _ _ s
  refine wpAny_bind (wpAny_field hit rfl (x := rawInt left) rfl ?_)
  show wpAny _ _ (field (.ref it) 2 >>= _) _ _ s
  refine wpAny_bind (wpAny_field hit rfl (x := rawInt step) rfl ?_)
  show wpAny _ _ (if left ≤ 0 then _ else _) _ _ s
  rw [if_pos hleft]
  refine wpAny_bind (wpAny_rule ?_)
  refine wpAny_bind ?_
  show wpAny _ _ (newExc (.type "StopIteration") [] >>= _) _ _ _
  refine wpAny_bind ?_
  simp only [newExc, newTuple]
  refine wpAny_bind (wpAny_newObj_type ?_ (by size_fits))
  refine wpAny_bind (m := firstArgMember _ _) (wpAny_of_eq (a := Value.none) (by first | rfl | (simp only [firstArgMember]; rfl)) ?_)
  refine wpAny_newObj_type ?_ (by size_fits)
  simp only [raiseNew]
  refine wpAny_bind (wpAny_handled ?_)
  first | rw [show A.in1.handled = none from hh] | rw [hh]
  refine wpAny_bind (wpAny_pure (wpAny_throw ?_))
  exact hE _ _ (((Heap.ExtBut.refl it s.heap).push _).push _) ⟨_, Heap.get?_push_size _ rfl, rfl⟩
end
theorem Draws.range {prog : Program} {w : World} {A : Around} (hh : A.handled = none) (it : Addr) (n : Nat) :
    Draws prog w A it [it] n (fun i v => ∃ t, v = .int (i : Nat) t) (fun i h => IsRangeIter h it ((i : Nat) : Int) ((n : Int) - (i : Nat)) 1) where
  live := fun _ _ st => ⟨_, st⟩
  frame := fun _ _ _ st hk => hk it (by simp) _ st
  item := fun i s Q E hi st hQ => by
    refine pyv_nextOf_range_item st (by omega) fun h' hit' hs' => hQ _ h' _ ⟨_, rfl⟩ ?_ hs'
    have e1 : ((i + 1 : Nat) : Int) = (i : Int) + 1 := by omega
    have e2 : (n : Int) - ((i + 1 : Nat) : Int) = (n : Int) - (i : Nat) - 1 := by omega
    rw [e2, e1]
    exact hit'
  done := fun s Q E st hE => pyv_nextOf_range_end hh st (by omega) hE
theorem begins_range (r : Addr) (j : Int) (t u v : Tok) (h1 : -(2 ^ 62) ≤ j) (h2 : j < 2 ^ 62) :
    Begins (.ref r) { cls := .type "range_iterator", data := .fields #[rawInt 0, rawInt ((j.toNat : Nat) : Int), rawInt 1] } fun h => IsRange h r 0 j 1 t u v where
  iter := fun prog w A E s Q hl h => by
    refine wpAny_pyIter_range hl (small_one (by decide) (by decide) h1 h2) ?_
    have e : Builtin.Range.rangeSize 0 j 1 = ((j.toNat : Nat) : Int) := by rw [rangeSize_one]; split <;> omega
    rw [e]; exact h
  keeps := fun h h' x hk => hk r _ x
  free := rfl
end PySem
namespace PyV
open PySem PySem.Spec PyProof.Rows L2
def Itz3 (K : PySem.W.Frag) (n : Nat) (a b : Addr) : It :=
  ⟨fun i H => i < n ∧ ∃ (xs ys : List V) (x y : V), SqT K H a xs ∧ SqT K H b ys ∧ xs[i]? = some x ∧ ys[i]? = some y,
    fun i H v H' => ∃ T x y, v = .ref T ∧ H T = none ∧ H' = upd H T (.tup [.int (i : Nat), x, y]) ∧ (∀ xs, SqT K H a xs → xs[i]? = some x) ∧ ∀ ys, SqT K H b ys → ys[i]? = some y,
    fun i H => ∃ xs ys : List V, SqT K H a xs ∧ SqT K H b ys ∧ i ≤ n ∧ i ≤ xs.length ∧ i ≤ ys.length ∧ (n ≤ i ∨ xs.length ≤ i ∨ ys.length ≤ i)⟩
/-- what the cells of such a zip hold -/
def Zip3 (n : Nat) (a b z TI TO i0 i1 i2 : Addr) (i : Nat) (h : Heap) : Prop :=
  IsZip h z TI TO .none ∧ IsTupOf3 h TI (.ref i0) (.ref i1) (.ref i2) ∧ (∃ x y z, IsTupOf3 h TO x y z) ∧ IsRangeIter h i0 ((i : Nat) : Int) ((n : Int) - (i : Nat)) 1 ∧ h.IsTupleIter i1 a i ∧ h.IsTupleIter i2 b i
theorem turn_zip3 {P : Program} {w : World} {K : PySem.W.Frag} {elts : List Expr} {kk : Nat} {tpos : Pos} {n : Nat} {a b z TI TO i0 i1 i2 : Addr} (S : ZipSep3 z TI TO i0 i1 i2 [i0] [i1, a] [i2, b]) :
    Turn P w K (.Tuple elts kk tpos) (Itz3 K n a b) [z, TI, TO, i0, i1, i2] z (Zip3 n a b z TI TO i0 i1 i2) where
  mem := List.mem_cons_self
  obj := fun i h st c hc => by
    obtain ⟨q1, q2, ⟨x, y, t, q3⟩, q0, ⟨o1, e1, _, d1⟩, ⟨o2, e2, _, d2⟩⟩ := st
    have cs : c = z ∨ c = TI ∨ c = TO ∨ c = i0 ∨ c = i1 ∨ c = i2 := by simpa using hc
    rcases cs with rfl | rfl | rfl | rfl | rfl | rfl
    · exact ⟨_, q1, fun v q => nomatch q⟩
    · exact ⟨_, q2, fun v q => nomatch q⟩
    · exact ⟨_, q3, fun v q => nomatch q⟩
    · exact ⟨_, q0, fun v q => nomatch q⟩
    · exact ⟨o1, e1, fun v q => by rw [d1] at q; cases q⟩
    · exact ⟨o2, e2, fun v q => by rw [d2] at q; cases q⟩
  keep := fun i h h2 st k => by
    obtain ⟨q1, q2, ⟨x, y, t, q3⟩, q0, q4, q5⟩ := st
    exact ⟨k _ (by simp) _ q1, k _ (by simp) _ q2, ⟨x, y, t, k _ (by simp) _ q3⟩, k _ (by simp) _ q0, q4.at fun o q => k _ (by simp) o q, q5.at fun o q => k _ (by simp) o q⟩
  item := by
    intro X hP hw hK hc i pins s σ H E I hf st hg
    subst hP hw hK
    obtain ⟨q1, q2, ⟨x0, y0, t0, q3⟩, q0, q4, q5⟩ := st
    obtain ⟨hn, xs, ys, x, y, sx, sy, gx, gy⟩ := hg
    obtain ⟨its, rv, p, _⟩ := I.tuple sx
    obtain ⟨its2, rv2, p2, _⟩ := I.tuple sy
    obtain ⟨u, hu, ru⟩ := rv.get gx
    obtain ⟨u2, hu2, ru2⟩ := rv2.get gy
    have zl : z < s.heap.objs.size := Heap.lt_size q1
    have h1 : i < its.toArray.size := by obtain ⟨z, _⟩ := List.getElem?_eq_some_iff.mp hu; simpa using z
    have h2 : i < its2.toArray.size := by obtain ⟨z, _⟩ := List.getElem?_eq_some_iff.mp hu2; simpa using z
    refine wpAny_pyNext_zipD3_item S (Draws.range (show X.A.in1.handled = none from I.ok.hd hc) i0 n) (Draws.tuple (show X.A.in1.handled = none from I.ok.hd hc) i1 a (tup_ne p q4) its.toArray) (Draws.tuple (show X.A.in1.handled = none from I.ok.hd hc) i2 b (tup_ne p2 q5) its2.toArray)
      q1 q2 q3 q0 ⟨q4, p⟩ ⟨q5, p2⟩ hn h1 h2 fun v0 v1 v2 h' tk e0 e1 e2 z' TO' s0 s1 s2 hT hsz hk => ?_
    obtain ⟨t, rfl⟩ := e0
    have e1 : v1 = u := by have e1 : its[i]? = some v1 := by simpa using e1
                           rw [hu] at e1; exact (Option.some.inj e1).symm
    have e2 : v2 = u2 := by have e2 : its2[i]? = some v2 := by simpa using e2
                            rw [hu2] at e2; exact (Option.some.inj e2).symm
    subst e1 e2
    refine ⟨_, rfl, wpAny_letOwnedTupleGo_zip (s := { s with heap := h', toks := tk }) z' fun h3 z3 sb => ?_⟩
    have hT2 : h3.get? s.heap.objs.size = some { cls := .type "tuple", data := .seq #[.int (i : Nat) t, v1, v2] } := (sb.2 _ (Nat.ne_of_gt zl)).trans hT
    have new : ObjOk X.prog X.w (upd H s.heap.objs.size (.tup [.int (i : Nat), x, y])) h3 s.heap.objs.size (.tup [.int (i : Nat), x, y]) :=
      ⟨by show 3 ≤ sizeLine; decide, [.int (i : Nat) t, v1, v2], .cons ⟨_, rfl⟩ (.cons ru (.cons ru2 .nil)), ⟨_, hT2, rfl, _, rfl⟩⟩
    have I1 : Inv X pins σ (upd H s.heap.objs.size (.tup [.int (i : Nat), x, y])) { s with heap := h3, toks := tk } :=
      I.turnedNew (ch := [z, TI, TO, i0, i1, i2]) (fun c o hb q => (sb.2 c (fun e => hb (by simp [e]))).trans (hk c o (fun e => hb (by simp [e])) (fun e => hb (by simp [e])) (fun e => hb (by simp [e])) (fun e => hb (by simp [e])) (fun e => hb (by simp [e])) q)) hf (Nat.le_refl _) new
    refine ⟨.ref s.heap.objs.size, _, I1, rfl, ⟨_, x, y, rfl, I.hok.fresh (Nat.le_refl _), rfl, fun l hl => by rw [I.tuple_inj hl sx]; exact gx, fun l hl => by rw [I.tuple_inj hl sy]; exact gy⟩, ⟨z3, ?_, ⟨.int (i : Nat) t, v1, v2, ?_⟩, ?_, ?_, ?_⟩, fun c hcm => ?_⟩
    · exact (sb.2 _ S.TIz).trans (hk _ _ S.TIz S.TITO S.TIi1 S.TIi2 S.TIi3 q2)
    · exact (sb.2 _ S.TOz).trans TO'
    · exact (sb.2 _ S.zi1.symm).trans s0
    · exact s1.1.at fun o q => (sb.2 _ S.zi2.symm).trans q
    · exact s2.1.at fun o q => (sb.2 _ S.zi3.symm).trans q
    · have lt : c < s.heap.objs.size := by
        have cs : c = z ∨ c = TI ∨ c = TO ∨ c = i0 ∨ c = i1 ∨ c = i2 := by simpa using hcm
        rcases cs with rfl | rfl | rfl | rfl | rfl | rfl
        · exact zl
        · exact Heap.lt_size q2
        · exact Heap.lt_size q3
        · exact Heap.lt_size q0
        · obtain ⟨_, e, _⟩ := q4; exact Heap.lt_size e
        · obtain ⟨_, e, _⟩ := q5; exact Heap.lt_size e
      rw [upd_ne (Nat.ne_of_lt lt)]
      exact (hf c hcm).1
  done := by
    intro X hP hw hK hc i pins s σ H E I hf st hg
    subst hP hw hK
    obtain ⟨q1, q2, ⟨x0, y0, t0, q3⟩, q0, q4, q5⟩ := st
    obtain ⟨xs, ys, sx, sy, l0, l1, l2, hend⟩ := hg
    obtain ⟨its, rv, p, _⟩ := I.tuple sx
    obtain ⟨its2, rv2, p2, _⟩ := I.tuple sy
    have m1 := rv.length
    have m2 := rv2.length
    refine wpAny_pyNext_zipD3_end S (Draws.range (show X.A.in1.handled = none from I.ok.hd hc) i0 n) (Draws.tuple (show X.A.in1.handled = none from I.ok.hd hc) i1 a (tup_ne p q4) its.toArray) (Draws.tuple (show X.A.in1.handled = none from I.ok.hd hc) i2 b (tup_ne p2 q5) its2.toArray)
      q1 q2 q3 q0 ⟨q4, p⟩ ⟨q5, p2⟩ l0 (by simp; omega) (by simp; omega) (by simp; omega) fun h' tk hk => ⟨rfl, I.turnedL (ch := [z, TI, TO, i0, i1, i2]) (fun c o hb q =>
      hk c o (fun e => hb (by simp [e])) (fun e => hb (by simp [e])) (fun e => hb (by simp [e])) (fun e => hb (by simp [e])) (fun e => hb (by simp [e])) q) hf⟩
  self := fun A i s Q E st h => wpAny_pyIter_zip st.1 h

/-! ### cells that are tracked as they are, and forgotten -/
section
variable {X : Cx} {pins : List (Addr × Obj)} {σ : L2.St} {H H' : Hp} {s : Shared}
/-- new objects laid and tracked -/
theorem inv_laidL {cs : List Addr} {h' : Heap} {t' : Nat} (I : Inv X pins σ H s) (k : ∀ b u, s.heap.get? b = some u → h'.get? b = some u) (hp : ∀ b ∈ cs, s.heap.objs.size ≤ b) (out : ∀ b, b ∉ cs → H' b = H b)
    (new : ∀ b ∈ cs, ∀ u, H' b = some u → ObjOk X.prog X.w H' h' b u) : Inv X pins σ H' { s with heap := h', toks := t' } := by
  have old : ∀ b u, s.heap.get? b = some u → H' b = H b := fun b u e => out b fun z => absurd (Heap.lt_size e) (Nat.not_lt.mpr (hp b z))
  have fr : ∀ b ∈ cs, H b = none := fun b hb => I.hok.fresh (hp b hb)
  have trk : ∀ b u, H b = some u → H' b = some u := fun b u e => by
    rw [out b fun z => by rw [fr b z] at e; cases e]; exact e
  refine I.un (t' := t') ⟨fun b o e _ _ _ => k b o e, fun b o e _ _ _ => ⟨o.slots, k b o e⟩, fun b o e n _ => by rw [old b o e]; exact n, fun b o e _ => ⟨o, k b o e⟩, fun b xs e => trk b _ e, fun b o x e => trk b _ e, fun b ps e => ⟨#[], by rw [trk b _ e]; simp⟩⟩ fun b u e => ?_
  by_cases hb : b ∈ cs
  · exact new b hb u e
  · rw [out b hb] at e
    exact (I.hok b u e).stay (fun c v _ q => k c v q) (fun c q => trk _ _ q) fun c xs q => trk _ _ q
/-- they are forgotten -/
theorem inv_dropL {cs : List Addr} (I : Inv X pins σ H' s) (out : ∀ b, b ∉ cs → H' b = H b) (inn : ∀ b ∈ cs, H b = none ∧ ∃ φ, H' b = some (.ext φ)) : Inv X pins σ H s := by
  have other : ∀ b u, H' b = some u → (∀ ψ, u ≠ .ext ψ) → H b = some u := fun b u e n => by
    by_cases hb : b ∈ cs
    · obtain ⟨_, φ, q⟩ := inn b hb
      rw [e] at q
      exact absurd (Option.some.inj q) (n φ)
    · rw [← out b hb]; exact e
  have sub : ∀ b u, H b = some u → H' b = some u := fun b u e => by
    by_cases hb : b ∈ cs
    · rw [(inn b hb).1] at e; cases e
    · rw [out b hb]; exact e
  have non : ∀ b, H' b = none → H b = none := fun b e => by
    cases q : H b with
    | none => rfl
    | some u => rw [sub b u q] at e; cases e
  have hok : HOk X.prog X.w H s.heap := fun b u e => (I.hok b u (sub b u e)).stay (fun _ _ _ z => z) (fun c z => other c _ z fun _ w => (nomatch w)) fun c xs z => other c _ z fun _ w => (nomatch w)
  have u : Un X.fs [] H' H s.heap s.heap := ⟨fun _ _ e _ _ _ => e, fun _ o e _ _ _ => ⟨o.slots, e⟩, fun b _ _ z _ => non b z, fun _ o e _ => ⟨o, e⟩, fun b xs z => other b _ z fun _ w => (nomatch w),
    fun b o x z => other b _ z fun _ w => (nomatch w), fun b ps z => ⟨#[], by rw [other b _ z fun _ w => (nomatch w)]; simp⟩⟩
  exact I.un (t' := s.toks) u hok
theorem inv_fpL {b : Addr} {u : HO} (I : Inv X pins σ H' s) (h : H' b = some u) (h0 : H b = none) (hn : X.s_0.heap.objs.size ≤ b) : FpOk X pins H b := by
  refine ⟨h0, fun z => ?_, fun z => ?_, .inr hn, fun x c e z => ?_, fun p hp z => ?_⟩
  · rw [z, I.free] at h
    cases h
  · obtain ⟨_, o, ho, _⟩ := I.ok.funs.mem z
    exact absurd (Nat.lt_of_lt_of_le (Heap.lt_size ho) hn) (Nat.lt_irrefl _)
  · have q := I.freeC x c e
    rw [z, h] at q
    cases q
  · have q := (I.pin p hp).2.1
    rw [z, h] at q
    cases q
end
/-- a kept iterator z with its cells cs: as it stands in H' it is tracked, in H forgotten -/
structure Kept (P : Program) (w : World) (K : PySem.W.Frag) (n : Nat) (tg : Expr) (J : It) (z : Addr) (cs : List Addr) (H H' : Hp) : Prop where
  out : ∀ b, b ∉ cs → H' b = H b
  inn : ∀ b ∈ cs, n ≤ b ∧ H b = none ∧ ∃ φ, H' b = some (.ext φ)
  turn : ∃ tn, Turn P w K tg J cs z tn ∧ ∀ h, (∀ b φ, H' b = some (.ext φ) → b ∈ cs → φ h) → tn 0 h
theorem Kept.same {P : Program} {w : World} {K : PySem.W.Frag} {n : Nat} {tg : Expr} {J : It} {z : Addr} {cs : List Addr} {H H' : Hp} (k : Kept P w K n tg J z cs H H') : Same H H' := fun b u e => by
  by_cases hb : b ∈ cs
  · rw [(k.inn b hb).2.1] at e; cases e
  · rw [k.out b hb]; exact e
def iKept (P : Program) (w : World) (K : PySem.W.Frag) (n : Nat) (tg : Expr) (k : Nat) : TI := fun σ H' R => ∃ (z : Addr) (cs : List Addr) (J : It) (H : Hp), σ[k]? = some (some (.ref z)) ∧ Kept P w K n tg J z cs H H' ∧ R J H
theorem pi_kept {X : Cx} {tg : Expr} {k : Nat} {x : Str} {p : Pos} (hN : X.N[k]? = some x) (hv : L2.Vis X.env.scope x) (hd : (x == ("__debug__" : Str)) = false) (hcd : (x == ("__classdict__" : Str)) = false) :
    PI X tg (.Name x p) (iKept X.prog X.w X.K X.s_0.heap.objs.size tg k) := by
  refine ⟨fun pins s σ H' R I h => ?_⟩
  obtain ⟨z, cs, J, H, hs, hk, q⟩ := h
  refine thn ((pe_var (pos := p) (i := k) hN hv hd hcd).run pins s σ H' (fun v H1 => v = .ref z ∧ H1 = H') I ⟨.ref z, hs, rfl, rfl⟩) fun u s1 ⟨v, H1, I1, r1, ev, eH⟩ => ?_
  subst ev
  rw [eH] at I1
  cases r1
  obtain ⟨tn, tu, t0⟩ := hk.turn
  have st : tn 0 s1.heap := t0 _ fun b φ e _ => (I1.hok b _ e).1
  refine tu.self X.A 0 s1 _ _ st ?_
  refine ⟨z, cs, tn, J, H, rfl, inv_dropL I1 hk.out fun b hb => (hk.inn b hb).2, tu, st, fun b hb => ?_, q⟩
  obtain ⟨h1, h2, φ, h3⟩ := hk.inn b hb
  exact inv_fpL I1 h3 h2 h1
end PyV
set_option Elab.async false
set_option linter.all false
set_option maxRecDepth 100000
set_option maxHeartbeats 1000000
/-! Layer PyV, part 5: the evaluator is right on expressions. -/
namespace PyV
open PySem PySem.Spec PyProof.Rows L2

theorem slotOf_get {N : List Str} {x : Str} {i : Nat} (h : slotOf N x = some i) : N[i]? = some x := by
  unfold slotOf at h
  obtain ⟨hlt, hp, _⟩ := List.findIdx?_eq_some_iff_getElem.mp h
  rw [List.getElem?_eq_getElem hlt]
  exact congrArg some (eq_of_beq hp)
theorem plainB_ok {x : Str} (h : plainB x = true) : (x == ("__debug__" : Str)) = false ∧ (x == ("__classdict__" : Str)) = false ∧ x ≠ "__name__" := by
  unfold plainB at h
  simp only [Bool.and_eq_true, Bool.not_eq_true'] at h
  exact ⟨h.1.1, h.1.2, fun e => by rw [e] at h; have := h.2; simp at this⟩
theorem visB_ok {sc : Scope} {x : Str} (h : visB sc x = true) : L2.Vis sc x := by
  unfold visB at h
  split at h
  · rename_i e; exact .inl e
  · rename_i e; exact .inr (.inl e)
  · rename_i e; exact .inr (.inr e)
  · cases h
theorem glB_ok {X : Cx} {x : Str} (h : glB X.env.scope x = true) : Gl X x := by
  unfold glB at h
  split at h
  · rename_i e; exact e
  · cases h
theorem starEach_cons {e : Expr} {es : List Expr} {env : PySem.Env} (h : noStar e = true) : starEach (e :: es) env = (false, eval e env) :: starEach es env := by
  cases e <;> first | rfl | (cases h)
theorem nameIs_eq {x : Str} {y : String} (h : nameIs x y = true) : x = Str.ofString y := eq_of_beq h
theorem binop_exc {op : Operator} {p q : PV} : ∀ c fs, binop op p q ≠ .exc c fs := by
  intro c fs h
  unfold binop at h
  split at h <;> first | cases h | (unfold need at h; split at h <;> cases h)
theorem unop_exc {op : UnaryOp} {p : PV} : ∀ c fs, unop op p ≠ .exc c fs := by
  intro c fs h
  unfold unop at h
  split at h <;> cases h
theorem and_split {a b : Bool} (h : (a && b) = true) : a = true ∧ b = true := by simpa using h
theorem isIn_exc {p q : PV} : ∀ c fs, isIn p q ≠ .exc c fs := by
  intro c fs h
  unfold isIn at h
  split at h <;> first | cases h | (unfold need at h; split at h <;> cases h) | (unfold inStr at h; split at h <;> cases h)
theorem cmpop_exc {op : CmpOp} {p q : PV} : ∀ c fs, cmpop op p q ≠ .exc c fs := by
  intro c fs h
  unfold cmpop at h
  split at h <;> first | cases h | (unfold need at h; split at h <;> cases h) | (exact isIn_exc _ _ h) | skip
  cases z : isIn p q with
  | ok k => rw [z] at h; cases h
  | exc c' fs' => exact isIn_exc _ _ z
  | stuck => rw [z] at h; cases h
theorem ofOpt_exc {α : Type} {x : Option α} : ∀ c fs, ofOpt x ≠ .exc c fs := by
  intro c fs h
  cases x <;> cases h
theorem index_exc {p q : PV} : ∀ c fs, index p q ≠ .exc c fs := by
  intro c fs h
  unfold index at h
  split at h <;> first | exact ofOpt_exc _ _ h | (unfold need at h; split at h <;> first | exact ofOpt_exc _ _ h | cases h) | cases h
theorem slice_exc {p : PV} {l u : Option Int} : ∀ c fs, slice p l u ≠ .exc c fs := by
  intro c fs h
  unfold slice at h
  split at h <;> cases h
theorem truth_exc {p : PV} : ∀ c fs, truth p ≠ .exc c fs := by
  intro c fs h
  unfold truth at h
  split at h <;> cases h

section
variable {P : Prog} {call : Str → List PV → R PV} {N : List Str} {X : Cx} {k : Nat} {W : WX} {I : List Nat} {n : Nat} {a b c : Expr} {p : Pos}
theorem s_const {c : Const} {j : Nat} (h : goodB c = true) : PE X (.Constant c j p) (tE P call N X W I (n + 1) (.Constant c j p)) := by
  cases c with
  | none =>
    refine pe_non.imp fun σ H Q h => ?_
    obtain ⟨r, ρ, at_, h⟩ := h
    exact (OutF.out h).at .non rfl
  | bool b =>
    refine pe_bl.imp fun σ H Q h => ?_
    obtain ⟨r, ρ, at_, h⟩ := h
    exact (OutF.out h).at (.bl b) rfl
  | int i =>
    refine pe_int.imp fun σ H Q h => ?_
    obtain ⟨r, ρ, at_, h⟩ := h
    exact (OutF.out h).at (.int i) rfl
  | str x =>
    refine pe_str.imp fun σ H Q h' => ?_
    obtain ⟨r, ρ, at_, h'⟩ := h'
    have g : goodS x.cps.toList := by
      simp only [goodB, Bool.and_eq_true, decide_eq_true_eq, List.all_eq_true] at h
      exact ⟨line_eq ▸ h.1, fun c hc => h.2 c hc⟩
    have e : x = ⟨x.cps.toList.toArray⟩ := by cases x; rfl
    have := (OutF.out h').at (v := .str ⟨x.cps.toList.toArray⟩) (.str _ g) rfl
    rw [← e] at this
    exact this
  | float _ => exact ⟨fun pins s σ H Q I q => by obtain ⟨r, ρ, at_, h⟩ := q; exact h.elim⟩
  | complex _ _ => exact ⟨fun pins s σ H Q I q => by obtain ⟨r, ρ, at_, h⟩ := q; exact h.elim⟩
  | bytes _ => exact ⟨fun pins s σ H Q I q => by obtain ⟨r, ρ, at_, h⟩ := q; exact h.elim⟩
  | ellipsis => exact ⟨fun pins s σ H Q I q => by obtain ⟨r, ρ, at_, h⟩ := q; exact h.elim⟩
theorem s_name (cx : Ctx P call N X k) {x : Str} (h1 : plainB x = true) (h2 : (match slotOf N x with | some i => visB X.env.scope x && I.contains i | none => glB X.env.scope x) = true) : PE X (.Name x p) (tE P call N X W I (n + 1) (.Name x p)) := by
  obtain ⟨p1, p2, p3⟩ := plainB_ok h1
  cases z : slotOf N x with
  | some i =>
    rw [z] at h2
    simp only [Bool.and_eq_true] at h2
    refine (pe_var (i := i) (x := x) (by rw [cx.n]; exact slotOf_get z) (visB_ok h2.1) p1 p2).imp fun σ H Q h => ?_
    obtain ⟨r, ρ, at_, h⟩ := h
    have h : Post X W σ H (match slotOf N x with
      | some i => match ρ[i]? with
        | some (some v) => .ok v.1
        | _ => .stuck
      | none => ofOpt (P.consts.lookup x)) (fun z => OutF false r H z Q) := h
    rw [z] at h
    cases e : ρ[i]? with
    | none => simp only [e] at h; exact h.elim
    | some o =>
      cases o with
      | none => simp only [e] at h; exact h.elim
      | some v =>
        simp only [e] at h
        obtain ⟨w', e1, q⟩ := at_.vis i v h2.2 e
        exact ⟨w', e1, (OutF.outOld h).at q⟩
  | none =>
    rw [z] at h2
    cases e : P.consts.lookup x with
    | none =>
      refine ⟨fun pins s σ H Q I q => ?_⟩
      obtain ⟨r, ρ, at_, h⟩ := q
      have h : Post X W σ H (match slotOf N x with
        | some i => match ρ[i]? with
          | some (some v) => .ok v.1
          | _ => .stuck
        | none => ofOpt (P.consts.lookup x)) (fun z => OutF false r H z Q) := h
      rw [z] at h
      simp only [e] at h
      exact h.elim
    | some pv =>
      obtain ⟨u, v, e1, e2, e3⟩ := cx.consts x pv e
      refine (pe_glob (x := x) (glB_ok h2) e1 e2 p1).imp fun σ H Q h => ?_
      obtain ⟨r, ρ, at_, h⟩ := h
      have h : Post X W σ H (match slotOf N x with
        | some i => match ρ[i]? with
          | some (some v) => .ok v.1
          | _ => .stuck
        | none => ofOpt (P.consts.lookup x)) (fun z => OutF false r H z Q) := h
      rw [z] at h
      simp only [e] at h
      exact (OutF.outOld h).at (e3 r H at_.k)
theorem s_binop (S : Sound P call N n) (cx : Ctx P call N X k) (tk : Takes X W) {op : Operator} (ha : wfE P N n X.env.scope I a = true) (hb : wfE P N n X.env.scope I b = true) :
    PE X (.BinOp a op b p) (tE P call N X W I (n + 1) (.BinOp a op b p)) := by
  refine (pe_op (binop_ok op) (S.e X k W cx tk I a ha) (S.e X k W cx tk I b hb)).imp fun σ H Q h => ?_
  obtain ⟨r, ρ, at_, h⟩ := h
  have h : Post X W σ H (R.bind (denE P call N n a ρ) fun v => R.bind (denE P call N n b ρ) fun w => binop op v w) (fun z => OutF true r H z Q) := h
  refine tE.of at_ h.bind fun z hz x H1 s1 rx _ => tE.of (at_.same s1) (hz.bind.same s1) fun z2 hz2 y H2 s2 ry _ => ?_
  obtain ⟨w', e, q⟩ := hz2.pure binop_exc
  exact ⟨r, z, z2, w', at_.k, (at_.same (s1.trans s2)).al, rx.same s2, ry, e, q.out.same (s1.trans s2)⟩
theorem s_unop (S : Sound P call N n) (cx : Ctx P call N X k) (tk : Takes X W) {op : UnaryOp} (hop : op ≠ .Not) (ha : wfE P N n X.env.scope I a = true) :
    PE X (.UnaryOp op a p) (tE P call N X W I (n + 1) (.UnaryOp op a p)) := by
  refine (pe_un (unop_ok op) (S.e X k W cx tk I a ha)).imp fun σ H Q h => ?_
  obtain ⟨r, ρ, at_, h⟩ := h
  have h : Post X W σ H (R.bind (denE P call N n a ρ) fun v => unop op v) (fun z => OutF true r H z Q) := by
    cases op <;> first | exact h | exact absurd rfl hop
  refine tE.of at_ h.bind fun z hz x H1 s1 rx _ => ?_
  obtain ⟨w', e, q⟩ := hz.pure unop_exc
  exact ⟨r, z, w', at_.k, (at_.same s1).al, rx, e, q.out.same s1⟩
theorem s_not (S : Sound P call N n) (cx : Ctx P call N X k) (tk : Takes X W) (ha : wfE P N n X.env.scope I a = true) :
    PE X (.UnaryOp .Not a p) (tE P call N X W I (n + 1) (.UnaryOp .Not a p)) := by
  refine (pe_not (S.e X k W cx tk I a ha)).imp fun σ H Q h => ?_
  obtain ⟨r, ρ, at_, h⟩ := h
  have h : Post X W σ H (R.bind (denE P call N n a ρ) fun v => match v with
      | .bl c => .ok (.bl (!c))
      | _ => .stuck) (fun z => OutF true r H z Q) := h
  refine tE.of at_ h.bind fun z hz x H1 s1 rx _ => ?_
  cases rx with
  | bl b => exact ⟨b, rfl, (OutF.out (OutF.same s1 hz)).at (.bl _) rfl⟩
  | _ => exact hz.elim
theorem s_cmp (S : Sound P call N n) (cx : Ctx P call N X k) (tk : Takes X W) {op : CmpOp} (ha : wfE P N n X.env.scope I a = true) (hb : wfE P N n X.env.scope I b = true) (hs : noSet b = true) :
    PE X (.Compare a [op] [b] p) (tE P call N X W I (n + 1) (.Compare a [op] [b] p)) := by
  have hu : X.A.units + 65 < cLine := by have := cx.room.un; omega
  refine (pe_cmpR (cmpop_ok hu op) (S.e X k W cx tk I a ha) (S.e X k W cx tk I b hb) (by cases b <;> first | rfl | (cases hs))).imp fun σ H Q h => ?_
  obtain ⟨r, ρ, at_, h⟩ := h
  have h : Post X W σ H (R.bind (denE P call N n a ρ) fun v => R.bind (denE P call N n b ρ) fun w => R.bind (cmpop op v w) fun c => .ok (.bl c)) (fun z => OutF true r H z Q) := h
  refine tE.of at_ h.bind fun z hz x H1 s1 rx _ => tE.of (at_.same s1) (hz.bind.same s1) fun z2 hz2 y H2 s2 ry _ => ?_
  obtain ⟨w', e, q⟩ := hz2.bind.pure cmpop_exc
  exact ⟨r, z, z2, w', at_.k, (at_.same (s1.trans s2)).al, rx.same s2, ry, e, (OutF.out (OutF.same (s1.trans s2) q)).at (.bl _) rfl⟩
theorem s_chain (S : Sound P call N n) (cx : Ctx P call N X k) (tk : Takes X W) {op op2 : CmpOp} (ha : wfE P N n X.env.scope I a = true) (hb : wfE P N n X.env.scope I b = true) (hc : wfE P N n X.env.scope I c = true) (hs : noSet b = true) (hs2 : noSet c = true) :
    PE X (.Compare a [op, op2] [b, c] p) (tE P call N X W I (n + 1) (.Compare a [op, op2] [b, c] p)) := by
  have hu : X.A.units + 65 < cLine := by have := cx.room.un; omega
  refine (pe_chain (cmpop_ok hu op) (cmpop_ok hu op2) (S.e X k W cx tk I a ha) (S.e X k W cx tk I b hb) (S.e X k W cx tk I c hc) (by cases c <;> first | rfl | (cases hs2))).imp fun σ H Q h => ?_
  obtain ⟨r, ρ, at_, h⟩ := h
  have h : Post X W σ H (R.bind (denE P call N n a ρ) fun v => R.bind (denE P call N n b ρ) fun w => R.bind (cmpop op v w) fun k =>
        if k = true then R.bind (denE P call N n c ρ) fun z => R.bind (cmpop op2 w z) fun k2 => .ok (.bl k2) else .ok (.bl false)) (fun z => OutF true r H z Q) := h
  refine tE.of at_ h.bind fun z hz x H1 s1 rx _ => tE.of (at_.same s1) (hz.bind.same s1) fun z2 hz2 y H2 s2 ry _ => ?_
  obtain ⟨w', e, q⟩ := hz2.bind.pure cmpop_exc
  refine ⟨r, z, z2, w', at_.k, (at_.same (s1.trans s2)).al, rx.same s2, ry, e, w', rfl, ?_⟩
  cases w' with
  | true =>
    simp only [if_true] at q ⊢
    refine tE.of (at_.same (s1.trans s2)) (q.bind.same (s1.trans s2)) fun z3 hz3 y3 H3 s3 r3 _ => ?_
    obtain ⟨w3, e3, q3⟩ := hz3.bind.pure cmpop_exc
    exact ⟨r, z2, z3, w3, at_.k, (at_.same ((s1.trans s2).trans s3)).al, ry.same s3, r3, e3, (OutF.out (OutF.same ((s1.trans s2).trans s3) q3)).at (.bl _) rfl⟩
  | false =>
    simp only [Bool.false_eq_true, if_false] at q ⊢
    exact (OutF.out (OutF.same (s1.trans s2) q)).at (.bl _) rfl
theorem s_ifExp (S : Sound P call N n) (cx : Ctx P call N X k) (tk : Takes X W) (hc : wfT P N n X.env.scope I c = true) (ha : wfE P N n X.env.scope I a = true) (hb : wfE P N n X.env.scope I b = true) :
    PE X (.IfExp c a b p) (tE P call N X W I (n + 1) (.IfExp c a b p)) := by
  refine (pe_ifExp (S.t X k W cx tk I c hc) (S.e X k W cx tk I a ha) (S.e X k W cx tk I b hb)).imp fun σ H Q h => ?_
  obtain ⟨r, ρ, at_, h⟩ := h
  have h : Post X W σ H (R.bind (denT P call N n c ρ) fun k => if k = true then denE P call N n a ρ else denE P call N n b ρ) (fun z => OutF (freshE P a && freshE P b) r H z Q) := h
  refine tT.of at_ h.bind fun z hz H1 s1 => ?_
  cases z with
  | true =>
    simp only [if_true] at hz ⊢
    refine tE.of (at_.same s1) (hz.same s1) fun z2 hz2 v H2 s2 r2 f => hz2 v H2 (s1.trans s2) r2 fun e => (f ?_).back s1
    simp only [Bool.and_eq_true] at e; exact e.1
  | false =>
    simp only [Bool.false_eq_true, if_false] at hz ⊢
    refine tE.of (at_.same s1) (hz.same s1) fun z2 hz2 v H2 s2 r2 f => hz2 v H2 (s1.trans s2) r2 fun e => (f ?_).back s1
    simp only [Bool.and_eq_true] at e; exact e.2
theorem noSlice_ix (h : noSlice b = true) : PlainIx b := by
  intro o i
  cases b <;> first | rfl | (cases h)
theorem s_index (S : Sound P call N n) (cx : Ctx P call N X k) (tk : Takes X W) (ha : wfE P N n X.env.scope I a = true) (hb : wfE P N n X.env.scope I b = true) (hs : noSlice b = true) :
    PE X (.Subscript a b p) (tE P call N X W I (n + 1) (.Subscript a b p)) := by
  have hu : X.A.units + 1 < cLine := by have := cx.room.un; omega
  cases hc : cdict P N a with
  | none =>
    refine (pe_ix (index_ok hu) (S.e X k W cx tk I a ha) (S.e X k W cx tk I b hb) (noSlice_ix hs)).imp fun σ H Q h => ?_
    obtain ⟨r, ρ, at_, h⟩ := h
    have h : Post X W σ H (match cdict P N a with
      | some ps => R.bind (denE P call N n b ρ) fun w => ofOpt (dget ps w)
      | none => R.bind (denE P call N n a ρ) fun v => R.bind (denE P call N n b ρ) fun w => index v w) (fun z => OutF false r H z Q) := by
      cases b <;> first | exact h | (cases hs)
    rw [hc] at h
    refine tE.of at_ h.bind fun z hz x H1 s1 rx _ => tE.of (at_.same s1) (hz.bind.same s1) fun z2 hz2 y H2 s2 ry _ => ?_
    obtain ⟨w', e, q⟩ := hz2.pure index_exc
    exact ⟨r, z, z2, w', at_.k, rx.same s2, ry, e, q.outOld.same (s1.trans s2)⟩
  | some ps =>
    cases a with
    | Name x px =>
      have hc' : (match slotOf N x with
        | some _ => none
        | none => P.dcts.lookup x) = some ps := hc
      cases z : slotOf N x with
      | some i => rw [z] at hc'; cases hc'
      | none =>
        rw [z] at hc'
        cases n with
        | zero => cases ha
        | succ n =>
          obtain ⟨h1, h2⟩ := and_split (show (plainB x && match slotOf N x with | some i => visB X.env.scope x && I.contains i | none => glB X.env.scope x) = true from ha)
          rw [z] at h2
          obtain ⟨p1, p2, p3⟩ := plainB_ok h1
          obtain ⟨da, e1, _, _, e2⟩ := cx.dcts x ps hc'
          refine (pe_ix ix_kdict (pe_glob (x := x) (v := .ref da) (glB_ok h2) e1 rfl p1) (S.e X k W cx tk I b hb) (noSlice_ix hs)).imp fun σ H Q h => ?_
          obtain ⟨r, ρ, at_, h⟩ := h
          have h : Post X W σ H (match cdict P N (.Name x px) with
            | some ps => R.bind (denE P call N (n + 1) b ρ) fun w => ofOpt (dget ps w)
            | none => R.bind (denE P call N (n + 1) (.Name x px) ρ) fun v => R.bind (denE P call N (n + 1) b ρ) fun w => index v w) (fun z => OutF false r H z Q) := by
            cases b <;> first | exact h | (cases hs)
          rw [hc] at h
          refine tE.of at_ h.bind fun z2 hz2 y H2 s2 ry _ => ?_
          obtain ⟨w', e, q⟩ := hz2.pure ofOpt_exc
          obtain ⟨s0, v, rfl, kd, rp⟩ := e2 z2 w' (ofOpt_ok e)
          cases ry with
          | str _ g => exact ⟨da, _, v, rfl, rfl, kd, q.outOld v H2 s2 (rp r H2 at_.k)⟩
    | _ => cases hc
theorem s_slice (S : Sound P call N n) (cx : Ctx P call N X k) (tk : Takes X W) {lo hi : Option Expr} {p2 : Pos} (ha : wfE P N n X.env.scope I a = true) (hl : wfO P N n X.env.scope I lo = true) (hh : wfO P N n X.env.scope I hi = true) :
    PE X (.Subscript a (.Slice lo hi none p2) p) (tE P call N X W I (n + 1) (.Subscript a (.Slice lo hi none p2) p)) := by
  refine (pe_slice slice_ok (S.e X k W cx tk I a ha) (S.o X k W cx tk I lo hl) (S.o X k W cx tk I hi hh)).imp fun σ H Q h => ?_
  obtain ⟨r, ρ, at_, h⟩ := h
  have h : Post X W σ H (R.bind (denE P call N n a ρ) fun v => R.bind (denO P call N n lo ρ) fun l => R.bind (denO P call N n hi ρ) fun h => slice v l h) (fun z => OutF true r H z Q) := h
  refine tE.of at_ h.bind fun z hz x H1 s1 rx _ => ⟨r, ρ, at_.same s1, (hz.bind.same s1).mono fun l hl H2 s2 => ⟨r, ρ, at_.same (s1.trans s2), (hl.bind.same (s1.trans s2)).mono fun u hu H3 s3 => ?_⟩⟩
  obtain ⟨w', e, q⟩ := hu.pure slice_exc
  exact ⟨r, z, w', at_.k, (at_.same ((s1.trans s2).trans s3)).al, rx.same (s2.trans s3), e, q.out.same ((s1.trans s2).trans s3)⟩
theorem isRevSl_ok {lo hi : Option Expr} {st : Expr} {p2 : Pos} (h : isRevSl (.Slice lo hi (some st) p2) = true) : ∃ kk q1 q2, lo = none ∧ hi = none ∧ st = .UnaryOp .USub (.Constant (.int 1) kk q1) q2 := by
  unfold isRevSl at h
  split at h
  · rename_i e
    cases e
    exact ⟨_, _, _, rfl, rfl, rfl⟩
  · cases h
theorem s_rev (S : Sound P call N n) (cx : Ctx P call N X k) (tk : Takes X W) {kk : Nat} {p1 p2 p3 : Pos} (ha : wfE P N n X.env.scope I a = true) :
    PE X (.Subscript a (.Slice none none (some (.UnaryOp .USub (.Constant (.int 1) kk p1) p2)) p3) p) (tE P call N X W I (n + 1) (.Subscript a (.Slice none none (some (.UnaryOp .USub (.Constant (.int 1) kk p1) p2)) p3) p)) := by
  refine (pe_rev (S.e X k W cx tk I a ha)).imp fun σ H Q h => ?_
  obtain ⟨r, ρ, at_, h⟩ := h
  have h : Post X W σ H (R.bind (denE P call N n a ρ) revPV) (fun z => OutF true r H z Q) := h
  refine tE.of at_ h.bind fun z hz x H1 s1 rx _ => ?_
  cases rx with
  | lst n' s' rs =>
    have hz : OutF true r H (.lst _) Q := hz
    exact .inl ⟨_, _, rfl, SqL.of s', fun p np => (OutF.out (OutF.same s1 hz)).lst (at_.same s1).al rs.reverse p np⟩
  | tup s' rs =>
    have hz : OutF true r H (.tup _) Q := hz
    exact .inr ⟨_, _, rfl, at_.k ▸ s', fun p np => (OutF.out (OutF.same s1 hz)).tup rs.reverse p np⟩
  | _ => exact hz.elim
theorem denA_len : ∀ (n : Nat) (es : List Expr) (ρ : Env) (vs : List PV), denA P call N n es ρ = .ok vs → vs.length = es.length
  | 0, _, _, _, h => by cases h
  | n + 1, [], _, _, h => by cases h; rfl
  | n + 1, e :: es, ρ, vs, h => by
    obtain ⟨v, _, h⟩ := bind_ok (show R.bind (denE P call N n e ρ) (fun v => R.bind (denA P call N n es ρ) fun vs => .ok (v :: vs)) = .ok vs from h)
    obtain ⟨vs', h2, h⟩ := bind_ok h
    cases h
    rw [List.length_cons, List.length_cons, denA_len n es ρ vs' h2]
theorem s_tup (S : Sound P call N n) (cx : Ctx P call N X k) (tk : Takes X W) {es : List Expr} {j : Nat} (h1 : wfA P N n X.env.scope I es = true) (hl : es.length ≤ line) : PE X (.Tuple es j p) (tE P call N X W I (n + 1) (.Tuple es j p)) := by
  refine (pe_tup (S.a X k W cx tk I es h1)).imp fun σ H Q h => ?_
  obtain ⟨r, ρ, at_, h⟩ := h
  have h : Post X W σ H (R.bind (denA P call N n es ρ) fun vs => .ok (.tup vs)) (fun z => OutF true r H z Q) := h
  refine ⟨r, ρ, at_, h.bind.monoOk fun zs e hz vs H1 s1 rs => ⟨?_, fun p np => (OutF.out (OutF.same s1 hz)).tup rs p np⟩⟩
  rw [rs.length, denA_len n es ρ zs e, ← line_eq]; exact hl
theorem s_lst (S : Sound P call N n) (cx : Ctx P call N X k) (tk : Takes X W) {es : List Expr} (h1 : wfA P N n X.env.scope I es = true) (hl : es.length ≤ line) : PE X (.List es p) (tE P call N X W I (n + 1) (.List es p)) := by
  refine (pe_lst (S.a X k W cx tk I es h1)).imp fun σ H Q h => ?_
  obtain ⟨r, ρ, at_, h⟩ := h
  have h : Post X W σ H (R.bind (denA P call N n es ρ) fun vs => .ok (.lst vs)) (fun z => OutF true r H z Q) := h
  refine ⟨r, ρ, at_, h.bind.monoOk fun zs e hz vs H1 s1 rs => ⟨?_, fun p np => (OutF.out (OutF.same s1 hz)).lst (at_.same s1).al rs p np⟩⟩
  rw [rs.length, denA_len n es ρ zs e, ← line_eq]; exact hl
/-! ### displays of dicts -/
theorem Keeps.plus {r : Rc} {H : Hp} {p : Addr} (n : H p = none) : Keeps r H (r.plus p) (upd H p (.dK [])) := by
  refine ⟨rfl, fun b o h _ => same_upd n b o h, fun b o h ns z => ?_, fun _ _ h => h⟩
  rcases z with z | z
  · exact ns z
  · rw [z, n] at h; cases h
theorem Keeps.minus {r : Rc} {H : Hp} {p : Addr} {u : HO} (hp : H p = some (.dK [])) : Keeps (r.plus p) H r (upd H p u) := by
  refine ⟨rfl, fun b o h q => ?_, fun b o _ ns z => ns (.inl z), fun _ _ h => h⟩
  by_cases e : b = p
  · subst e
    rw [hp] at h
    cases h
    rcases q with q | q
    · exact (q (.inr rfl)).elim
    · cases q
  · rw [upd_ne e]; exact h
theorem At.plus {K : PySem.W.Frag} {N : List Str} {r : Rc} {H : Hp} {σ : L2.St} {ρ : Env} {I : List Nat} {p : Addr} (a : At K N r H σ ρ I) (n : H p = none) : At K N (r.plus p) (upd H p (.dK [])) σ ρ I := by
  refine ⟨a.k, a.ln, fun b hb => ?_, fun i v hi e => ?_, a.nx⟩
  · rcases hb with hb | hb
    · exact a.al.same (same_upd n) b hb
    · rw [hb, upd_same]; intro z; cases z
  · obtain ⟨w', e1, q⟩ := a.vis i v hi e
    exact ⟨w', e1, Rep.keep (.plus n) _ _ q⟩
def trsOf (t : Expr → TE) : List (Option Expr) → List Expr → List (TE × TE)
  | some k :: ks, v :: vs => (t k, t v) :: trsOf t ks vs
  | _, _ => []
theorem pps_of {X : Cx} {pos : Pos} {t : Expr → TE} : ∀ (ks : List (Option Expr)) (vs : List Expr), ks.all (·.isSome) = true → ks.length = vs.length → (∀ e ∈ interl ks vs, PE X e (t e)) → PPs X pos ks vs (trsOf t ks vs)
  | [], [], _, _, _ => pps_nil
  | [], _ :: _, _, h, _ => by cases h
  | _ :: _, [], _, h, _ => by cases h
  | none :: ks, v :: vs, h, _, _ => by cases h
  | some k :: ks, v :: vs, h, hl, hp => pps_cons (hp k List.mem_cons_self) (hp v (List.mem_cons_of_mem _ List.mem_cons_self)) (pps_of ks vs (by simpa using h) (by simpa using hl) fun e he => hp e (List.mem_cons_of_mem _ (List.mem_cons_of_mem _ he)))
/-- pairs as they lie -/
inductive RepP (r : Rc) (H : Hp) : List (V × V) → List (PV × PV) → Prop
  | nil : RepP r H [] []
  | cons {k v : V} {p x : PV} {prs : List (V × V)} {ps : List (PV × PV)} : Rep r H k p → Rep r H v x → RepP r H prs ps → RepP r H ((k, v) :: prs) ((p, x) :: ps)
theorem RepP.flat {r : Rc} {H : Hp} : ∀ {prs : List (V × V)} {ps : List (PV × PV)}, RepP r H prs ps → flatD ps = true → ∃ kvs : List (Key × V), prs = kvs.map (fun kv => (kV kv.1, kv.2)) ∧ RepK r H kvs ps ∧ kvs.length = ps.length
  | _, _, .nil, _ => ⟨[], rfl, .nil, rfl⟩
  | _, _, .cons hk hv t, h => by
    obtain ⟨h1, h2⟩ := and_split (show (keyB _ && flatD _) = true from h)
    obtain ⟨k, e⟩ := keyB_ok h1
    obtain ⟨kvs, rfl, rk, hl⟩ := t.flat h2
    exact ⟨(k, _) :: kvs, by rw [keyV e hk]; rfl, .cons e hv rk, by simp [hl]⟩
section
variable {P : Prog} {call : Str → List PV → R PV} {N : List Str} {X : Cx} {W : WX} {n : Nat} {I : List Nat}
theorem tPairs_of {r : Rc} {ρ : Env} {σ : L2.St} : ∀ (ks : List (Option Expr)) (vs : List Expr) (H : Hp) (Q : List (V × V) → Hp → Prop), At X.K N r H σ ρ I → ks.all (·.isSome) = true → ks.length = vs.length →
    Post X W σ H (seqE (fun e => denE P call N n e ρ) (interl ks vs)) (fun xs => ∀ prs H', Same H H' → RepP r H' prs (pairUp xs) → (pairUp xs).length = ks.length → Q prs H') → tPairs (trsOf (fun e => tE P call N X W I n e) ks vs) σ H Q
  | [], [], H, Q, at_, _, _, h => h [] H (Same.refl H) .nil rfl
  | [], _ :: _, _, _, _, _, h, _ => by cases h
  | _ :: _, [], _, _, _, _, h, _ => by cases h
  | none :: ks, v :: vs, _, _, _, h, _, _ => by cases h
  | some k :: ks, v :: vs, H, Q, at_, hs, hl, h => by
    have h : Post X W σ H (R.bind (denE P call N n k ρ) fun a => R.bind (R.bind (denE P call N n v ρ) fun b => R.bind (seqE (fun e => denE P call N n e ρ) (interl ks vs)) fun us => .ok (b :: us)) fun us => .ok (a :: us)) _ := h
    refine tE.of at_ h.bind fun a ha x H1 s1 rx _ => ?_
    have ha := ha.bind.bind
    refine tE.of (at_.same s1) (ha.same s1) fun b hb y H2 s2 ry _ => ?_
    refine tPairs_of ks vs H2 _ (at_.same (s1.trans s2)) (by simpa using hs) (by simpa using hl) ((hb.bind.same (s1.trans s2)).mono fun us hus prs H3 s3 rp he => ?_)
    exact hus ((x, y) :: prs) H3 ((s1.trans s2).trans s3) (.cons (rx.same (s2.trans s3)) (ry.same s3) rp) (by show (pairUp us).length + 1 = ks.length + 1; rw [he])
theorem s_dict {k : Nat} (S : Sound P call N n) (cx : Ctx P call N X k) (tk : Takes X W) {ks : List (Option Expr)} {vs : List Expr} {p : Pos} (h1 : (interl ks vs).all (fun e => wfE P N n X.env.scope I e) = true) (h2 : ks.all (·.isSome) = true) (h3 : ks.length = vs.length) (h4 : ks ≠ []) (h5 : ks.length ≤ 15) :
    PE X (.Dict ks vs p) (tE P call N X W I (n + 1) (.Dict ks vs p)) := by
  refine (pe_disp (pps_of (t := fun e => tE P call N X W I n e) ks vs h2 h3 fun e he => S.e X k W cx tk I e (List.all_eq_true.mp h1 e he)) h2 h3 h4 h5).imp fun σ H Q h => ?_
  obtain ⟨r, ρ, at_, h⟩ := h
  have h : Post X W σ H (R.bind (seqE (fun e => denE P call N n e ρ) (interl ks vs)) fun xs => need (flatD (pairUp xs) = true) (.ok (.dic (dmake (pairUp xs))))) (fun z => OutF true r H z Q) := h
  intro p np
  refine tPairs_of ks vs _ _ (at_.plus np) h2 h3 ((h.bind.same (same_upd np)).mono fun xs hx prs H2 s2 rp hl => ?_)
  have hp : H2 p = some (.dK []) := s2 _ _ upd_same
  refine ⟨hp, ?_⟩
  by_cases hf : flatD (pairUp xs) = true
  · simp only [need, if_pos hf] at hx
    obtain ⟨kvs, e, rk, hkl⟩ := rp.flat hf
    refine ⟨kvs, e, by omega, ?_⟩
    refine hx (.ref p) _ (fun b o hb => ?_) ?_ (fun _ _ => ⟨p, rfl, np, fun _ e => by cases e⟩)
    · rw [upd_ne (ne_of_none hb np)]
      exact s2 _ _ (same_upd np b o hb)
    · have rk' : RepK r (upd H2 p (.dK (mergeK [] kvs))) kvs (pairUp xs) := RepK.keep (.minus hp) _ _ rk
      exact .dicK (at_.al.new np) upd_same (RepK.merge rk' .nil)
  · simp only [need, if_neg hf] at hx
    exact hx.elim
end
/-! ### bool operators -/
theorem s_and (S : Sound P call N n) (cx : Ctx P call N X k) (tk : Takes X W) {es : List Expr} (ha : wfE P N n X.env.scope I a = true) (hb : wfE P N n X.env.scope I (.BoolOp .And (b :: es) p) = true) :
    PE X (.BoolOp .And (a :: b :: es) p) (tE P call N X W I (n + 1) (.BoolOp .And (a :: b :: es) p)) := by
  refine (pe_and (S.e X k W cx tk I a ha) (S.e X k W cx tk I _ hb)).imp fun σ H Q h => ?_
  obtain ⟨r, ρ, at_, h⟩ := h
  have h : Post X W σ H (R.bind (denE P call N n a ρ) fun v => match v with
      | .bl true => denE P call N n (.BoolOp .And (b :: es) p) ρ
      | .bl false => .ok (.bl false)
      | _ => .stuck) (fun z => OutF false r H z Q) := h
  refine tE.of at_ h.bind fun z hz x H1 s1 rx _ => ?_
  cases rx with
  | bl c =>
    refine ⟨c, rfl, ?_⟩
    cases c with
    | true =>
      simp only [if_true]
      exact tE.of (at_.same s1) (Post.same s1 hz) fun z2 hz2 v H2 s2 r2 f => hz2 v H2 (s1.trans s2) r2 fun z => by cases z
    | false =>
      simp only [Bool.false_eq_true, if_false]
      exact (OutF.outOld (OutF.same s1 hz)).at (.bl _)
  | _ => exact hz.elim
theorem s_or (S : Sound P call N n) (cx : Ctx P call N X k) (tk : Takes X W) {es : List Expr} (ha : wfE P N n X.env.scope I a = true) (hb : wfE P N n X.env.scope I (.BoolOp .Or (b :: es) p) = true) :
    PE X (.BoolOp .Or (a :: b :: es) p) (tE P call N X W I (n + 1) (.BoolOp .Or (a :: b :: es) p)) := by
  refine (pe_or (S.e X k W cx tk I a ha) (S.e X k W cx tk I _ hb)).imp fun σ H Q h => ?_
  obtain ⟨r, ρ, at_, h⟩ := h
  have h : Post X W σ H (R.bind (denE P call N n a ρ) fun v => match v with
      | .bl true => .ok (.bl true)
      | .bl false => denE P call N n (.BoolOp .Or (b :: es) p) ρ
      | _ => .stuck) (fun z => OutF false r H z Q) := h
  refine tE.of at_ h.bind fun z hz x H1 s1 rx _ => ?_
  cases rx with
  | bl c =>
    refine ⟨c, rfl, ?_⟩
    cases c with
    | false =>
      simp only [Bool.false_eq_true, if_false]
      exact tE.of (at_.same s1) (Post.same s1 hz) fun z2 hz2 v H2 s2 r2 f => hz2 v H2 (s1.trans s2) r2 fun z => by cases z
    | true =>
      simp only [if_true]
      exact (OutF.outOld (OutF.same s1 hz)).at (.bl _)
  | _ => exact hz.elim
theorem s_bool1 (S : Sound P call N n) (cx : Ctx P call N X k) (tk : Takes X W) {op : BoolOp} (ha : wfE P N n X.env.scope I a = true) :
    PE X (.BoolOp op [a] p) (tE P call N X W I (n + 1) (.BoolOp op [a] p)) := by
  refine (pe_one (S.e X k W cx tk I a ha)).imp fun σ H Q h => ?_
  obtain ⟨r, ρ, at_, h⟩ := h
  have h : Post X W σ H (denE P call N n a ρ) (fun z => OutF false r H z Q) := by cases op <;> exact h
  exact tE.of at_ h fun z hz v H1 s1 rv _ => hz v H1 s1 rv fun z => by cases z
/-! ### calls -/
theorem find_str {f : Str} {l : List String} {t : String} (h : l.find? (fun t => f == Str.ofString t) = some t) : t ∈ l ∧ f = Str.ofString t :=
  ⟨List.mem_of_find?_eq_some h, eq_of_beq (by simpa using List.find?_some h)⟩
theorem boot_plain : ∀ t ∈ plainNames, bootBuiltins (Str.ofString t) = some (.builtin t) := by decide +kernel
theorem boot_types : ∀ t ∈ typeCalls, bootBuiltins (Str.ofString t) = some (.type t) := by decide +kernel
theorem boot_tnames : ∀ t ∈ typeNames, bootBuiltins (Str.ofString t) = some (.type t) := by decide +kernel
theorem starEach_none {es : List Expr} {env : PySem.Env} {pos : Pos} (h : es.all noStar = true) : (backTo pos (starEach es env)).any (·.1) = false := by
  induction es with
  | nil => rfl
  | cons e es ih =>
    have h' : noStar e = true ∧ es.all noStar = true := by simpa using h
    rw [starEach_cons h'.1]
    show (false || (backTo pos (starEach es env)).any (·.1)) = false
    rw [ih h'.2]; rfl
theorem wfA_star {sc : Scope} : ∀ (n : Nat) {es : List Expr}, wfA P N n sc I es = true → es.all noStar = true
  | 0, _, h => by cases h
  | n + 1, [], _ => rfl
  | n + 1, e :: es, h => by
    have h : (wfE P N n sc I e && noStar e && wfA P N n sc I es) = true := h
    simp only [Bool.and_eq_true] at h
    simp only [List.all_cons, Bool.and_eq_true]
    exact ⟨h.1.2, wfA_star n h.2⟩

theorem s_pa (S : Sound P call N n) (cx : Ctx P call N X k) (tk : Takes X W) {es : List Expr} (h : wfA P N (n + 1) X.env.scope I es = true) : PA X es (tA P call N X W I (n + 1) es) := by
  cases es with
  | nil =>
    refine pa_nil.imp fun σ H Q h => ?_
    obtain ⟨r, ρ, at_, h⟩ := h
    exact h [] H (Same.refl H) .nil
  | cons e es =>
    have h : (wfE P N n X.env.scope I e && noStar e && wfA P N n X.env.scope I es) = true := h
    simp only [Bool.and_eq_true] at h
    refine (pa_cons (S.e X k W cx tk I e h.1.1) (S.a X k W cx tk I es h.2) (starEach_cons h.1.2)).imp fun σ H Q h => ?_
    obtain ⟨r, ρ, at_, h⟩ := h
    have h : Post X W σ H (R.bind (denE P call N n e ρ) fun v => R.bind (denA P call N n es ρ) fun vs => .ok (v :: vs)) _ := h
    exact tE.of at_ h.bind fun z hz v H1 s1 rv _ => tA.of (at_.same s1) (hz.bind.same s1) fun zs hzs vs H2 s2 rs => hzs (v :: vs) H2 (s1.trans s2) (.cons (rv.same s2) rs)
theorem s_po (S : Sound P call N n) (cx : Ctx P call N X k) (tk : Takes X W) {e : Option Expr} (h : wfO P N (n + 1) X.env.scope I e = true) : PO X e (tO P call N X W I (n + 1) e) := by
  cases e with
  | none =>
    refine po_none.imp fun σ H Q h => ?_
    obtain ⟨r, ρ, at_, h⟩ := h
    exact h H (Same.refl H)
  | some e =>
    refine (po_some (S.e X k W cx tk I e h)).imp fun σ H Q h => ?_
    obtain ⟨r, ρ, at_, h⟩ := h
    have h : Post X W σ H (R.bind (denE P call N n e ρ) fun v => match v with
      | .int i => .ok (some i)
      | _ => .stuck) _ := h
    refine tE.of at_ h.bind fun z hz v H1 s1 rv _ => ?_
    cases rv with
    | int i => exact ⟨i, rfl, hz H1 s1⟩
    | _ => exact hz.elim
/-- f() -/
theorem pe_callS0 {CX : CXT} {k : Nat} {f : Addr} {fd : FuncData} {ps : List Str} {sp : Sp} {E : L2.St → XK} {x : Str} (F : FnOk X.prog X.w X.K X.mg X.base CX k f fd ps sp) (hr : Room k X.A) (hg : Gl X x) (hm : X.mg x = some (.ref f)) (hk : PySem.W.keepIn X.K (.ref f) = true) (hb : Binds X.K fd ps []) (hx : ∀ σ, PassesAt CX X σ (E σ))
    (hdb : (x == ("__debug__" : Str)) = false) : PE X (.Call (.Name x p) [] [] p) (tCallS sp E tNil) := by
  refine ⟨fun pins s σ H Q I h => ?_⟩
  refine wpAny_Call_Name_kw (ld_glob I hg hm ?_ hdb)
  exact PySem.W.callWith_K0 I.kIn hk (run_fnS (us := []) F hr hb (hx σ) I .nil h)
theorem denC_eq {f : Str} {es : List Expr} {ρ : Env} : denC P call N (n + 1) f es ρ = R.bind (denA P call N n es ρ) fun vs => match P.fns.lookup f with
    | some fd => need (vs.length = fd.ps.length) (call f vs)
    | none => match plainNames.find? fun t => f == Str.ofString t with
      | some t => builtin t vs
      | none => match typeCalls.find? fun t => f == Str.ofString t with
        | some t => builtinT t vs
        | none => .stuck := rfl
theorem builtin_exc {f : String} {vs : List PV} : ∀ c fs, builtin f vs ≠ .exc c fs := by
  intro c fs h
  unfold builtin at h
  split at h <;> first | cases h | exact ofOpt_exc _ _ h
theorem builtinT_exc {f : String} {vs : List PV} : ∀ c fs, builtinT f vs ≠ .exc c fs := by
  intro c fs h
  unfold builtinT at h
  split at h <;> cases h
/-- a call by name (the fuel of its arguments n) -/
theorem s_call (SA : ∀ I es, wfA P N n X.env.scope I es = true → PA X es (tA P call N X W I n es)) (cx : Ctx P call N X k) (tk : Takes X W) {f : Str} {es : List Expr} {pf : Pos} (hf : callee P X.env.scope f = true) (h1 : wfA P N n X.env.scope I es = true) (h2 : ((P.fns.lookup f).isSome || (!es.isEmpty && knownB f)) = true)
    {t : TE} (ht : ∀ σ H Q, t σ H Q → ∃ r ρ, At X.K N r H σ ρ I ∧ Post X W σ H (denC P call N (n + 1) f es ρ) fun z => OutF (match P.fns.lookup f with | some fd => fd.fresh | none => true) r H z Q) : PE X (.Call (.Name f pf) es [] p) t := by
  simp only [callee, Bool.and_eq_true] at hf
  have hg := glB_ok hf.1.1
  obtain ⟨p1, p2, p3⟩ := plainB_ok hf.1.2
  have hst := wfA_star n h1
  cases z : P.fns.lookup f with
  | some fd =>
    obtain ⟨fa, fdata, m1, m2, F, B⟩ := cx.fns f fd z
    have key : ∀ σ H Q, t σ H Q → tCallS (spOf call X.K X.mg fd f) (WE W) (tA P call N X W I n es) σ H Q := by
      intro σ H Q h
      obtain ⟨r, ρ, at_, h⟩ := ht σ H Q h
      rw [denC_eq] at h
      simp only [z] at h
      refine tA.of at_ h.bind fun zs hz vs H1 s1 rs => ⟨r, zs, at_.k, (at_.same s1).al, at_.nx, rs, ?_⟩
      by_cases hl : zs.length = fd.ps.length
      · refine ⟨by rw [rs.length]; exact hl, ?_⟩
        simp only [need, if_pos hl] at hz
        cases e : call f zs with
        | ok v => rw [e] at hz; exact OutF.same s1 hz
        | exc c fs => rw [e] at hz; exact fun cls d H2 s2 x => hz cls d H2 (s1.trans s2) x
        | stuck => rw [e] at hz; exact hz.elim
      · simp only [need, if_neg hl] at hz; exact hz.elim
    cases es with
    | nil =>
      refine PE.imp (t := tCallS (spOf call X.K X.mg fd f) (WE W) tNil) ?_ fun σ H Q h => ?_
      · refine ⟨fun pins s σ H Q I h => ?_⟩
        refine wpAny_Call_Name_kw (ld_glob I hg m1 ?_ p1)
        exact PySem.W.callWith_K0 I.kIn m2 (run_fnS (us := []) F cx.room B (passAt tk σ) I .nil h)
      · obtain ⟨r, ρ, at_, h⟩ := key σ H Q h
        cases n with
        | zero => exact h.elim
        | succ m => exact h [] H (Same.refl H) .nil
    | cons e es =>
      have hst' : noStar e = true ∧ es.all noStar = true := by simpa using hst
      exact (pe_callS F cx.room hg m1 m2 B (fun σ => passAt tk σ) (SA I _ h1) p1 (starEach_cons hst'.1) (starEach_none hst'.2)).imp key
  | none =>
    have hb : X.mg f = none := cx.free f (by simpa [z] using hf.2)
    cases es with
    | nil => simp [z] at h2
    | cons e es =>
      have hst' : noStar e = true ∧ es.all noStar = true := by simpa using hst
      cases y : plainNames.find? (fun t => f == Str.ofString t) with
      | some t0 =>
        obtain ⟨m1, rfl⟩ := find_str y
        refine (pe_callB (builtin_ok (by have := cx.room.un; omega) cx.calm t0) hg hb (boot_plain t0 m1) (SA I _ h1) p3 p1 (starEach_cons hst'.1) (starEach_none hst'.2)).imp fun σ H Q h => ?_
        obtain ⟨r, ρ, at_, h⟩ := ht σ H Q h
        rw [denC_eq] at h
        simp only [z, y] at h
        refine tA.of at_ h.bind fun zs hz vs H1 s1 rs => ?_
        obtain ⟨v, e1, q⟩ := hz.pure builtin_exc
        exact ⟨r, zs, v, at_.k, (at_.same s1).al, rs, e1, (OutF.out (OutF.same s1 q))⟩
      | none =>
        cases y2 : typeCalls.find? (fun t => f == Str.ofString t) with
        | some t0 =>
          obtain ⟨m1, rfl⟩ := find_str y2
          refine (pe_callTy (builtinT_ok cx.calm t0) hg hb (boot_types t0 m1) (SA I _ h1) p3 p1 (starEach_cons hst'.1) (starEach_none hst'.2)).imp fun σ H Q h => ?_
          obtain ⟨r, ρ, at_, h⟩ := ht σ H Q h
          rw [denC_eq] at h
          simp only [z, y, y2] at h
          refine tA.of at_ h.bind fun zs hz vs H1 s1 rs => ?_
          obtain ⟨v, e1, q⟩ := hz.pure builtinT_exc
          exact ⟨r, zs, v, at_.k, (at_.same s1).al, rs, e1, (OutF.out (OutF.same s1 q))⟩
        | none =>
          exact absurd h2 (by simp [z, knownB, y, y2])

/-! ### isinstance -/
theorem Rep.ty {r : Rc} {H : Hp} {v : V} {x : PV} {ty : String} {b : Bool} (hK : r.K = X.K) (m : ty ∈ typeNames) (h : Rep r H v x) (e : typeIs ty x = some b) : ∃ t, TyX X.K H v (.type t) ∧ kitB t ty = some b := by
  cases h with
  | non => exact ⟨_, .base .non, by cases e; revert m; revert ty; decide +kernel⟩
  | bl b => exact ⟨_, .base (.bl _), by cases e; revert m; revert ty; decide +kernel⟩
  | int i => exact ⟨_, .base (.int _), by cases e; revert m; revert ty; decide +kernel⟩
  | str x g => exact ⟨_, .base (.str _), by cases e; revert m; revert ty; decide +kernel⟩
  | tup s h =>
    have z : ∀ ty ∈ typeNames, kitB "tuple" ty = some (ty == "tuple") := by decide +kernel
    cases e
    rcases s with (s | ⟨o, s⟩) | ⟨o, its, n, l, c, _⟩
    · exact ⟨"tuple", .base (.tup s), z _ m⟩
    · exact ⟨"tuple", .fTuple s, z _ m⟩
    · exact ⟨"tuple", .kTuple (hK ▸ l) c, z _ m⟩
  | lst n s h =>
    cases e
    exact ⟨_, .base (.lst s), by revert m; revert ty; decide +kernel⟩
  | dicK n s h =>
    cases e
    exact ⟨_, .base (.dK s), by revert m; revert ty; decide +kernel⟩
  | dicT n s h =>
    cases e
    exact ⟨_, .base (.dT s), by revert m; revert ty; decide +kernel⟩
  | scr => cases e
  | scrK => cases e
  | ob h => cases e
theorem s_isi (S : Sound P call N n) (cx : Ctx P call N X k) (tk : Takes X W) {f t : Str} {pf pt : Pos} (e0 : nameIs f "isinstance" = true) (hf : callee P X.env.scope f = true) (hn : (P.fns.lookup f).isNone = true) (ha : wfE P N n X.env.scope I a = true) (hs : noStar a = true)
    (gt : glB X.env.scope t = true) (pt' : plainB t = true) (bt : P.blt.contains t = true) (hty : (typeName t).isSome = true) : PE X (.Call (.Name f pf) [a, .Name t pt] [] p) (tE P call N X W I (n + 1) (.Call (.Name f pf) [a, .Name t pt] [] p)) := by
  have e1 := nameIs_eq e0
  simp only [callee, Bool.and_eq_true] at hf
  have hg := glB_ok hf.1.1
  obtain ⟨p1, p2, p3⟩ := plainB_ok hf.1.2
  obtain ⟨q1, q2, q3⟩ := plainB_ok pt'
  have hfb : P.blt.contains f = true := by
    cases z : P.fns.lookup f with
    | none => simpa [z] using hf.2
    | some fd => rw [z] at hn; cases hn
  have hb := cx.free f hfb
  have hbt := cx.free t bt
  cases y : typeName t with
  | none => rw [y] at hty; cases hty
  | some ty =>
    obtain ⟨m, rfl⟩ := find_str y
    refine (pe_callB call_isi hg hb (by rw [e1]; exact boot_isinstance) (pa_cons (S.e X k W cx tk I a ha) (pa_cons (pe_bltn (v := .ty ty) (glB_ok gt) hbt (boot_tnames ty m) rfl q3 q1) pa_nil) (starEach_cons hs)) p3 p1 (starEach_cons hs) rfl).imp fun σ H Q h => ?_
    obtain ⟨r, ρ, at_, h⟩ := h
    have h : Post X W σ H (if nameIs f "isinstance" = true then
        match typeName (Str.ofString ty) with
          | some ty => R.bind (denE P call N n a ρ) fun v => ofOpt ((typeIs ty v).map PV.bl)
          | none => .stuck
      else match rngArg f [a, .Name (Str.ofString ty) pt] with
        | some es2 => R.bind (R.bind (denA P call N n es2 ρ) rangeOf) (seqRng f)
        | none => denC P call N n f [a, .Name (Str.ofString ty) pt] ρ) (fun z => OutF (match P.fns.lookup f with | some fd => fd.fresh | none => true) r H z Q) := h
    rw [if_pos e0] at h
    simp only [y] at h
    refine tE.of at_ h.bind fun z hz v H1 s1 rv _ => ?_
    obtain ⟨w', e2, q⟩ := hz.pure ofOpt_exc
    have e2 := ofOpt_ok e2
    cases y2 : typeIs ty z with
    | none => rw [y2] at e2; cases e2
    | some b =>
      rw [y2] at e2
      cases e2
      obtain ⟨t, t1, t2⟩ := Rep.ty at_.k m rv y2
      exact ⟨v, .ty ty, .type t, .type ty, b, rfl, .ty ty, t1, kit_ty t2, (OutF.out (OutF.same s1 q)).at (.bl b) rfl⟩

/-! ### methods of built-in types -/
/-- o.m(e, ..): the type by the value -/
def tMt (X : Cx) (m : Str) (to : TE) (t : TA) : TE := fun σ H Q => to σ H fun x H1 => ∃ (T id : String) (r : V → List V → Hp → VK → Prop), PlainAttrs T ∧ Slot T m id ∧ typeOf (.builtin id) = pure (.type "method_descriptor") ∧ MtR X id r ∧ tyV X.K T x H1 ∧ t σ H1 fun xs H2 => r x xs H2 Q
theorem pe_mt {o e : Expr} {es : List Expr} {to : TE} {t : TA} {m : Str} {apos cpos : Pos} (ho : PE X o to) (ha : PA X (e :: es) t)
    (hbase : attributeBase o m X.env (eval o X.env) = eval o X.env)
    (hfew : ((backTo cpos (starEach (e :: es) X.env)).all (fun x => !x.1) && (backToKw cpos (keywordEach [] X.env)).all (fun x => x.1.isSome)
      && decide ((e :: es).length + ([] : List Keyword).length + (if ([] : List Keyword).isEmpty then 0 else 1) < 30)) = true)
    (hline : (apos.endLine == cpos.line) = true) (hs : starEach (e :: es) X.env = (false, eval e X.env) :: starEach es X.env) (hplain : (backTo cpos (starEach es X.env)).any (·.1) = false) :
    PE X (.Call (.Attribute o m apos) (e :: es) [] cpos) (tMt X m to t) := by
  refine ⟨fun pins s σ H Q I h => ?_⟩
  refine wpAny_Call_method_late hbase hfew hline rfl (thn (ho.run pins s σ H _ I h) fun v s1 ⟨x, H1, I1, r1, T, id, r, pa, slot, hty, hm, ty, q1⟩ => ?_)
  obtain ⟨h1, h2⟩ := tyV_is I1 r1 ty
  refine ⟨T, id, pa, slot, hty, h1, h2, ?_⟩
  have hA := ha.run cpos pins s1 σ H1 _ I1 q1
  rw [hs] at hA ⊢
  refine Calls.callWith_builtin (by show (false || (backTo cpos (starEach es X.env)).any (·.1)) = false; rw [hplain] <;> rfl) (Calls.evalArgs_plain ?_)
  exact thn hA fun us s2 ⟨vs, H2, I2, r2, q2⟩ => hm pins s2 σ H2 x vs v us Q I2 r1 r2 q2
theorem starEach_all {es : List Expr} {env : PySem.Env} {pos : Pos} (h : es.all noStar = true) : (backTo pos (starEach es env)).all (fun x => !x.1) = true := by
  induction es with
  | nil => rfl
  | cons e es ih =>
    have h' : noStar e = true ∧ es.all noStar = true := by simpa using h
    rw [starEach_cons h'.1]
    show (true && (backTo pos (starEach es env)).all (fun x => !x.1)) = true
    rw [ih h'.2]; rfl
theorem attr_base {o : Expr} {m : Str} {env : PySem.Env} (h : noCall o = true) : attributeBase o m env (eval o env) = eval o env := by
  cases o <;> first | rfl | (cases h)
theorem joinS_join (sep : List Nat) : ∀ ys : List (List Nat), joinS sep ys = TL.joinL sep ys
  | [] => rfl
  | [x] => rfl
  | x :: y :: r => by
    show x ++ sep ++ joinS sep (y :: r) = x ++ (sep ++ TL.joinL sep (y :: r))
    rw [joinS_join sep (y :: r), List.append_assoc]
theorem method_exc {m : String} {o : PV} {vs : List PV} : ∀ c fs, method m o vs ≠ .exc c fs := by
  intro c fs h
  unfold method at h
  split at h
  · split at h
    · unfold need at h; split at h <;> cases h
    · cases h
  · unfold ofOpt at h; split at h <;> cases h
  · unfold need at h; split at h <;> cases h
  · unfold need at h; split at h <;> cases h
  · cases h

theorem join_toL (sep : List Nat) (ys : List (List Nat)) : Txt.join ⟨sep.toArray⟩ (ys.map fun x => (⟨x.toArray⟩ : Str)) = ⟨(joinS sep ys).toArray⟩ := by
  rw [TL.join_eq]
  refine TL.ext_tl ?_
  rw [TL.tl_join, List.map_map]
  show TL.joinL sep (ys.map fun x => x.toArray.toList) = (joinS sep ys).toArray.toList
  rw [joinS_join]
  simp
theorem joinS_good {sep : List Nat} (gs : goodS sep) : ∀ {ys : List (List Nat)}, (∀ y ∈ ys, goodS y) → (joinS sep ys).length ≤ (ys.map (·.length)).sum + ys.length * sep.length ∧ ∀ c ∈ joinS sep ys, c < 0x110000
  | [], _ => ⟨Nat.zero_le _, fun c hc => by cases hc⟩
  | [x], h => ⟨by simp [joinS], fun c hc => (h x (List.mem_singleton.mpr rfl)).2 c hc⟩
  | x :: y :: r, h => by
    obtain ⟨h1, h2⟩ := joinS_good gs (ys := y :: r) fun z hz => h z (List.mem_cons_of_mem _ hz)
    refine ⟨?_, fun c hc => ?_⟩
    · show (x ++ sep ++ joinS sep (y :: r)).length ≤ _
      rw [List.length_append, List.length_append, List.map_cons, List.sum_cons, List.length_cons (as := y :: r), Nat.succ_mul]
      omega
    · have hc : c ∈ x ++ sep ++ joinS sep (y :: r) := hc
      rcases List.mem_append.mp hc with hc | hc
      · rcases List.mem_append.mp hc with hc | hc
        · exact (h x (List.mem_cons_self ..)).2 c hc
        · exact gs.2 c hc
      · exact h2 c hc
/-- what a method's rule asks, by the evaluator's answer -/
theorem mt_get (hu : X.A.units + 1 < cLine) : MtR X "dict.get" (fun x us H Q => ∃ (r : Rc) (ps : List (PV × PV)) (vs : List PV) (z : PV), r.K = X.K ∧ r.Al H ∧ Rep r H x (.dic ps) ∧ Reps r H us vs ∧ method "get" (.dic ps) vs = .ok z ∧ Out r H z Q) := by
  intro pins s σ H x xs v us Q I rx rus h
  obtain ⟨r, ps, vs, z, hK, hA, rd, rs, e, o⟩ := h
  match vs, rs, e with
  | [k], .cons rk .nil, e =>
    obtain ⟨hf, e⟩ := need_ok (show need ((keyB k && flatD ps && !mutTop ((dget ps k).getD .non)) = true) (R.ok ((dget ps k).getD .non)) = .ok z from e)
    cases e
    obtain ⟨hf, hm⟩ := and_split hf
    have hm : mutTop ((dget ps k).getD .non) = false := by simpa using hm
    cases rus with
    | cons ru rest =>
      cases rest
      obtain ⟨a, ov, rfl, g, g1, g2, _⟩ := dic_get rd rk hf
      obtain rfl : v = Value.ref a := rx
      refine d_get1 hu I g ru fun w' s' I' rv => ⟨ov.getD .non, H, I', rv, ?_⟩
      cases hd : dget ps k with
      | none =>
        rw [hd] at o hm
        rw [g2 hd]
        exact o.at .non hm
      | some y =>
        rw [hd] at o hm
        obtain ⟨w2, rfl, rw2⟩ := g1 y hd
        exact o.at rw2 hm
  | [k, d], .cons rk (.cons rd' .nil), e =>
    obtain ⟨hf, e⟩ := need_ok (show need ((keyB k && flatD ps && !mutTop ((dget ps k).getD d)) = true) (R.ok ((dget ps k).getD d)) = .ok z from e)
    cases e
    obtain ⟨hf, hm⟩ := and_split hf
    have hm : mutTop ((dget ps k).getD d) = false := by simpa using hm
    cases rus with
    | cons ru rest =>
      cases rest with
      | cons ru2 rest =>
        cases rest
        obtain ⟨a, ov, rfl, g, g1, g2, _⟩ := dic_get rd rk hf
        obtain rfl : v = Value.ref a := rx
        refine d_get2 hu I g ru ru2 fun w' s' I' rv => ⟨ov.getD _, H, I', rv, ?_⟩
        cases hd : dget ps k with
        | none =>
          rw [hd] at o hm
          rw [g2 hd]
          exact o.at rd' hm
        | some y =>
          rw [hd] at o hm
          obtain ⟨w2, rfl, rw2⟩ := g1 y hd
          exact o.at rw2 hm
theorem method_ok (hu : X.A.units + 1 < cLine) {r : Rc} {H : Hp} {v : V} {o : PV} {m : String} (hK : r.K = X.K) (hm : m ∈ methodNames) (rv : Rep r H v o) (h0 : recvB m o = true) :
    ∃ (T id : String) (rr : V → List V → Hp → VK → Prop), PlainAttrs T ∧ Slot T (Str.ofString m) id ∧ typeOf (.builtin id) = pure (.type "method_descriptor") ∧ MtR X id rr ∧ tyV X.K T v H ∧
      ∀ (H2 : Hp) (Q : VK) (us : List V) (vs : List PV) (z : PV), r.Al H2 → Rep r H2 v o → Reps r H2 us vs → method m o vs = .ok z → Out r H2 z Q → rr v us H2 Q := by
  revert h0
  unfold recvB
  split
  · intro _
    cases rv with
    | str a gs =>
    refine ⟨"str", "str.join", _, F.plainAttrs_str, F.slot_str_join, F.type_str_join, mt_join, rfl, fun H2 Q us vs z hA _ rs e o => ?_⟩
    revert e
    unfold method
    split
    · rename_i q1 q2 q3 q4 q5 q6
      cases q6
      split
      · rename_i ys e1
        intro e
        obtain ⟨c, e⟩ := need_ok e
        cases e
        obtain ⟨u, rfl, h⟩ := reps1 rs
        cases h with
        | lst n s h =>
          obtain ⟨e2, g⟩ := reps_allStrs h e1
          refine ⟨_, _, ys.map fun x => (⟨x.toArray⟩ : Str), rfl, rfl, .inl (e2 ▸ SqL.of s), ?_, ?_⟩
          · rw [List.map_map, List.length_map, str_len]
            have : (ys.map ((fun x : Str => x.length) ∘ fun x => (⟨x.toArray⟩ : Str))) = ys.map (·.length) := List.map_congr_left fun x _ => str_len x
            rw [this]; exact c
          · rw [join_toL]
            obtain ⟨g1, g2⟩ := joinS_good gs g
            exact o.at (.str _ ⟨Nat.le_trans g1 (by rw [← line_eq]; exact c), g2⟩) rfl
      · intro e; cases e
    · rename_i q1 q2 q3 q4 q5 q6; cases q6
    · rename_i q1 q2 q3 q4 q5 q6; cases q6
    · rename_i q1 q2 q3 q4 q5 q6; cases q6
    · intro e; cases e
  · intro _
    rename_i ps _
    have tyd : tyV X.K "dict" v H := by
      cases rv with
      | dicK n s h => exact .inr (.inr (.inl ⟨rfl, .inl ⟨_, s⟩⟩))
      | dicT n s h m => exact .inr (.inr (.inl ⟨rfl, .inr ⟨_, s⟩⟩))
    refine ⟨"dict", "dict.get", _, F.plainAttrs_dict, F.slot_dict_get, F.type_dict_get, mt_get hu, tyd, fun H2 Q us vs z hA rd rs e o => ⟨_, ps, vs, z, hK, hA, rd, rs, e, o⟩⟩
  · intro _
    have tyl : tyV X.K "list" v H := by
      cases rv with
      | lst n s h => exact .inl ⟨rfl, _, SqL.of s⟩
    refine ⟨"list", "list.count", rCntI X.K, F.plainAttrs_list, F.slot_list_count, F.type_list_count, mt_lcount, tyl, fun H2 Q us vs z hA rd rs e o => ?_⟩
    revert e
    unfold method
    split
    · exact absurd ‹("count" : String) = "join"› (by decide)
    · rename_i q1 q2 q3 q4 q5 q6
      cases q6
      intro e
      have e := ofOpt_ok e
      obtain ⟨ns, e1, e⟩ := bindOpt e
      cases e
      obtain ⟨u, rfl, h⟩ := reps1 rs
      cases h
      cases rd with
      | lst n s h =>
        have := reps_allInts h e1
        subst this
        exact ⟨_, ns, _, rfl, rfl, hK ▸ SqL.of s, o.at (.int _) rfl⟩
    · exact absurd ‹("count" : String) = "get"› (by decide)
    · exact absurd ‹("count" : String) = "get"› (by decide)
    · intro e; cases e
  · intro e; cases e
theorem kget_exc {ps : List (PV × PV)} {vs : List PV} : ∀ c fs, kget ps vs ≠ .exc c fs := by
  intro c fs h
  unfold kget at h
  split at h
  · unfold need at h
    split at h <;> cases h
  · cases h
theorem s_kget (S : Sound P call N n) (cx : Ctx P call N X k) (tk : Takes X W) {o e : Expr} {m : Str} {ap : Pos} {ps : List (PV × PV)} (hcd : cdict P N o = some ps) (hm : nameIs m "get" = true) (ho : wfE P N n X.env.scope I o = true) (ha : wfA P N n X.env.scope I [e] = true) (hc : noCall o = true) (hl : ap.endLine = p.line) :
    PE X (.Call (.Attribute o m ap) [e] [] p) (tE P call N X W I (n + 1) (.Call (.Attribute o m ap) [e] [] p)) := by
  have em := nameIs_eq hm
  subst em
  have hst := wfA_star n ha
  have hst' : noStar e = true ∧ ([] : List Expr).all noStar = true := by simpa using hst
  cases o with
  | Name x px =>
    have hc' : (match slotOf N x with
      | some _ => none
      | none => P.dcts.lookup x) = some ps := hcd
    cases z : slotOf N x with
    | some i => rw [z] at hc'; cases hc'
    | none =>
      rw [z] at hc'
      cases n with
      | zero => cases ho
      | succ n =>
        obtain ⟨h1, h2⟩ := and_split (show (plainB x && match slotOf N x with | some i => visB X.env.scope x && I.contains i | none => glB X.env.scope x) = true from ho)
        rw [z] at h2
        obtain ⟨p1, p2, p3⟩ := plainB_ok h1
        obtain ⟨da, e1, kd, ms, e2⟩ := cx.dcts x ps hc'
        refine (pe_kget (pe_glob (x := x) (v := .ref da) (glB_ok h2) e1 rfl p1) (S.a X k W cx tk I _ ha) (attr_base hc) ?_ (by rw [hl]; exact beq_self_eq_true _) (starEach_cons hst'.1)).imp fun σ H Q h => ?_
        · rw [starEach_all hst]; rfl
        · obtain ⟨r, ρ, at_, h⟩ := h
          have h : Post X W σ H (match cdict P N (.Name x px) with
            | some ps => if (nameIs (Str.ofString "get") "get" && decide (([e] : List Expr).length = 1)) = true then R.bind (denA P call N (n + 1) [e] ρ) (kget ps) else .stuck
            | none => R.bind (denE P call N (n + 1) (.Name x px) ρ) fun v =>
              match methodNames.find? fun t => Str.ofString "get" == Str.ofString t with
              | some t => need (recvB t v = true) (R.bind (denA P call N (n + 1) [e] ρ) fun vs => method t v vs)
              | none => .stuck) (fun z => OutF true r H z Q) := h
          rw [hcd] at h
          have hg : (nameIs (Str.ofString "get") "get" && decide (([e] : List Expr).length = 1)) = true := by rw [hm]; rfl
          simp only [hg, if_true] at h
          refine ⟨da, rfl, kd, tA.of at_ h.bind fun zs hz2 us H2 s2 rs => ?_⟩
          obtain ⟨z0, ez, q⟩ := hz2.pure kget_exc
          have o := OutF.out (OutF.same s2 q)
          unfold kget at ez
          split at ez
          · rename_i s0
            obtain ⟨u, rfl, ru⟩ := reps1 rs
            obtain ⟨hmt, ez⟩ := need_ok ez
            cases ez
            cases ru with
            | str _ g =>
              refine ⟨_, rfl, ?_⟩
              cases hd : dget ps (.str s0) with
              | none =>
                rw [hd] at o hmt
                exact .inr ⟨ms s0 hd, o.at .non hmt⟩
              | some w' =>
                rw [hd] at o hmt
                obtain ⟨s1, v, es, kdv, rp⟩ := e2 _ w' hd
                cases es
                exact .inl ⟨v, kdv, o.at (rp r H2 at_.k) hmt⟩
          · cases ez
  | _ => cases hcd
theorem s_method (S : Sound P call N n) (cx : Ctx P call N X k) (tk : Takes X W) {o e : Expr} {es : List Expr} {m : Str} {ap : Pos} (ho : wfE P N n X.env.scope I o = true) (ha : wfA P N n X.env.scope I (e :: es) = true) (hc : noCall o = true) (hl : ap.endLine = p.line) (hlen : (e :: es).length < 30) (hm : (methodNames.find? fun t => m == Str.ofString t).isSome = true) :
    PE X (.Call (.Attribute o m ap) (e :: es) [] p) (tE P call N X W I (n + 1) (.Call (.Attribute o m ap) (e :: es) [] p)) := by
  have hst := wfA_star n ha
  have hst' : noStar e = true ∧ es.all noStar = true := by simpa using hst
  by_cases hget : (cdict P N o).isSome = true ∧ nameIs m "get" = true ∧ es = []
  · obtain ⟨g1, g2, rfl⟩ := hget
    obtain ⟨ps, g1⟩ := Option.isSome_iff_exists.mp g1
    exact s_kget S cx tk g1 g2 ho ha hc hl
  cases y : methodNames.find? (fun t => m == Str.ofString t) with
  | none => rw [y] at hm; cases hm
  | some t0 =>
    obtain ⟨mm, rfl⟩ := find_str y
    refine (pe_mt (S.e X k W cx tk I o ho) (S.a X k W cx tk I _ ha) (attr_base hc) ?_ (by rw [hl]; exact beq_self_eq_true _) (starEach_cons hst'.1) (starEach_none hst'.2)).imp fun σ H Q h => ?_
    · rw [starEach_all hst]
      show (true && true && decide ((e :: es).length + 0 + 0 < 30)) = true
      simpa using hlen
    · obtain ⟨r, ρ, at_, h⟩ := h
      have h : Post X W σ H (match cdict P N o with
        | some ps => if (nameIs (Str.ofString t0) "get" && decide ((e :: es).length = 1)) = true then R.bind (denA P call N n (e :: es) ρ) (kget ps) else .stuck
        | none => R.bind (denE P call N n o ρ) fun v =>
          match methodNames.find? fun t => Str.ofString t0 == Str.ofString t with
          | some t => need (recvB t v = true) (R.bind (denA P call N n (e :: es) ρ) fun vs => method t v vs)
          | none => .stuck) (fun z => OutF true r H z Q) := h
      cases hcd : cdict P N o with
      | some ps =>
        rw [hcd] at h
        have hg : (nameIs (Str.ofString t0) "get" && decide ((e :: es).length = 1)) = false := by
          cases q : (nameIs (Str.ofString t0) "get" && decide ((e :: es).length = 1)) with
          | false => rfl
          | true =>
            obtain ⟨q1, q2⟩ := and_split q
            exact absurd ⟨by rw [hcd]; rfl, q1, List.eq_nil_of_length_eq_zero (by have := of_decide_eq_true q2; simpa using this)⟩ hget
        simp only [hg, Bool.false_eq_true, if_false] at h
        exact h.elim
      | none =>
      rw [hcd] at h
      simp only [y] at h
      refine tE.of at_ h.bind fun z hz v H1 s1 rv _ => ?_
      by_cases hr : recvB t0 z = true
      · simp only [need, if_pos hr] at hz
        obtain ⟨T, id, rr, a1, a2, a3, a4, a5, a6⟩ := method_ok (by have := cx.room.un; omega) at_.k mm rv hr
        refine ⟨T, id, rr, a1, a2, a3, a4, a5, tA.of (at_.same s1) (hz.bind.same s1) fun zs hzs us H2 s2 rs => ?_⟩
        obtain ⟨z0, e2, q⟩ := hzs.pure method_exc
        exact a6 H2 Q us zs z0 (at_.same (s1.trans s2)).al (rv.same s2) rs e2 (OutF.out (OutF.same (s1.trans s2) q))
      · simp only [need, if_neg hr] at hz; exact hz.elim

/-! ### tests -/
theorem s_pt_not (S : Sound P call N n) (cx : Ctx P call N X k) (tk : Takes X W) (ha : wfT P N n X.env.scope I a = true) : PT X (.UnaryOp .Not a p) (tT P call N X W I (n + 1) (.UnaryOp .Not a p)) := by
  refine (pt_not (S.t X k W cx tk I a ha)).imp fun σ H Q h => ?_
  obtain ⟨r, ρ, at_, h⟩ := h
  have h : Post X W σ H (R.bind (denT P call N n a ρ) fun c => .ok (!c)) _ := h
  exact tT.of at_ h.bind fun z hz H1 s1 => hz H1 s1
theorem pw_of {op : BoolOp} {es : List Expr} {t : TT} (h : PT X (.BoolOp op es p) t) : PW X (.BoolOp op es p) t := ⟨fun _ pins s σ H Q I q => h.run pins s σ H Q I q⟩
theorem s_pt_bool1 (S : Sound P call N n) (cx : Ctx P call N X k) (tk : Takes X W) {op : BoolOp} (ha : wfT P N n X.env.scope I a = true) : PT X (.BoolOp op [a] p) (tT P call N X W I (n + 1) (.BoolOp op [a] p)) := by
  cases op with
  | And =>
    refine ((pw_and1 (S.t X k W cx tk I a ha)).pt).imp fun σ H Q h => ?_
    obtain ⟨r, ρ, at_, h⟩ := h
    exact ⟨r, ρ, at_, h⟩
  | Or =>
    refine ((pw_or1 (S.t X k W cx tk I a ha)).pt).imp fun σ H Q h => ?_
    obtain ⟨r, ρ, at_, h⟩ := h
    exact ⟨r, ρ, at_, h⟩
theorem s_pt_and (S : Sound P call N n) (cx : Ctx P call N X k) (tk : Takes X W) {es : List Expr} (ha : wfT P N n X.env.scope I a = true) (hb : wfT P N n X.env.scope I (.BoolOp .And (b :: es) p) = true) :
    PT X (.BoolOp .And (a :: b :: es) p) (tT P call N X W I (n + 1) (.BoolOp .And (a :: b :: es) p)) := by
  refine ((pw_and (S.t X k W cx tk I a ha) (pw_of (S.t X k W cx tk I _ hb))).pt).imp fun σ H Q h => ?_
  obtain ⟨r, ρ, at_, h⟩ := h
  have h : Post X W σ H (R.bind (denT P call N n a ρ) fun c => if c = true then denT P call N n (.BoolOp .And (b :: es) p) ρ else .ok false) _ := h
  refine tT.of at_ h.bind fun z hz H1 s1 => ?_
  cases z with
  | true =>
    simp only [if_true] at hz ⊢
    exact tT.of (at_.same s1) (Post.same s1 hz) fun z2 hz2 H2 s2 => hz2 H2 (s1.trans s2)
  | false => exact hz H1 s1
theorem s_pt_or (S : Sound P call N n) (cx : Ctx P call N X k) (tk : Takes X W) {es : List Expr} (ha : wfT P N n X.env.scope I a = true) (hb : wfT P N n X.env.scope I (.BoolOp .Or (b :: es) p) = true) :
    PT X (.BoolOp .Or (a :: b :: es) p) (tT P call N X W I (n + 1) (.BoolOp .Or (a :: b :: es) p)) := by
  refine ((pw_or (S.t X k W cx tk I a ha) (pw_of (S.t X k W cx tk I _ hb))).pt).imp fun σ H Q h => ?_
  obtain ⟨r, ρ, at_, h⟩ := h
  have h : Post X W σ H (R.bind (denT P call N n a ρ) fun c => if c = true then .ok true else denT P call N n (.BoolOp .Or (b :: es) p) ρ) _ := h
  refine tT.of at_ h.bind fun z hz H1 s1 => ?_
  cases z with
  | false =>
    simp only [Bool.false_eq_true, if_false] at hz ⊢
    exact tT.of (at_.same s1) (Post.same s1 hz) fun z2 hz2 H2 s2 => hz2 H2 (s1.trans s2)
  | true => exact hz H1 s1
/-- a test that is its value's truth -/
theorem s_pt_truth (S : Sound P call N n) (cx : Ctx P call N X k) (tk : Takes X W) (ha : wfE P N n X.env.scope I a = true) (he : ∀ whole, isTrue a X.env whole = (do let v ← whole; standAt a.pos; holding [v] (truthy v)))
    (hd : ∀ ρ, denT P call N (n + 1) a ρ = R.bind (denE P call N n a ρ) fun v => truth v) : PT X a (tT P call N X W I (n + 1) a) := by
  refine ⟨fun pins s σ H Q I' h => ?_⟩
  obtain ⟨r, ρ, at_, h⟩ := h
  rw [hd] at h
  refine isTrue_plain (thn ((S.e X k W cx tk I a ha).run pins s σ H (fun x H1 => ∃ (r : Rc) (p : PV) (c : Bool), r.K = X.K ∧ Rep r H1 x p ∧ truth p = .ok c ∧ Q c H1) I' ?_) fun v s1 ⟨x, H1, I1, rx, q⟩ => truth_ok pins s1 σ H1 x v Q I1 rx q) (he _)
  refine tE.of at_ h.bind fun z hz v H1 s1 rv _ => ?_
  obtain ⟨w', e, q⟩ := hz.pure truth_exc
  exact ⟨r, z, w', at_.k, rv, e, q H1 s1⟩
theorem s_pt_cmp (S : Sound P call N n) (cx : Ctx P call N X k) (tk : Takes X W) {op : CmpOp} (ha : wfE P N n X.env.scope I a = true) (hb : wfE P N n X.env.scope I b = true) (hs : noSet b = true) :
    PT X (.Compare a [op] [b] p) (tT P call N X W I (n + 1) (.Compare a [op] [b] p)) := by
  have hu : X.A.units + 65 < cLine := by have := cx.room.un; omega
  refine (pt_cmpR (cmpop_ok hu op) (S.e X k W cx tk I a ha) (S.e X k W cx tk I b hb) (by cases b <;> first | rfl | (cases hs))).imp fun σ H Q h => ?_
  obtain ⟨r, ρ, at_, h⟩ := h
  have h : Post X W σ H (R.bind (denE P call N n a ρ) fun v => R.bind (denE P call N n b ρ) fun w => cmpop op v w) _ := h
  refine tE.of at_ h.bind fun z hz x H1 s1 rx _ => tE.of (at_.same s1) (hz.bind.same s1) fun z2 hz2 y H2 s2 ry _ => ?_
  obtain ⟨w', e, q⟩ := hz2.pure cmpop_exc
  exact ⟨r, z, z2, w', at_.k, (at_.same (s1.trans s2)).al, rx.same s2, ry, e, w', rfl, q H2 (s1.trans s2)⟩
theorem s_pt_chain (S : Sound P call N n) (cx : Ctx P call N X k) (tk : Takes X W) {op op2 : CmpOp} (ha : wfE P N n X.env.scope I a = true) (hb : wfE P N n X.env.scope I b = true) (hc : wfE P N n X.env.scope I c = true) (hs : noSet b = true) (hs2 : noSet c = true) :
    PT X (.Compare a [op, op2] [b, c] p) (tT P call N X W I (n + 1) (.Compare a [op, op2] [b, c] p)) := by
  have hu : X.A.units + 65 < cLine := by have := cx.room.un; omega
  refine (pt_chain (cmpop_ok hu op) (cmpop_ok hu op2) (S.e X k W cx tk I a ha) (S.e X k W cx tk I b hb) (S.e X k W cx tk I c hc) (by cases c <;> first | rfl | (cases hs2))).imp fun σ H Q h => ?_
  obtain ⟨r, ρ, at_, h⟩ := h
  have h : Post X W σ H (R.bind (denE P call N n a ρ) fun v => R.bind (denE P call N n b ρ) fun w => R.bind (cmpop op v w) fun k =>
        if k = true then R.bind (denE P call N n c ρ) fun z => cmpop op2 w z else .ok false) _ := h
  refine tE.of at_ h.bind fun z hz x H1 s1 rx _ => tE.of (at_.same s1) (hz.bind.same s1) fun z2 hz2 y H2 s2 ry _ => ?_
  obtain ⟨w', e, q⟩ := hz2.bind.pure cmpop_exc
  refine ⟨r, z, z2, w', at_.k, (at_.same (s1.trans s2)).al, rx.same s2, ry, e, w', rfl, ?_⟩
  cases w' with
  | true =>
    simp only [if_true] at q ⊢
    refine tE.of (at_.same (s1.trans s2)) (q.bind.same (s1.trans s2)) fun z3 hz3 y3 H3 s3 r3 _ => ?_
    obtain ⟨w3, e3, q3⟩ := hz3.pure cmpop_exc
    exact ⟨r, z2, z3, w3, at_.k, (at_.same ((s1.trans s2).trans s3)).al, ry.same s3, r3, e3, w3, rfl, q3 H3 ((s1.trans s2).trans s3)⟩
  | false =>
    simp only [Bool.false_eq_true, if_false] at q ⊢
    exact ⟨false, rfl, q H2 (s1.trans s2)⟩
theorem s_ifs (S : Sound P call N n) (cx : Ctx P call N X k) (tk : Takes X W) {es : List Expr} (h : wfIfs P N (n + 1) X.env.scope I es = true) : PTs X es (tIfs P call N X W I (n + 1) es) := by
  match es, h with
  | [], _ =>
    refine pts_nil.imp fun σ H Q h => ?_
    obtain ⟨r, ρ, at_, h⟩ := h
    exact h H (Same.refl H)
  | [c], h =>
    refine (pts_one (S.t X k W cx tk I c h)).imp fun σ H Q h => ?_
    obtain ⟨r, ρ, at_, h⟩ := h
    exact ⟨r, ρ, at_, h⟩
  | _ :: _ :: _, h => cases h
/-! ### what is walked -/
theorem Keeps.lst {r r' : Rc} {H1 H : Hp} (k : Keeps r H1 r' H) {a : Addr} {vs : List V} (h : H1 a = some (.lst vs)) (n : ¬ r.S a) : H a = some (.lst vs) := k.obj _ _ h (.inl n)
theorem SqL.inj1 {K : PySem.W.Frag} {H : Hp} {a : Addr} {vs ws : List V} (h : H a = some (.lst vs)) (h' : SqL K H a ws) (hk : K.lookup a = none) : ws = vs := by
  rcases h' with (h' | ⟨o, h'⟩) | ⟨o, its, n, l, _⟩
  · rw [h] at h'; cases h'; rfl
  · rw [h] at h'; cases h'
  · rw [hk] at l; cases l
theorem it_list {r : Rc} {H1 : Hp} {a : Addr} {vs : List V} {xs : List PV} (h : H1 a = some (.lst vs)) (n : ¬ r.S a) (rs : Reps r H1 vs xs) : ItFor r H1 xs (Itl r.K a) := by
  intro r' i H kp
  have hH := kp.lst h n
  refine ⟨fun hi => ?_, fun hi => ⟨vs, SqL.of hH, by rw [rs.length]; exact Nat.le_of_eq hi.symm⟩, fun v H' y => ?_⟩
  · have hi' : i < vs.length := by rw [rs.length]; exact hi
    exact ⟨vs, _, SqL.of hH, List.getElem?_eq_getElem hi'⟩
  · obtain ⟨rfl, y⟩ := y
    refine ⟨Same.refl _, fun x hx => ?_⟩
    obtain ⟨v', e1, e2⟩ := rs.get hx
    have := y vs (SqL.of hH)
    rw [e1] at this
    cases this
    exact Rep.keep kp x v e2
theorem it_tup {r : Rc} {H1 : Hp} {a : Addr} {vs : List V} {xs : List PV} (h : SqT r.K H1 a vs) (rs : Reps r H1 vs xs) : ItFor r H1 xs (Itt r.K a) := by
  intro r' i H kp
  have hH := kp.k ▸ kp.seqT h
  refine ⟨fun hi => ?_, fun hi => ⟨vs, hH, by rw [rs.length]; exact Nat.le_of_eq hi.symm⟩, fun v H' y => ?_⟩
  · have hi' : i < vs.length := by rw [rs.length]; exact hi
    exact ⟨vs, _, hH, List.getElem?_eq_getElem hi'⟩
  · obtain ⟨rfl, y⟩ := y
    refine ⟨Same.refl _, fun x hx => ?_⟩
    obtain ⟨v', e1, e2⟩ := rs.get hx
    have := y vs hH
    rw [e1] at this
    cases this
    exact Rep.keep kp x v e2
theorem it_str {r : Rc} {H1 : Hp} {x : List Nat} (g : goodS x) : ItFor r H1 (x.map fun c => .str [c]) (Its ⟨x.toArray⟩) := by
  intro r' i H kp
  refine ⟨fun hi => by simpa [Its] using hi, fun hi => by subst hi; simp [Its], fun v H' y => ?_⟩
  obtain ⟨rfl, c, e, rfl⟩ := y
  refine ⟨Same.refl _, fun y hy => ?_⟩
  have e : x[i]? = some c := by simpa using e
  rw [List.getElem?_map, e] at hy
  cases hy
  exact .str [c] ⟨by show 1 ≤ sizeLine; decide, fun d hd => by
    have : d = c := by simpa using hd
    subst this
    exact g.2 d (List.mem_of_getElem? e)⟩
theorem it_range {r : Rc} {H1 : Hp} (lo : Int) (n : Nat) : ItFor r H1 (rangeL lo n) (Itr lo n) := by
  intro r' i H kp
  have hl : (rangeL lo n).length = n := by simp [rangeL]
  refine ⟨fun hi => by rw [hl] at hi; exact hi, fun hi => by rw [hl] at hi; exact Nat.le_of_eq hi.symm, fun v H' y => ?_⟩
  obtain ⟨rfl, rfl⟩ := y
  refine ⟨Same.refl _, fun y hy => ?_⟩
  have hi : i < n := by
    have := (List.getElem?_eq_some_iff.mp hy).1
    rwa [hl] at this
  unfold rangeL at hy
  rw [List.getElem?_map, List.getElem?_range hi] at hy
  cases hy
  exact .int _
theorem reps3 {r : Rc} {H : Hp} {vs : List V} {x y z : PV} (h : Reps r H vs [x, y, z]) : ∃ v w u, vs = [v, w, u] ∧ Rep r H v x ∧ Rep r H w y ∧ Rep r H u z := by
  cases h with
  | cons h t =>
    obtain ⟨w, u, rfl, h2, h3⟩ := reps2 t
    exact ⟨_, _, _, rfl, h, h2, h3⟩
theorem it_rangeC {r : Rc} {H1 : Hp} (lo c : Int) (n : Nat) : ItFor r H1 (rangeC lo c n) (Itc lo c n) := by
  intro r' i H kp
  have hl : (rangeC lo c n).length = n := by simp [rangeC]
  refine ⟨fun hi => by rw [hl] at hi; exact hi, fun hi => by rw [hl] at hi; exact Nat.le_of_eq hi.symm, fun v H' y => ?_⟩
  obtain ⟨rfl, rfl⟩ := y
  refine ⟨Same.refl _, fun y hy => ?_⟩
  have hi : i < n := by
    have := (List.getElem?_eq_some_iff.mp hy).1
    rwa [hl] at this
  unfold rangeC at hy
  rw [List.getElem?_map, List.getElem?_range hi] at hy
  cases hy
  exact .int _
theorem rgC_ok {i j c : Int} (hi : small i) (hj : small j) (hc : c = -1 ∨ (0 < c ∧ c < 1073741824)) : RgC i j c (stepN i j c) := by
  obtain ⟨i1, i2⟩ := hi
  obtain ⟨j1, j2⟩ := hj
  rcases hc with rfl | ⟨c0, c1⟩
  · exact RgC.neg i1 i2 j1 j2
  · have hs : Builtin.Range.rangeSize i j c = if i < j then (j - i - 1) / c + 1 else 0 := by
      unfold Builtin.Range.rangeSize
      rw [if_pos (show c > 0 from c0)]
    have hb : i < j → 0 ≤ (j - i - 1) / c ∧ (j - i - 1) / c ≤ j - i - 1 := fun h => ⟨Int.ediv_nonneg (by omega) (by omega), Int.ediv_le_self _ (by omega)⟩
    refine ⟨by omega, by omega, ?_, ?_⟩
    · unfold Builtin.Range.small
      rw [hs]
      simp only [Builtin.Range.rangeFitsLong, Bool.and_eq_true, Bool.or_eq_true, decide_eq_true_eq, beq_iff_eq, show c > 0 from c0, if_true]
      by_cases h : i < j
      · have := hb h
        rw [if_pos h]
        refine ⟨⟨⟨⟨by omega, by omega⟩, by omega, by omega⟩, by omega, by omega⟩, .inr ⟨by omega, by omega⟩⟩
      · rw [if_neg h]
        exact ⟨⟨⟨⟨by omega, by omega⟩, by omega, by omega⟩, by omega, by omega⟩, .inl rfl⟩
    · rw [hs]
      unfold stepN
      rw [if_pos c0]
      by_cases h : i < j
      · have := hb h
        rw [if_pos h, if_pos h]; omega
      · rw [if_neg h, if_neg h]; rfl
theorem it_enum {r : Rc} {H1 : Hp} {a : Addr} {vs : List V} {xs : List PV} (h : H1 a = some (.lst vs)) (n : ¬ r.S a) (rs : Reps r H1 vs xs) : ItFor r H1 (enumL xs) (Ite r.K a) := by
  intro r' i H kp
  have hH := kp.lst h n
  have hl : (enumL xs).length = xs.length := by simp [enumL]
  refine ⟨fun hi => ?_, fun hi => ⟨vs, SqL.of hH, by rw [rs.length]; rw [hl] at hi; exact Nat.le_of_eq hi.symm⟩, fun v H' y => ?_⟩
  · have hi' : i < vs.length := by rw [rs.length]; rw [hl] at hi; exact hi
    exact ⟨vs, _, SqL.of hH, List.getElem?_eq_getElem hi'⟩
  · obtain ⟨T, x0, rfl, nT, rfl, y⟩ := y
    refine ⟨same_upd nT, fun x hx => ?_⟩
    have hx' : ∃ x1, xs[i]? = some x1 ∧ x = .tup [.int (i : Nat), x1] := by
      unfold enumL at hx
      rw [List.getElem?_map, List.getElem?_zipIdx] at hx
      cases e : xs[i]? with
      | none => rw [e] at hx; cases hx
      | some x1 => rw [e] at hx; simp at hx; exact ⟨x1, rfl, hx.symm⟩
    obtain ⟨x1, e0, rfl⟩ := hx'
    obtain ⟨v', e1, e2⟩ := rs.get e0
    have := y vs (SqL.of hH)
    rw [e1] at this
    cases this
    have e3 := (Rep.keep kp x1 _ e2).same (same_upd (o := HO.tup [.int (i : Nat), x0]) nT)
    exact .tup (SqT.of upd_same) (.cons (.int _) (.cons e3 .nil))
theorem it_enumF {r : Rc} {H1 : Hp} {G : Hp → Prop} {vs : List V} {xs : List PV} (hG : ∀ (r' : Rc) H, Keeps r H1 r' H → G H) (rs : Reps r H1 vs xs) : ItFor r H1 (enumL xs) (IteF G vs) := by
  intro r' i H kp
  have hl : (enumL xs).length = xs.length := by simp [enumL]
  refine ⟨fun hi => ⟨hG r' H kp, by rw [rs.length]; rw [hl] at hi; exact hi⟩, fun hi => ⟨hG r' H kp, by rw [rs.length]; rw [hl] at hi; exact Nat.le_of_eq hi.symm⟩, fun v H' y => ?_⟩
  obtain ⟨T, x0, rfl, nT, rfl, y⟩ := y
  refine ⟨same_upd nT, fun x hx => ?_⟩
  have hx' : ∃ x1, xs[i]? = some x1 ∧ x = .tup [.int (i : Nat), x1] := by
    unfold enumL at hx
    rw [List.getElem?_map, List.getElem?_zipIdx] at hx
    cases e : xs[i]? with
    | none => rw [e] at hx; cases hx
    | some x1 => rw [e] at hx; simp at hx; exact ⟨x1, rfl, hx.symm⟩
  obtain ⟨x1, e0, rfl⟩ := hx'
  obtain ⟨v', e1, e2⟩ := rs.get e0
  rw [e1] at y
  cases y
  have e3 := (Rep.keep kp x1 _ e2).same (same_upd (o := HO.tup [.int (i : Nat), x0]) nT)
  exact .tup (SqT.of upd_same) (.cons (.int _) (.cons e3 .nil))
theorem zip_get {xs ys : List PV} {i : Nat} {x : PV} (h : (zipL xs ys)[i]? = some x) : ∃ a b, xs[i]? = some a ∧ ys[i]? = some b ∧ x = .tup [a, b] := by
  unfold zipL at h
  rw [List.getElem?_map] at h
  cases e : (xs.zip ys)[i]? with
  | none => rw [e] at h; cases h
  | some p =>
    rw [e] at h
    cases h
    obtain ⟨h1, h2⟩ := List.getElem?_zip_eq_some.mp e
    exact ⟨p.1, p.2, h1, h2, rfl⟩
theorem it_zipL {r : Rc} {H1 : Hp} {a b : Addr} {vs ws : List V} {xs ys : List PV} (h : H1 a = some (.lst vs)) (n : ¬ r.S a) (rs : Reps r H1 vs xs) (h2 : H1 b = some (.lst ws)) (n2 : ¬ r.S b) (rs2 : Reps r H1 ws ys) : ItFor r H1 (zipL xs ys) (Itz r.K a b) := by
  intro r' i H kp
  have hH := kp.lst h n
  have hH2 := kp.lst h2 n2
  have hl : (zipL xs ys).length = min xs.length ys.length := by simp [zipL]
  have l1 := rs.length
  have l2 := rs2.length
  refine ⟨fun hi => ?_, fun hi => ⟨vs, ws, SqL.of hH, SqL.of hH2, by omega⟩, fun v H' y => ?_⟩
  · have hi1 : i < vs.length := by omega
    have hi2 : i < ws.length := by omega
    exact ⟨vs, ws, _, _, SqL.of hH, SqL.of hH2, List.getElem?_eq_getElem hi1, List.getElem?_eq_getElem hi2⟩
  · obtain ⟨T, x0, y0, rfl, nT, rfl, y1, y2⟩ := y
    refine ⟨same_upd nT, fun x hx => ?_⟩
    obtain ⟨a1, b1, ea, eb, rfl⟩ := zip_get hx
    obtain ⟨v1, e1, q1⟩ := rs.get ea
    obtain ⟨v2, e2, q2⟩ := rs2.get eb
    have t1 := y1 vs (SqL.of hH)
    rw [e1] at t1; cases t1
    have t2 := y2 ws (SqL.of hH2)
    rw [e2] at t2; cases t2
    exact .tup (SqT.of upd_same) (.cons ((Rep.keep kp a1 _ q1).same (same_upd nT)) (.cons ((Rep.keep kp b1 _ q2).same (same_upd nT)) .nil))
theorem it_zipT {r : Rc} {H1 : Hp} {a b : Addr} {vs ws : List V} {xs ys : List PV} (h : SqT r.K H1 a vs) (rs : Reps r H1 vs xs) (h2 : SqT r.K H1 b ws) (rs2 : Reps r H1 ws ys) : ItFor r H1 (zipL xs ys) (RZ.ItzT r.K a b) := by
  intro r' i H kp
  have hH := kp.k ▸ kp.seqT h
  have hH2 := kp.k ▸ kp.seqT h2
  have hl : (zipL xs ys).length = min xs.length ys.length := by simp [zipL]
  have l1 := rs.length
  have l2 := rs2.length
  refine ⟨fun hi => ?_, fun hi => ⟨vs, ws, hH, hH2, by omega⟩, fun v H' y => ?_⟩
  · have hi1 : i < vs.length := by omega
    have hi2 : i < ws.length := by omega
    exact ⟨vs, ws, _, _, hH, hH2, List.getElem?_eq_getElem hi1, List.getElem?_eq_getElem hi2⟩
  · obtain ⟨T, x0, y0, rfl, nT, rfl, y1, y2⟩ := y
    refine ⟨same_upd nT, fun x hx => ?_⟩
    obtain ⟨a1, b1, ea, eb, rfl⟩ := zip_get hx
    obtain ⟨v1, e1, q1⟩ := rs.get ea
    obtain ⟨v2, e2, q2⟩ := rs2.get eb
    have t1 := y1 vs hH
    rw [e1] at t1; cases t1
    have t2 := y2 ws hH2
    rw [e2] at t2; cases t2
    exact .tup (SqT.of upd_same) (.cons ((Rep.keep kp a1 _ q1).same (same_upd nT)) (.cons ((Rep.keep kp b1 _ q2).same (same_upd nT)) .nil))
theorem it_zipM {r : Rc} {H1 : Hp} {a b : Addr} {vs ws : List V} {xs ys : List PV} (h : H1 a = some (.lst vs)) (n : ¬ r.S a) (rs : Reps r H1 vs xs) (h2 : SqT r.K H1 b ws) (rs2 : Reps r H1 ws ys) : ItFor r H1 (zipL xs ys) (ItzM r.K a b) := by
  intro r' i H kp
  have hH := kp.lst h n
  have hH2 := kp.k ▸ kp.seqT h2
  have hl : (zipL xs ys).length = min xs.length ys.length := by simp [zipL]
  have l1 := rs.length
  have l2 := rs2.length
  refine ⟨fun hi => ?_, fun hi => ⟨vs, ws, SqL.of hH, hH2, by omega, by omega, by omega⟩, fun v H' y => ?_⟩
  · have hi1 : i < vs.length := by omega
    have hi2 : i < ws.length := by omega
    exact ⟨vs, ws, _, _, SqL.of hH, hH2, List.getElem?_eq_getElem hi1, List.getElem?_eq_getElem hi2⟩
  · obtain ⟨T, x0, y0, rfl, nT, rfl, y1, y2⟩ := y
    refine ⟨same_upd nT, fun x hx => ?_⟩
    obtain ⟨a1, b1, ea, eb, rfl⟩ := zip_get hx
    obtain ⟨v1, e1, q1⟩ := rs.get ea
    obtain ⟨v2, e2, q2⟩ := rs2.get eb
    have t1 := y1 vs (SqL.of hH)
    rw [e1] at t1; cases t1
    have t2 := y2 ws hH2
    rw [e2] at t2; cases t2
    exact .tup (SqT.of upd_same) (.cons ((Rep.keep kp a1 _ q1).same (same_upd nT)) (.cons ((Rep.keep kp b1 _ q2).same (same_upd nT)) .nil))
/-- whatever the value is -/
theorem it_zipN {r : Rc} {H1 : Hp} {a b : Addr} {vs ws : List V} {xs ys : List PV} (h : SqT r.K H1 a vs) (rs : Reps r H1 vs xs) (h2 : H1 b = some (.lst ws)) (n : ¬ r.S b) (rs2 : Reps r H1 ws ys) : ItFor r H1 (zipL xs ys) (ItzN r.K a b) := by
  intro r' i H kp
  have hH := kp.k ▸ kp.seqT h
  have hH2 := kp.lst h2 n
  have hl : (zipL xs ys).length = min xs.length ys.length := by simp [zipL]
  have l1 := rs.length
  have l2 := rs2.length
  refine ⟨fun hi => ?_, fun hi => ⟨vs, ws, hH, SqL.of hH2, by omega, by omega, by omega⟩, fun v H' y => ?_⟩
  · have hi1 : i < vs.length := by omega
    have hi2 : i < ws.length := by omega
    exact ⟨vs, ws, _, _, hH, SqL.of hH2, List.getElem?_eq_getElem hi1, List.getElem?_eq_getElem hi2⟩
  · obtain ⟨T, x0, y0, rfl, nT, rfl, y1, y2⟩ := y
    refine ⟨same_upd nT, fun x hx => ?_⟩
    obtain ⟨a1, b1, ea, eb, rfl⟩ := zip_get hx
    obtain ⟨v1, e1, q1⟩ := rs.get ea
    obtain ⟨v2, e2, q2⟩ := rs2.get eb
    have t1 := y1 vs hH
    rw [e1] at t1; cases t1
    have t2 := y2 ws (SqL.of hH2)
    rw [e2] at t2; cases t2
    exact .tup (SqT.of upd_same) (.cons ((Rep.keep kp a1 _ q1).same (same_upd nT)) (.cons ((Rep.keep kp b1 _ q2).same (same_upd nT)) .nil))
/-- whatever the value is -/
theorem pi_any {tg e : Expr} {te : TE} (he : PE X e te) : PI X tg e (fun σ H R => te σ H fun x H1 => ∃ (r : Rc) (pv : PV) (xs : List PV), r.K = X.K ∧ Rep r H1 x pv ∧ items pv = .ok xs ∧ ∀ J, ItFor r H1 xs J → xs.length ≤ sizeLine → R J H1) := by
  refine ⟨fun pins s σ H R I h => ?_⟩
  refine thn (he.run pins s σ H _ I h) fun v s1 ⟨x, H1, I1, r1, r, pv, xs, hK, rv, e, q⟩ => ?_
  cases rv with
  | lst n sq rs =>
    cases e
    cases r1
    obtain ⟨its, rv, p, hz⟩ := I1.list (SqL.of sq)
    refine wpAny_pyIter_list p.isList ?_
    exact pi_one (tk := s1.toks) I1 _ (turn_list _ _) ⟨_, Heap.get?_push_size _ rfl, rfl, rfl⟩ (q _ (hK ▸ it_list sq n rs) (by rw [← rs.length]; exact hz))
  | tup sq rs =>
    cases e
    cases r1
    obtain ⟨its, rv, p, hz⟩ := I1.tuple (hK ▸ sq)
    refine wpAny_pyIter_tuple (show s1.heap.IsTuple _ its.toArray from p) ?_
    exact pi_one (tk := s1.toks) I1 _ (turn_tuple _ _) ⟨_, Heap.get?_push_size _ rfl, rfl, rfl⟩ (q _ (hK ▸ it_tup sq rs) (by rw [← rs.length]; exact hz))
  | str y g =>
    cases e
    obtain ⟨t, rfl⟩ := r1
    have qq := q _ (it_str g) (by rw [List.length_map]; exact g.1)
    cases ha : (⟨y.toArray⟩ : Str).cps.all (· < 128)
    · exact wpAny_pyIter_wide ha (pi_one (tk := s1.toks) I1 _ (turn_str _ _ t "str_iterator" (.inr rfl)) ⟨_, Heap.get?_push_size _ rfl, rfl, rfl⟩ qq)
    · exact wpAny_pyIter_ascii ha (pi_one (tk := s1.toks) I1 _ (turn_str _ _ t "str_ascii_iterator" (.inl rfl)) ⟨_, Heap.get?_push_size _ rfl, rfl, rfl⟩ qq)
  | non => cases e
  | bl => cases e
  | int => cases e
  | dicK => cases e
  | dicT => cases e
  | scr => cases e
  | scrK => cases e
  | ob => cases e

/-! ### targets -/
structure Bound (r : Rc) (H : Hp) (ts : List Nat) (σ : L2.St) (ρ : Env) (σ' : L2.St) (ρ' : Env) : Prop where
  len : σ'.length = σ.length
  lenρ : ρ'.length = ρ.length
  out : ∀ i, i ∉ ts → σ'[i]? = σ[i]? ∧ ρ'[i]? = ρ[i]?
  in_ : ∀ i, i ∈ ts → ∀ v, ρ'[i]? = some (some v) → v.2 = false ∧ ∃ w, σ'[i]? = some (some w) ∧ Rep r H w v.1
theorem Bound.one {r : Rc} {H : Hp} {σ : L2.St} {ρ : Env} {i : Nat} {v : V} {x : PV} (hl : σ.length = ρ.length) (h : Rep r H v x) : Bound r H [i] σ ρ (σ.set i (some v)) (ρ.set i (some (x, false))) := by
  refine ⟨by simp, by simp, fun j hj => ?_, fun j hj w' e => ?_⟩
  · have : i ≠ j := fun e => hj (by simp [e])
    exact ⟨List.getElem?_set_ne this, List.getElem?_set_ne this⟩
  · have e1 : j = i := by simpa using hj
    subst e1
    have hlt : j < ρ.length := by
      have := (List.getElem?_eq_some_iff.mp e).1
      simpa using this
    rw [List.getElem?_set_self hlt] at e
    cases e
    exact ⟨rfl, v, List.getElem?_set_self (by omega), h⟩
theorem Bound.nil {r : Rc} {H : Hp} {σ : L2.St} {ρ : Env} : Bound r H [] σ ρ σ ρ := ⟨rfl, rfl, fun _ _ => ⟨rfl, rfl⟩, fun _ h => by cases h⟩
theorem Bound.trans {r : Rc} {H : Hp} {ts us : List Nat} {σ σ1 σ2 : L2.St} {ρ ρ1 ρ2 : Env} (a : Bound r H ts σ ρ σ1 ρ1) (b : Bound r H us σ1 ρ1 σ2 ρ2) : Bound r H (ts ++ us) σ ρ σ2 ρ2 := by
  refine ⟨b.len.trans a.len, b.lenρ.trans a.lenρ, fun i hi => ?_, fun i hi v e => ?_⟩
  · have h1 : i ∉ ts := fun z => hi (List.mem_append.mpr (.inl z))
    have h2 : i ∉ us := fun z => hi (List.mem_append.mpr (.inr z))
    exact ⟨(b.out i h2).1.trans (a.out i h1).1, (b.out i h2).2.trans (a.out i h1).2⟩
  · by_cases h2 : i ∈ us
    · exact b.in_ i h2 v e
    · obtain ⟨e1, e2⟩ := b.out i h2
      rw [e2] at e
      rcases List.mem_append.mp hi with h1 | h1
      · obtain ⟨q1, w', q2, q3⟩ := a.in_ i h1 v e
        exact ⟨q1, w', by rw [e1]; exact q2, q3⟩
      · exact absurd h1 h2
def gT (N : List Str) (tg : Expr) (K : PySem.W.Frag) : TG := fun v σ H Q => ∃ (r : Rc) (x : PV) (ρ ρ' : Env), r.K = K ∧ Rep r H v x ∧ ρ.length = N.length ∧ bindTo N tg x ρ = .ok ρ' ∧ ∀ σ', Bound r H (tslots N tg) σ ρ σ' ρ' → Q σ' H
def gTs (N : List Str) (es : List Expr) (K : PySem.W.Frag) : TGs := fun vs σ H Q => ∃ (r : Rc) (xs : List PV) (ρ ρ' : Env), r.K = K ∧ Reps r H vs xs ∧ ρ.length = N.length ∧ bindNames N es xs ρ = .ok ρ' ∧ ∀ σ', Bound r H (es.flatMap (tslots1 N)) σ ρ σ' ρ' → Q σ' H
section
variable {fb : Str → Bool} {own : List Nat} (hfb : ∀ x, fb x = true → X.fn x = true)
theorem targetB_ok {x : Str} (hfb : ∀ x, fb x = true → X.fn x = true) (h : targetB N X.env.scope fb own (.Name x p) = true) : ∃ i, slotOf N x = some i ∧ own.contains i = true ∧ Loc X.env.scope x ∧ (X.fn x = true ∨ X.env.scope.names.lookup x = some .local) := by
  have h : ((match X.env.scope.names.lookup x with | some .local => true | some .cell => fb x | _ => false) && (match slotOf N x with | some i => own.contains i | none => false)) = true := h
  obtain ⟨h1, h2⟩ := and_split h
  cases e : slotOf N x with
  | none => rw [e] at h2; cases h2
  | some i =>
    rw [e] at h2
    refine ⟨i, rfl, h2, ?_⟩
    split at h1
    · rename_i z; exact ⟨.inl z, .inr z⟩
    · rename_i z; exact ⟨.inr z, .inl (hfb x h1)⟩
    · cases h1
theorem pg_t1 (hn : X.N = N) (nd : X.N.Nodup) (hfb : ∀ x, fb x = true → X.fn x = true) {x : Str} (h : targetB N X.env.scope fb own (.Name x p) = true) : PG X (.Name x p) (gT N (.Name x p) X.K) := by
  obtain ⟨i, e1, e2, e3, e4⟩ := targetB_ok (p := p) hfb h
  refine ⟨fun pins s σ H v u Q I rv h => ?_⟩
  refine (pg_name (i := i) nd (by rw [hn]; exact slotOf_get e1) e3 e4).run pins s σ H v u Q I rv ?_
  obtain ⟨r, y, ρ, ρ', hK, ry, hl, hb, q⟩ := h
  have hb : (match slotOf N x with
    | some i => R.ok (ρ.set i (some (y, false)))
    | none => .stuck) = .ok ρ' := hb
  rw [e1] at hb
  cases hb
  refine q _ ?_
  have : tslots N (.Name x p) = [i] := by show (slotOf N x).toList = [i]; rw [e1]; rfl
  rw [this]
  exact Bound.one (by rw [I.len, hn, hl]) ry
theorem pgs_t (hn : X.N = N) (nd : X.N.Nodup) (hfb : ∀ x, fb x = true → X.fn x = true) : ∀ {es : List Expr}, es.all (targetB N X.env.scope fb own) = true → PGs X es (gTs N es X.K)
  | [], _ => ⟨fun pins s σ H vs us Q I rv h => by
    obtain ⟨r, xs, ρ, ρ', hK, rs, hl, hb, q⟩ := h
    cases rs with
    | nil =>
      cases hb
      exact pgs_nil.run pins s σ H [] us Q I rv ⟨rfl, q σ Bound.nil⟩
    | cons h t => cases hb⟩
  | e :: es, h => by
    have h' : targetB N X.env.scope fb own e = true ∧ es.all (targetB N X.env.scope fb own) = true := by simpa using h
    cases e with
    | Name x px =>
      obtain ⟨i, e1, e2, e3, e4⟩ := targetB_ok (p := px) hfb h'.1
      refine ⟨fun pins s σ H vs us Q I rv h => ?_⟩
      refine (pgs_cons (pg_t1 hn nd hfb h'.1) (pgs_t hn nd hfb h'.2)).run pins s σ H vs us Q I rv ?_
      obtain ⟨r, xs, ρ, ρ', hK, rs, hl, hb, q⟩ := h
      cases rs with
      | nil => cases hb
      | @cons v vs y ys ry rys =>
        have hb : (match slotOf N x with
          | some i => bindNames N es ys (ρ.set i (some (y, false)))
          | none => .stuck) = .ok ρ' := hb
        rw [e1] at hb
        have t1 : tslots N (.Name x px) = [i] := by show (slotOf N x).toList = [i]; rw [e1]; rfl
        refine ⟨v, vs, rfl, r, y, ρ, ρ.set i (some (y, false)), hK, ry, hl, ?_, fun σ1 b1 => ⟨r, ys, ρ.set i (some (y, false)), ρ', hK, rys, by rw [List.length_set]; exact hl, hb, fun σ2 b2 => q σ2 ?_⟩⟩
        · show (match slotOf N x with
            | some i => R.ok (ρ.set i (some (y, false)))
            | none => .stuck) = _
          rw [e1]
        · have := b1.trans b2
          rw [t1] at this
          rw [List.flatMap_cons, show tslots1 N (.Name x px) = [i] from t1]
          exact this
    | _ => exact absurd h'.1 (by simp [targetB])
theorem assignEach_names : ∀ {es : List Expr} {sc : Scope} {env : PySem.Env}, es.all (targetB N sc fb own) = true → (assignEach es env).length = es.length ∧ (assignEach es env).findIdx? (·.1) = none
  | [], _, _, _ => ⟨rfl, rfl⟩
  | e :: es, sc, env, h => by
    have h' : targetB N sc fb own e = true ∧ es.all (targetB N sc fb own) = true := by simpa using h
    obtain ⟨i1, i2⟩ := assignEach_names (es := es) (sc := sc) (env := env) h'.2
    cases e with
    | Name x px =>
      have e0 : assignEach (.Name x px :: es) env = (false, assign (.Name x px) env) :: assignEach es env := rfl
      refine ⟨by rw [e0, List.length_cons, List.length_cons, i1], ?_⟩
      rw [e0, List.findIdx?_cons]
      simp [i2]
    | _ => exact absurd h'.1 (by simp [targetB])
theorem bindNames_len : ∀ {es : List Expr} {xs : List PV} {ρ ρ' : Env}, bindNames N es xs ρ = .ok ρ' → xs.length = es.length
  | [], [], _, _, _ => rfl
  | [], _ :: _, _, _, h => by cases h
  | e :: es, [], _, _, h => by cases e <;> cases h
  | .Name x p :: es, v :: vs, ρ, ρ', h => by
    have h : (match slotOf N x with
      | some i => bindNames N es vs (ρ.set i (some (v, false)))
      | none => .stuck) = .ok ρ' := h
    cases e : slotOf N x with
    | none => rw [e] at h; cases h
    | some i => rw [e] at h; rw [List.length_cons, List.length_cons, bindNames_len h]
  | .BoolOp .. :: es, v :: vs, ρ, ρ', h => by cases h
  | .NamedExpr .. :: es, v :: vs, ρ, ρ', h => by cases h
  | .BinOp .. :: es, v :: vs, ρ, ρ', h => by cases h
  | .UnaryOp .. :: es, v :: vs, ρ, ρ', h => by cases h
  | .Lambda .. :: es, v :: vs, ρ, ρ', h => by cases h
  | .IfExp .. :: es, v :: vs, ρ, ρ', h => by cases h
  | .Dict .. :: es, v :: vs, ρ, ρ', h => by cases h
  | .Set .. :: es, v :: vs, ρ, ρ', h => by cases h
  | .ListComp .. :: es, v :: vs, ρ, ρ', h => by cases h
  | .SetComp .. :: es, v :: vs, ρ, ρ', h => by cases h
  | .DictComp .. :: es, v :: vs, ρ, ρ', h => by cases h
  | .GeneratorExp .. :: es, v :: vs, ρ, ρ', h => by cases h
  | .Await .. :: es, v :: vs, ρ, ρ', h => by cases h
  | .Yield .. :: es, v :: vs, ρ, ρ', h => by cases h
  | .YieldFrom .. :: es, v :: vs, ρ, ρ', h => by cases h
  | .Compare .. :: es, v :: vs, ρ, ρ', h => by cases h
  | .Call .. :: es, v :: vs, ρ, ρ', h => by cases h
  | .FormattedValue .. :: es, v :: vs, ρ, ρ', h => by cases h
  | .JoinedStr .. :: es, v :: vs, ρ, ρ', h => by cases h
  | .Constant .. :: es, v :: vs, ρ, ρ', h => by cases h
  | .Attribute .. :: es, v :: vs, ρ, ρ', h => by cases h
  | .Subscript .. :: es, v :: vs, ρ, ρ', h => by cases h
  | .Starred .. :: es, v :: vs, ρ, ρ', h => by cases h
  | .List .. :: es, v :: vs, ρ, ρ', h => by cases h
  | .Tuple .. :: es, v :: vs, ρ, ρ', h => by cases h
  | .Slice .. :: es, v :: vs, ρ, ρ', h => by cases h
theorem pg_t (hc : X.calm = true) (hn : X.N = N) (nd : X.N.Nodup) (hfb : ∀ x, fb x = true → X.fn x = true) {tg : Expr} (h : targetsB N X.env.scope fb own tg = true) : PG X tg (gT N tg X.K) := by
  cases tg with
  | Name x px => exact pg_t1 hn nd hfb h
  | Tuple es j px =>
    have h : es.all (targetB N X.env.scope fb own) = true := h
    obtain ⟨l1, l2⟩ := assignEach_names (env := X.env) h
    refine ⟨fun pins s σ H v u Q I rv q => ?_⟩
    refine (pg_tup (n := es.length) hc (pgs_t hn nd hfb h) l1 l2).run pins s σ H v u Q I rv ?_
    obtain ⟨r, x, ρ, ρ', hK, rx, hl, hb, q⟩ := q
    cases rx with
    | tup sq rs => exact ⟨_, _, rfl, hK ▸ sq, rs.length.trans (bindNames_len hb), r, _, ρ, ρ', hK, rs, hl, hb, q⟩
    | _ => cases hb
  | _ => exact absurd h (by simp [targetsB])
def gTg (N : List Str) (tg : Expr) (K : PySem.W.Frag) : TG := fun v σ H Q => ∃ (r : Rc) (x : PV) (ρ ρ' : Env), r.K = K ∧ Rep r H v x ∧ ρ.length = N.length ∧ bindTg N tg x ρ = .ok ρ' ∧ ∀ σ', Bound r H (tslotsG N tg) σ ρ σ' ρ' → Q σ' H
def gNs (N : List Str) (es : List Expr) (K : PySem.W.Frag) : TGs := fun vs σ H Q => ∃ (r : Rc) (xs : List PV) (ρ ρ' : Env), r.K = K ∧ Reps r H vs xs ∧ ρ.length = N.length ∧ bindNest N es xs ρ = .ok ρ' ∧ ∀ σ', Bound r H (es.flatMap (tslots N)) σ ρ σ' ρ' → Q σ' H
theorem pgs_n (hc : X.calm = true) (hn : X.N = N) (nd : X.N.Nodup) (hfb : ∀ x, fb x = true → X.fn x = true) : ∀ {es : List Expr}, es.all (targetsB N X.env.scope fb own) = true → PGs X es (gNs N es X.K)
  | [], _ => ⟨fun pins s σ H vs us Q I rv h => by
    obtain ⟨r, xs, ρ, ρ', hK, rs, hl, hb, q⟩ := h
    cases rs with
    | nil =>
      cases hb
      exact pgs_nil.run pins s σ H [] us Q I rv ⟨rfl, q σ Bound.nil⟩
    | cons h t => cases hb⟩
  | e :: es, h => by
    have h' : targetsB N X.env.scope fb own e = true ∧ es.all (targetsB N X.env.scope fb own) = true := by simpa using h
    cases e with
    | Name x px =>
      have hx : targetB N X.env.scope fb own (.Name x px) = true := h'.1
      obtain ⟨i, e1, e2, e3, e4⟩ := targetB_ok (p := px) hfb hx
      refine ⟨fun pins s σ H vs us Q I rv h => ?_⟩
      refine (pgs_cons (pg_t1 hn nd hfb hx) (pgs_n hc hn nd hfb h'.2)).run pins s σ H vs us Q I rv ?_
      obtain ⟨r, xs, ρ, ρ', hK, rs, hl, hb, q⟩ := h
      cases rs with
      | nil => cases hb
      | @cons v vs y ys ry rys =>
        have hb : (match slotOf N x with
          | some i => bindNest N es ys (ρ.set i (some (y, false)))
          | none => .stuck) = .ok ρ' := hb
        rw [e1] at hb
        have t1 : tslots N (.Name x px) = [i] := by show (slotOf N x).toList = [i]; rw [e1]; rfl
        refine ⟨v, vs, rfl, r, y, ρ, ρ.set i (some (y, false)), hK, ry, hl, ?_, fun σ1 b1 => ⟨r, ys, ρ.set i (some (y, false)), ρ', hK, rys, by rw [List.length_set]; exact hl, hb, fun σ2 b2 => q σ2 ?_⟩⟩
        · show (match slotOf N x with
            | some i => R.ok (ρ.set i (some (y, false)))
            | none => .stuck) = _
          rw [e1]
        · have := b1.trans b2
          rw [List.flatMap_cons]
          exact this
    | Tuple es' j px =>
      refine ⟨fun pins s σ H vs us Q I rv h => ?_⟩
      refine (pgs_cons (pg_t (tg := .Tuple es' j px) hc hn nd hfb h'.1) (pgs_n hc hn nd hfb h'.2)).run pins s σ H vs us Q I rv ?_
      obtain ⟨r, xs, ρ, ρ', hK, rs, hl, hb, q⟩ := h
      cases rs with
      | nil => cases hb
      | @cons v vs y ys ry rys =>
        cases y with
        | tup zs =>
          have hb : R.bind (bindNames N es' zs ρ) (fun ρ1 => bindNest N es ys ρ1) = .ok ρ' := hb
          obtain ⟨ρ1, b1, b2⟩ := bind_ok hb
          refine ⟨v, vs, rfl, r, .tup zs, ρ, ρ1, hK, ry, hl, b1, fun σ1 c1 => ⟨r, ys, ρ1, ρ', hK, rys, by rw [c1.lenρ]; exact hl, b2, fun σ2 c2 => q σ2 ?_⟩⟩
          have := c1.trans c2
          rw [List.flatMap_cons]
          exact this
        | _ => cases hb
    | _ => exact absurd h'.1 (by simp [targetsB])
theorem assignEach_nest : ∀ {es : List Expr} {sc : Scope} {env : PySem.Env}, es.all (targetsB N sc fb own) = true → (assignEach es env).length = es.length ∧ (assignEach es env).findIdx? (·.1) = none
  | [], _, _, _ => ⟨rfl, rfl⟩
  | e :: es, sc, env, h => by
    have h' : targetsB N sc fb own e = true ∧ es.all (targetsB N sc fb own) = true := by simpa using h
    obtain ⟨i1, i2⟩ := assignEach_nest (es := es) (sc := sc) (env := env) h'.2
    cases e with
    | Name x px =>
      have e0 : assignEach (.Name x px :: es) env = (false, assign (.Name x px) env) :: assignEach es env := rfl
      refine ⟨by rw [e0, List.length_cons, List.length_cons, i1], ?_⟩
      rw [e0, List.findIdx?_cons]
      simp [i2]
    | Tuple es' j px =>
      have e0 : assignEach (.Tuple es' j px :: es) env = (false, assign (.Tuple es' j px) env) :: assignEach es env := rfl
      refine ⟨by rw [e0, List.length_cons, List.length_cons, i1], ?_⟩
      rw [e0, List.findIdx?_cons]
      simp [i2]
    | _ => exact absurd h'.1 (by simp [targetsB])
theorem bindNest_len {sc0 : Scope} : ∀ {es : List Expr} {xs : List PV} {ρ ρ' : Env}, es.all (targetsB N sc0 fb own) = true → bindNest N es xs ρ = .ok ρ' → xs.length = es.length
  | [], [], _, _, _, _ => rfl
  | [], _ :: _, _, _, _, h => by cases h
  | e :: es, [], _, _, _, h => by cases e <;> cases h
  | e :: es, v :: vs, ρ, ρ', ha, h => by
    have h' : targetsB N sc0 fb own e = true ∧ es.all (targetsB N sc0 fb own) = true := by simpa using ha
    cases e with
    | Name x px =>
      have h : (match slotOf N x with
        | some i => bindNest N es vs (ρ.set i (some (v, false)))
        | none => .stuck) = .ok ρ' := h
      cases e : slotOf N x with
      | none => rw [e] at h; cases h
      | some i => rw [e] at h; rw [List.length_cons, List.length_cons, bindNest_len h'.2 h]
    | Tuple es' j px =>
      cases v with
      | tup zs =>
        have h : R.bind (bindNames N es' zs ρ) (fun ρ1 => bindNest N es vs ρ1) = .ok ρ' := h
        obtain ⟨ρ1, b1, b2⟩ := bind_ok h
        rw [List.length_cons, List.length_cons, bindNest_len h'.2 b2]
      | _ => cases h
    | _ => exact absurd h'.1 (by simp [targetsB])
theorem flat_names : ∀ {es : List Expr} {sc : Scope}, es.all (targetsB N sc fb own) = true → es.any isTupE = false → es.all (targetB N sc fb own) = true ∧ es.flatMap (tslots N) = es.flatMap (tslots1 N)
  | [], _, _, _ => ⟨rfl, rfl⟩
  | e :: es, sc, h, ha => by
    have h' : targetsB N sc fb own e = true ∧ es.all (targetsB N sc fb own) = true := by simpa using h
    rw [List.any_cons, Bool.or_eq_false_iff] at ha
    obtain ⟨i1, i2⟩ := flat_names (es := es) h'.2 ha.2
    cases e with
    | Name x px =>
      have hx : targetB N sc fb own (.Name x px) = true := h'.1
      exact ⟨by rw [List.all_cons, hx, i1]; rfl, by rw [List.flatMap_cons, List.flatMap_cons, i2]; rfl⟩
    | Tuple es' j px => exact absurd ha.1 (by simp [isTupE])
    | _ => exact absurd h'.1 (by simp [targetsB])
theorem pg_tg (hc : X.calm = true) (hn : X.N = N) (nd : X.N.Nodup) (hfb : ∀ x, fb x = true → X.fn x = true) {tg : Expr} (h : targetsG N X.env.scope fb own tg = true) : PG X tg (gTg N tg X.K) := by
  cases tg with
  | Name x px => exact pg_t1 hn nd hfb h
  | Tuple es j px =>
    have h : es.all (targetsB N X.env.scope fb own) = true := h
    by_cases hnb : es.any isTupE = true
    · obtain ⟨l1, l2⟩ := assignEach_nest (env := X.env) h
      refine ⟨fun pins s σ H v u Q I rv q => ?_⟩
      refine (pg_tup (n := es.length) hc (pgs_n hc hn nd hfb h) l1 l2).run pins s σ H v u Q I rv ?_
      obtain ⟨r, x, ρ, ρ', hK, rx, hl, hb, q⟩ := q
      unfold bindTg at hb
      rw [if_pos (show nestB (.Tuple es j px) = true from hnb)] at hb
      cases rx with
      | tup sq rs => exact ⟨_, _, rfl, hK ▸ sq, rs.length.trans (bindNest_len h hb), r, _, ρ, ρ', hK, rs, hl, hb, q⟩
      | _ => cases hb
    · have hnf : es.any isTupE = false := by simpa using hnb
      obtain ⟨f1, f2⟩ := flat_names h hnf
      refine ⟨fun pins s σ H v u Q I rv q => ?_⟩
      refine (pg_t (tg := .Tuple es j px) hc hn nd hfb f1).run pins s σ H v u Q I rv ?_
      obtain ⟨r, x, ρ, ρ', hK, rx, hl, hb, q⟩ := q
      unfold bindTg at hb
      rw [if_neg (show ¬ nestB (.Tuple es j px) = true by rw [show nestB (.Tuple es j px) = es.any isTupE from rfl, hnf]; decide)] at hb
      refine ⟨r, x, ρ, ρ', hK, rx, hl, hb, fun σ' b => q σ' ?_⟩
      show Bound r H (es.flatMap (tslots N)) σ ρ σ' ρ'
      rw [f2]; exact b
  | _ => exact absurd h (by simp [targetsG])
end

/-! ### list comprehensions -/
theorem wipe_in {σ : L2.St} {j : Nat} : ∀ {vs : List Nat}, j ∈ vs → (wipe σ vs)[j]? = if j < σ.length then some none else none
  | v :: vs, h => by
    show ((wipe σ vs).set v none)[j]? = _
    by_cases e : v = j
    · subst e
      by_cases hl : v < σ.length
      · rw [if_pos hl, List.getElem?_set_self (by rw [wipe_length]; exact hl)]
      · rw [if_neg hl]
        exact List.getElem?_eq_none (by rw [List.length_set, wipe_length]; omega)
    · rw [List.getElem?_set_ne e]
      rcases List.mem_cons.mp h with rfl | h
      · exact absurd rfl e
      · exact wipe_in h
theorem wipes_length (ρ : Env) : ∀ vs : List Nat, (wipes ρ vs).length = ρ.length
  | [] => rfl
  | v :: vs => by
    show ((wipes ρ vs).set v none).length = _
    rw [List.length_set, wipes_length ρ vs]
theorem wipes_in {ρ : Env} {j : Nat} : ∀ {vs : List Nat}, j ∈ vs → ∀ v, (wipes ρ vs)[j]? ≠ some (some v)
  | u :: vs, h, v => by
    show ((wipes ρ vs).set u none)[j]? ≠ some (some v)
    by_cases e : u = j
    · subst e
      intro z
      have hl := (List.getElem?_eq_some_iff.mp z).1
      rw [List.getElem?_set_self (by simpa using hl)] at z
      cases z
    · rw [List.getElem?_set_ne e]
      rcases List.mem_cons.mp h with rfl | h
      · exact absurd rfl e
      · exact wipes_in h v
theorem wipes_out {ρ : Env} {j : Nat} : ∀ {vs : List Nat}, j ∉ vs → (wipes ρ vs)[j]? = ρ[j]?
  | [], _ => rfl
  | u :: vs, h => by
    show ((wipes ρ vs).set u none)[j]? = _
    rw [List.getElem?_set_ne (fun e => h (by simp [e]))]
    exact wipes_out fun z => h (List.mem_cons_of_mem _ z)
/-- a block's own names stored: wiped again it is as it was -/
theorem wipe_back {r : Rc} {H : Hp} {σ σ2 : L2.St} {ρ ρ2 : Env} {vs ts : List Nat} (b : Bound r H ts (wipe σ vs) ρ σ2 ρ2) (h : ∀ i ∈ ts, i ∈ vs) : wipe σ2 vs = wipe σ vs := by
  have hl : σ2.length = σ.length := b.len.trans (wipe_length _ _)
  refine List.ext_getElem? fun j => ?_
  by_cases hj : j ∈ vs
  · rw [wipe_in hj, wipe_in hj, hl]
  · rw [wipe_out hj, (b.out j fun z => hj (h j z)).1]
/-- r with one more object that is not leant on -/
def Rc.hide (r : Rc) (D : Addr) : Rc := { r with S := fun b => r.S b ∨ b = D }
theorem Keeps.hide {r : Rc} {H1 H : Hp} (s : Same H1 H) {D : Addr} (n : H1 D = none) : Keeps r H1 (r.hide D) H :=
  ⟨rfl, fun b o e _ => s b o e, fun b o e h z => z.elim h fun e' => (by rw [e', n] at e; cases e), fun _ _ h => h⟩
theorem Keeps.unhide {r : Rc} {H : Hp} {D : Addr} : Keeps (r.hide D) H r H :=
  ⟨rfl, fun b o e _ => e, fun b o e h z => h (.inl z), fun _ _ h => h⟩
theorem Keeps.setD {r : Rc} {H : Hp} {D : Addr} {xs ys : List V} (e : H D = some (.lst xs)) : Keeps (r.hide D) H (r.hide D) (upd H D (.lst ys)) := by
  refine ⟨rfl, fun b o q h => ?_, fun _ _ _ h => h, fun _ _ h => h⟩
  have : b ≠ D := by
    rintro rfl
    rw [e] at q; cases q
    rcases h with h | h
    · exact h (.inr rfl)
    · cases h
  rw [upd_ne this]; exact q
theorem tslots_own {sc : Scope} {fb : Str → Bool} {own : List Nat} {tg : Expr} (h : targetsB N sc fb own tg = true) : ∀ i ∈ tslots N tg, i ∈ own := by
  have one : ∀ {x : Expr}, targetB N sc fb own x = true → ∀ i ∈ tslots1 N x, i ∈ own := by
    intro x h i hi
    cases x with
    | Name x p =>
      have h : ((match sc.names.lookup x with | some .local => true | some .cell => fb x | _ => false) && (match slotOf N x with | some i => own.contains i | none => false)) = true := h
      obtain ⟨_, h2⟩ := and_split h
      have hi : i ∈ (slotOf N x).toList := hi
      cases e : slotOf N x with
      | none => rw [e] at hi; cases hi
      | some j =>
        rw [e] at hi h2
        have : i = j := by simpa using hi
        subst this
        simpa using h2
    | _ => cases hi
  cases tg with
  | Name x p => exact fun i hi => one (x := .Name x p) h i hi
  | Tuple es j p =>
    intro i hi
    have h : es.all (targetB N sc fb own) = true := h
    obtain ⟨e, he, hi⟩ := List.mem_flatMap.mp hi
    exact one (List.all_eq_true.mp h e he) i hi
  | _ => exact absurd h (by simp [targetsB])
theorem tslotsG_own {sc : Scope} {fb : Str → Bool} {own : List Nat} {tg : Expr} (h : targetsG N sc fb own tg = true) : ∀ i ∈ tslotsG N tg, i ∈ own := by
  cases tg with
  | Name x p => exact tslots_own (tg := .Name x p) h
  | Tuple es j p =>
    intro i hi
    have h : es.all (targetsB N sc fb own) = true := h
    obtain ⟨e, he, hi⟩ := List.mem_flatMap.mp hi
    exact tslots_own (List.all_eq_true.mp h e he) i hi
  | _ => exact absurd h (by simp [targetsG])
theorem calm_ok {α : Type} {x : R α} {a : α} (h : R.calm x = .ok a) : x = .ok a := by
  cases x <;> first | exact h | cases h
theorem lc_go {fb : Str → Bool} {sc2 : Scope} {elt tg : Expr} {ifs : List Expr} {cs : Scope} (ht : targetsG N sc2 fb (ownSlots N cs) tg = true) {r : Rc} {ρ : Env} {σ : L2.St} {H H1 : Hp} {Q : VK} (at_ : At X.K N r H σ ρ I) (s1 : Same H H1) {xs ys : List PV} {J : It} (hJ : ItFor r H1 xs J) (hlen : xs.length ≤ sizeLine)
    (hc : compLoop (fun x => R.bind (bindTg N tg x (wipes ρ (ownSlots N cs))) fun ρ' => R.bind (denIfs P call N n ifs ρ') fun k =>
          if k = true then R.bind (denE P call N n elt ρ') fun y => .ok (some y) else .ok none) xs = .ok ys) (hxs : OutF true r H (.lst ys) Q) :
    ∀ D, H1 D = none → ∃ W : Nat → Nat → Hp → Prop, (∃ m, W 0 m (upd H1 D (.lst []))) ∧ ∀ i m H, W i m H →
  (J.stop i H ∧ Q (.ref D) H) ∨ (J.go i H ∧ ∃ Nx : Hp → Prop, (∀ H', Nx H' → ∃ m', m' < m ∧ W (i + 1) m' H') ∧ ∀ x H', J.yld i H x H' → gTg N tg X.K x (wipe σ (ownSlots N cs)) H' fun σ2 H2 => wipe σ2 (ownSlots N cs) = wipe σ (ownSlots N cs) ∧ tIfs P call N X (fun _ _ _ _ => False) (ownSlots N cs ++ I) n ifs σ2 H2 fun b H3 =>
    if b = true then tE P call N X (fun _ _ _ _ => False) (ownSlots N cs ++ I) n elt σ2 H3 fun y H4 => ∃ acc, H4 D = some (.lst acc) ∧ acc.length < sizeLine ∧ Nx (upd H4 D (.lst (acc ++ [y]))) else Nx H3) := by
  generalize hst : (fun x => R.bind (bindTg N tg x (wipes ρ (ownSlots N cs))) fun ρ' => R.bind (denIfs P call N n ifs ρ') fun k =>
          if k = true then R.bind (denE P call N n elt ρ') fun y => R.ok (some y) else R.ok none) = step at hc
  intro D nD
  have atn : ¬ r.S D := (at_.same s1).al.new nD
  have hylen : ∀ (l : List PV) (zs : List PV), compLoop step l = .ok zs → zs.length ≤ l.length := by
    intro l
    induction l with
    | nil => intro zs e; cases e; exact Nat.le_refl _
    | cons x l ih =>
      intro zs e
      obtain ⟨o, _, e⟩ := bind_ok (show R.bind (step x) _ = .ok zs from e)
      cases o with
      | none => exact Nat.le_succ_of_le (ih zs e)
      | some y =>
        obtain ⟨ws, e1, e2⟩ := bind_ok (show R.bind (compLoop step l) _ = .ok zs from e)
        cases e2
        exact Nat.succ_le_succ (ih ws e1)
  refine ⟨fun i m H2 => m = xs.length - i ∧ i ≤ xs.length ∧ Same H1 H2 ∧ ∃ acc done rest, H2 D = some (.lst acc) ∧ Reps (r.hide D) H2 acc done ∧ compLoop step (xs.drop i) = .ok rest ∧ ys = done ++ rest,
    ⟨xs.length, by omega, Nat.zero_le _, same_upd nD, [], [], ys, upd_same, .nil, by rw [List.drop_zero]; exact hc, rfl⟩, ?_⟩
  rintro i m H2 ⟨rfl, hi, sH, acc, done, rest, eD, rs, er, ey⟩
  have kp : Keeps r H1 (r.hide D) H2 := Keeps.hide sH nD
  obtain ⟨j1, j2, j3⟩ := hJ (r.hide D) i H2 kp
  by_cases hlt : i < xs.length
  · refine .inr ⟨j1 hlt, fun H3 => ∃ acc done rest, Same H1 H3 ∧ H3 D = some (.lst acc) ∧ Reps (r.hide D) H3 acc done ∧ compLoop step (xs.drop (i + 1)) = .ok rest ∧ ys = done ++ rest,
      fun H' ⟨a1, a2, a3, q1, q2, q3, q4, q5⟩ => ⟨xs.length - (i + 1), by omega, rfl, hlt, q1, a1, a2, a3, q2, q3, q4, q5⟩, fun v H3 y => ?_⟩
    obtain ⟨s3, y⟩ := j3 v H3 y
    have ex : xs[i]? = some xs[i] := List.getElem?_eq_getElem hlt
    have rv := y _ ex
    rw [List.drop_eq_getElem_cons hlt] at er
    obtain ⟨o, eo, er⟩ := bind_ok (show R.bind (step xs[i]) _ = .ok rest from er)
    rw [← hst] at eo
    obtain ⟨ρ', eb, eo⟩ := bind_ok eo
    obtain ⟨kk, ek, eo⟩ := bind_ok eo
    have rs3 : Reps (r.hide D) H3 acc done := rs.same s3
    have eD3 : H3 D = some (.lst acc) := s3 _ _ eD
    refine ⟨r.hide D, xs[i], wipes ρ (ownSlots N cs), ρ', at_.k, rv, by rw [wipes_length]; exact at_.ln, eb, fun σ2 b2 => ⟨wipe_back b2 (tslotsG_own ht), ?_⟩⟩
    have at2 : At X.K N (r.hide D) H3 σ2 ρ' (ownSlots N cs ++ I) := by
      refine ⟨at_.k, by rw [b2.lenρ, wipes_length]; exact at_.ln, fun b hb z => ?_, fun j w' hj e => ?_, at_.nx⟩
      · rcases hb with hb | hb
        · exact ((at_.same s1).al.same (sH.trans s3)) b hb z
        · rw [hb, eD3] at z; cases z
      · by_cases ht2 : j ∈ tslotsG N tg
        · exact (b2.in_ j ht2 w' e).2
        · obtain ⟨o1, o2⟩ := b2.out j ht2
          rw [o2] at e
          by_cases ho : j ∈ ownSlots N cs
          · exact absurd e (wipes_in ho w')
          · rw [wipes_out ho] at e
            have hjI : I.contains j = true := by
              have : j ∈ ownSlots N cs ++ I := by simpa using hj
              rcases List.mem_append.mp this with z | z
              · exact absurd z ho
              · simpa using z
            obtain ⟨w2, e1, q⟩ := at_.vis j w' hjI e
            refine ⟨w2, by rw [o1]; exact (wipe_out ho).trans e1, ?_⟩
            exact Rep.keep (Keeps.hide ((s1.trans sH).trans s3) (s1.free nD)) _ _ q
    refine ⟨r.hide D, ρ', at2, ?_⟩
    rw [ek]
    intro H4 s4
    cases kk with
    | false =>
      simp only [Bool.false_eq_true, if_false] at eo ⊢
      cases eo
      exact ⟨acc, done, rest, (sH.trans s3).trans s4, s4 _ _ eD3, rs3.same s4, er, ey⟩
    | true =>
      simp only [if_true] at eo ⊢
      obtain ⟨yv, ee, eo⟩ := bind_ok eo
      cases eo
      obtain ⟨ws, ew, er⟩ := bind_ok (show R.bind (compLoop step (xs.drop (i + 1))) _ = .ok rest from er)
      cases er
      refine ⟨r.hide D, ρ', at2.same s4, ?_⟩
      rw [ee]
      intro w5 H5 s5 r5 _
      have eD5 : H5 D = some (.lst acc) := s5 _ _ (s4 _ _ eD3)
      refine ⟨acc, eD5, ?_, acc ++ [w5], done ++ [yv], ws, ?_, upd_same, ?_, ew, by rw [ey]; simp⟩
      · have l1 := rs.length
        have l2 := hylen _ _ ew
        have l3 : ys.length = done.length + (ws.length + 1) := by rw [ey]; simp
        have l4 := hylen _ _ hc
        omega
      · intro b o q
        have : b ≠ D := ne_of_none q nD
        rw [upd_ne this]
        exact s5 _ _ (s4 _ _ (s3 _ _ (sH _ _ q)))
      · have r6 : Reps (r.hide D) H5 (acc ++ [w5]) (done ++ [yv]) := ((rs3.same s4).same s5).append (.cons r5 .nil)
        exact Reps.keep (Keeps.setD eD5) _ _ r6
  · have ei : i = xs.length := by omega
    subst ei
    rw [List.drop_length] at er
    cases er
    rw [List.append_nil] at ey
    subst ey
    refine .inl ⟨j2 rfl, hxs _ _ (s1.trans sH) (.lst atn eD (Reps.keep Keeps.unhide _ _ rs)) fun _ _ => ⟨D, rfl, s1.free nD, fun zs e => by cases e; exact ⟨acc, eD, rs⟩⟩⟩
theorem lc_read {fb : Str → Bool} {sc2 : Scope} {elt tg it : Expr} {ifs : List Expr} {cs : Scope} (ht : targetsG N sc2 fb (ownSlots N cs) tg = true) {σ : L2.St} {H : Hp} {Q : VK} (h : tE P call N X W I (n + 1) (.ListComp elt [⟨tg, it, ifs, 0⟩] cs p) σ H Q) :
    tLc (tI P call N X W I n it) (gTg N tg X.K) (tIfs P call N X (fun _ _ _ _ => False) (ownSlots N cs ++ I) n ifs) (tE P call N X (fun _ _ _ _ => False) (ownSlots N cs ++ I) n elt) (ownSlots N cs) σ H Q := by
  obtain ⟨r, ρ, at_, h⟩ := h
  have h : Post X W σ H (R.bind (denI P call N n it ρ) fun xs => need (isRange it = true → xs.length ≤ line)
        (R.bind (R.calm (compLoop (fun x => R.bind (bindTg N tg x (wipes ρ (ownSlots N cs))) fun ρ' => R.bind (denIfs P call N n ifs ρ') fun k =>
          if k = true then R.bind (denE P call N n elt ρ') fun y => .ok (some y) else .ok none) xs)) fun ys => .ok (.lst ys))) (fun z => OutF true r H z Q) := h
  refine ⟨r, ρ, at_, h.bind.mono fun xs hxs J H1 s1 hJ hl => ?_⟩
  have hn : isRange it = true → xs.length ≤ line := by
    by_cases z : isRange it = true → xs.length ≤ line
    · exact z
    · simp only [need, if_neg z] at hxs; exact hxs.elim
  simp only [need, if_pos hn] at hxs
  have hlen : xs.length ≤ sizeLine := by
    rcases hl with hl | hl
    · rw [← line_eq]; exact hn hl
    · exact hl
  revert hxs
  cases hc : R.calm (compLoop (fun x => R.bind (bindTg N tg x (wipes ρ (ownSlots N cs))) fun ρ' => R.bind (denIfs P call N n ifs ρ') fun k =>
          if k = true then R.bind (denE P call N n elt ρ') fun y => R.ok (some y) else R.ok none) xs) with
  | stuck => exact fun hxs => hxs.elim
  | exc c fs =>
    exfalso
    revert hc
    generalize compLoop _ xs = z
    intro hc
    cases z <;> cases hc
  | ok ys => exact fun hxs => lc_go ht at_ s1 hJ hlen (calm_ok hc) hxs
theorem s_lc (S : Sound P call N n) (cx : Ctx P call N X k) (tk : Takes X W) {elt tg it : Expr} {ifs : List Expr} {cs : Scope} (hi : wfI P N n X.env.scope I tg it = true) (hs : noSet it = true) (hb : blkC N X.env.scope cs (ownPairs N cs) = true)
    (ht : targetsG N (relS cs X.env.scope) (fun x => cs.names.lookup x == some .cell) (ownSlots N cs) tg = true) (he : wfE P N n (relS cs X.env.scope) (ownSlots N cs ++ I) elt = true) (hf : wfIfs P N n (relS cs X.env.scope) (ownSlots N cs ++ I) ifs = true) :
    PE X (.ListComp elt [⟨tg, it, ifs, 0⟩] cs p) (tE P call N X W I (n + 1) (.ListComp elt [⟨tg, it, ifs, 0⟩] cs p)) := by
  refine (pe_lc (own := ownPairs N cs) (g := gTg N tg X.K) (tt := tIfs P call N X (fun _ _ _ _ => False) (ownSlots N cs ++ I) n ifs) (te := tE P call N X (fun _ _ _ _ => False) (ownSlots N cs ++ I) n elt) cx.calm cx.nd (S.i X k W cx tk I tg it hi) (by rw [cx.n]; exact blkOk_by hb)
    (fun s H C cl fp => pg_tg (X := X.blk s H cs (compEnvC cs cl C X.env) fp) cx.calm cx.n cx.nd (fun x h => h) ht)
    (fun s H C cl fp => S.ifs (X.blk s H cs (compEnvC cs cl C X.env) fp) k _ (cx.blk s H cs cl C fp) takes0 _ ifs hf)
    (fun s H C cl fp => S.e (X.blk s H cs (compEnvC cs cl C X.env) fp) k _ (cx.blk s H cs cl C fp) takes0 _ elt he)
    (fun x => by cases it <;> first | rfl | (cases hs))).imp fun σ H Q h => lc_read ht h
theorem blt_of {f : Str} (cx : Ctx P call N X k) (hf : callee P X.env.scope f = true) (hn : (P.fns.lookup f).isNone = true) : Gl X f ∧ X.mg f = none := by
  simp only [callee, Bool.and_eq_true] at hf
  refine ⟨glB_ok hf.1.1, cx.free f ?_⟩
  cases z : P.fns.lookup f with
  | none => simpa [z] using hf.2
  | some fd => rw [z] at hn; cases hn
theorem denA_two {es : List Expr} {ρ : Env} {vs : List PV} (h : denA P call N n es ρ = .ok vs) : vs.length = es.length := denA_len n es ρ vs h
theorem pi_enumG {e : Expr} {ta : TA} {p pos tpos : Pos} {elts : List Expr} {kk : Nat} (hg : Gl X "enumerate") (hm : X.mg "enumerate" = none) (ha : PA X [e] ta) (hs : starEach [e] X.env = [(false, eval e X.env)]) :
    PI X (.Tuple elts kk tpos) (.Call (.Name "enumerate" p) [e] [] pos) (fun σ H R => ta σ H fun vs H1 => ∃ v, vs = [v] ∧ ((∃ a xs, v = .ref a ∧ SqL X.K H1 a xs ∧ (xs.length ≤ sizeLine → R (Ite X.K a) H1)) ∨
      (∃ a xs, v = .ref a ∧ SqT X.K H1 a xs ∧ (xs.length ≤ sizeLine → R (IteF (fun H => SqT X.K H a xs) xs) H1)) ∨ ∃ x : Str, v = .str x ∧ R (IteF (fun _ => True) (x.cps.toList.map fun c => V.str ⟨#[c]⟩)) H1)) := by
  refine ⟨fun pins s σ H R I h => ?_⟩
  refine Call_ (ld_blt I hg hm boot_enumerate (PyProof.Rows.callWith_type1 (thn (ha.run pos pins s σ H _ I h) fun us s1 ⟨vs, H1, I1, r1, q1⟩ => ?_) hs rfl))
  obtain ⟨v, ex, q1⟩ := q1
  subst ex
  have two : ∀ b ∈ [s1.heap.objs.size + 1, s1.heap.objs.size], FpOk X pins H1 b := fun b hb => by
    have le : s1.heap.objs.size ≤ b := by
      rcases List.mem_cons.mp hb with z | z
      · rw [z]; exact Nat.le_add_right _ _
      · rw [List.mem_singleton.mp z]; exact Nat.le_refl _
    exact I1.fpOk le (I1.hok.fresh le)
  cases r1 with
  | cons r rr =>
    cases rr
    rcases q1 with ⟨a, xs, rfl, hq, q⟩ | ⟨a, xs, rfl, hq, q⟩ | ⟨x, rfl, q⟩
    · cases r
      obtain ⟨its, rv, p', hz⟩ := I1.list hq
      refine call_enumerate_list p'.isList fun h' he hit hsz hk => wpAny_pyIter_enum he ?_
      exact ⟨s1.heap.objs.size + 1, [s1.heap.objs.size + 1, s1.heap.objs.size], _, _, H1, rfl, I1.kept (t' := s1.toks) hk, turn_enum a (s1.heap.objs.size + 1) s1.heap.objs.size, ⟨⟨.none, he⟩, hit, Nat.succ_ne_self _⟩, two, q hz⟩
    · cases r
      obtain ⟨its, rv, p', hz⟩ := I1.tuple hq
      refine pyv_call_en1 (begins_tuple a its.toArray) p' fun h' he hit hk => wpAny_pyIter_enum he ?_
      exact ⟨s1.heap.objs.size + 1, [s1.heap.objs.size + 1, s1.heap.objs.size], _, _, H1, rfl, I1.kept (t' := s1.toks) hk, turn_enumT a (s1.heap.objs.size + 1) s1.heap.objs.size, ⟨⟨.none, he⟩, ⟨_, hit, rfl, rfl⟩, Nat.succ_ne_self _⟩, two, q hz⟩
    · obtain ⟨t, rfl⟩ := (show ∃ t, _ = Value.str x t from r)
      refine pyv_call_en1 (begins_text x t) trivial fun h' he hit hk => wpAny_pyIter_enum he ?_
      exact ⟨s1.heap.objs.size + 1, [s1.heap.objs.size + 1, s1.heap.objs.size], _, _, H1, rfl, I1.kept (t' := s1.toks) hk, turn_enumS (x := x) (t := t) (s1.heap.objs.size + 1) s1.heap.objs.size, ⟨⟨.none, he⟩, ⟨_, hit, rfl, rfl⟩, Nat.succ_ne_self _⟩, two, q⟩
theorem pi_zipB {e e2 : Expr} {ta : TA} {p pos tpos : Pos} {elts : List Expr} {kk : Nat} (hg : Gl X "zip") (hm : X.mg "zip" = none) (ha : PA X [e, e2] ta)
    (hs : starEach [e, e2] X.env = (false, eval e X.env) :: starEach [e2] X.env) (hpl : (backTo pos (starEach [e2] X.env)).any (·.1) = false) :
    PI X (.Tuple elts kk tpos) (.Call (.Name "zip" p) [e, e2] [] pos) (fun σ H R => ta σ H fun vs H1 => ∃ a b xs ys, vs = [.ref a, .ref b] ∧
      ((SqL X.K H1 a xs ∧ SqL X.K H1 b ys ∧ (xs.length ≤ sizeLine → R (Itz X.K a b) H1)) ∨ (SqT X.K H1 a xs ∧ SqT X.K H1 b ys ∧ (xs.length ≤ sizeLine → R (RZ.ItzT X.K a b) H1)) ∨ (SqL X.K H1 a xs ∧ SqT X.K H1 b ys ∧ (xs.length ≤ sizeLine → R (ItzM X.K a b) H1)) ∨ (SqT X.K H1 a xs ∧ SqL X.K H1 b ys ∧ (xs.length ≤ sizeLine → R (ItzN X.K a b) H1)))) := by
  refine ⟨fun pins s σ H R I h => ?_⟩
  refine Call_ (ld_blt I hg hm PyProof.Rows.boot_zip (PyProof.Rows.callWith_type1 (thn (ha.run pos pins s σ H _ I h) fun us s1 ⟨vs, H1, I1, r1, q1⟩ => ?_) hs hpl))
  obtain ⟨a, b, xs, ys, ex, q1⟩ := q1
  subst ex
  cases r1 with
  | cons r rr =>
    cases rr with
    | cons r' rr =>
      cases rr
      cases r
      cases r'
      have fresh5 : ∀ c, c ∈ [s1.heap.objs.size + 4, s1.heap.objs.size + 2, s1.heap.objs.size + 3, s1.heap.objs.size, s1.heap.objs.size + 1] → FpOk X pins H1 c := fun c hcm => by
        have e' : c = s1.heap.objs.size + 4 ∨ c = s1.heap.objs.size + 2 ∨ c = s1.heap.objs.size + 3 ∨ c = s1.heap.objs.size ∨ c = s1.heap.objs.size + 1 := by simpa using hcm
        have hle : s1.heap.objs.size ≤ c := by omega
        exact I1.fpOk hle (I1.hok.fresh hle)
      rcases q1 with ⟨hqx, hqy, q⟩ | ⟨hqx, hqy, q⟩ | ⟨hqx, hqy, q⟩ | ⟨hqx, hqy, q⟩
      · obtain ⟨its, rv, p1, hz1⟩ := I1.list hqx
        obtain ⟨its2, rv2, p2, _⟩ := I1.list hqy
        refine call_zip_2 p1.isList p2.isList fun h' hz hTI hTO h1 h2 hsz hk => wpAny_pyIter_zip hz ?_
        have I2 : Inv X pins σ H1 { s1 with heap := h' } := I1.kept (t' := s1.toks) hk
        exact ⟨s1.heap.objs.size + 4, [s1.heap.objs.size + 4, s1.heap.objs.size + 2, s1.heap.objs.size + 3, s1.heap.objs.size, s1.heap.objs.size + 1], _, _, H1, rfl, I2, turn_zip (PySem.W.ktu_apart s1.heap.objs.size a b p1.lt p2.lt), ⟨hz, hTI, ⟨_, _, hTO⟩, h1, h2⟩, fresh5, q hz1⟩
      · obtain ⟨its, rv, p1, hz1⟩ := I1.tuple hqx
        obtain ⟨its2, rv2, p2, _⟩ := I1.tuple hqy
        obtain ⟨o1, ho1, _⟩ := _root_.id p1
        obtain ⟨o2, ho2, _⟩ := _root_.id p2
        refine RZ.call_zipT (show s1.heap.IsTuple a its.toArray from p1) (show s1.heap.IsTuple b its2.toArray from p2) fun h' hz hTI hTO h1 h2 hsz hk => wpAny_pyIter_zip hz ?_
        have I2 : Inv X pins σ H1 { s1 with heap := h' } := I1.kept (t' := s1.toks) hk
        exact ⟨s1.heap.objs.size + 4, [s1.heap.objs.size + 4, s1.heap.objs.size + 2, s1.heap.objs.size + 3, s1.heap.objs.size, s1.heap.objs.size + 1], _, _, H1, rfl, I2, RZ.turn_zipT (PySem.W.ktu_apart s1.heap.objs.size a b (Heap.lt_size ho1) (Heap.lt_size ho2)), ⟨hz, hTI, ⟨_, _, hTO⟩, h1, h2⟩, fresh5, q hz1⟩
      · obtain ⟨its, rv, p1, hz1⟩ := I1.list hqx
        obtain ⟨its2, rv2, p2, _⟩ := I1.tuple hqy
        obtain ⟨o2, ho2, _⟩ := _root_.id p2
        refine zip_begins2 (begins_list a its.toArray) (begins_tuple b its2.toArray) p1.isList p2 fun h' hz hTI hTO h1 h2 hsz hk => wpAny_pyIter_zip hz ?_
        have I2 : Inv X pins σ H1 { s1 with heap := h' } := I1.kept (t' := s1.toks) hk
        exact ⟨s1.heap.objs.size + 4, [s1.heap.objs.size + 4, s1.heap.objs.size + 2, s1.heap.objs.size + 3, s1.heap.objs.size, s1.heap.objs.size + 1], _, _, H1, rfl, I2, turn_zipM (zip_sep2 (fun c hc => by rw [List.mem_singleton.mp hc]; exact p1.lt) (fun c hc => by rw [List.mem_singleton.mp hc]; exact Heap.lt_size ho2)), ⟨hz, hTI, ⟨_, _, hTO⟩, ⟨_, h1, rfl, rfl⟩, ⟨_, h2, rfl, rfl⟩⟩, fresh5, q hz1⟩
      · obtain ⟨its, rv, p1, hz1⟩ := I1.tuple hqx
        obtain ⟨its2, rv2, p2, _⟩ := I1.list hqy
        obtain ⟨o1, ho1, _⟩ := _root_.id p1
        refine zip_begins2 (begins_tuple a its.toArray) (begins_list b its2.toArray) p1 p2.isList fun h' hz hTI hTO h1 h2 hsz hk => wpAny_pyIter_zip hz ?_
        have I2 : Inv X pins σ H1 { s1 with heap := h' } := I1.kept (t' := s1.toks) hk
        exact ⟨s1.heap.objs.size + 4, [s1.heap.objs.size + 4, s1.heap.objs.size + 2, s1.heap.objs.size + 3, s1.heap.objs.size, s1.heap.objs.size + 1], _, _, H1, rfl, I2, turn_zipN (zip_sep2 (fun c hc => by rw [List.mem_singleton.mp hc]; exact Heap.lt_size ho1) (fun c hc => by rw [List.mem_singleton.mp hc]; exact p2.lt)), ⟨hz, hTI, ⟨_, _, hTO⟩, ⟨_, h1, rfl, rfl⟩, ⟨_, h2, rfl, rfl⟩⟩, fresh5, q hz1⟩
theorem s_range (S : Sound P call N n) (cx : Ctx P call N X k) (tk : Takes X W) {f : Str} {es : List Expr} {pf : Pos} {tg : Expr} (e0 : nameIs f "range" = true) (hf : callee P X.env.scope f = true) (hn : (P.fns.lookup f).isNone = true) (ha : wfA P N n X.env.scope I es = true) (hl : (es.length == 1 || es.length == 2 || es.length == 3) = true) :
    PI X tg (.Call (.Name f pf) es [] p) (tI P call N X W I (n + 1) (.Call (.Name f pf) es [] p)) := by
  obtain ⟨hg, hm⟩ := blt_of cx hf hn
  have e1 := nameIs_eq e0
  have hst := wfA_star n ha
  have hd : ∀ (σ : L2.St) (H : Hp) (ok : List PV → Prop) (ρ : Env), Post X W σ H (denI P call N (n + 1) (.Call (.Name f pf) es [] p) ρ) ok → Post X W σ H (R.bind (denA P call N n es ρ) rangeOf) ok := by
    intro σ H ok ρ h
    have h : Post X W σ H (if nameIs f "range" = true then R.bind (denA P call N n es ρ) rangeOf
      else if nameIs f "enumerate" = true then R.bind (denA P call N n es ρ) enumOf
      else if nameIs f "zip" = true then R.bind (denA P call N n es ρ) zipOf
      else R.bind (denE P call N n (.Call (.Name f pf) es [] p) ρ) items) ok := h
    rwa [if_pos e0] at h
  have hir : isRange (.Call (.Name f pf) es [] p) = true := e0
  subst e1
  match es, hl, ha, hst, hd, hir with
  | [a], _, ha, hst, hd, hir =>
    have hst' : noStar a = true := by simpa using hst
    refine (pi_range1 hg hm (S.a X k W cx tk I [a] ha) (starEach_cons hst')).imp fun σ H Q h => ?_
    obtain ⟨r, ρ, at_, h⟩ := h
    have h := (hd _ _ _ _ h).bind
    refine ⟨r, ρ, at_, h.monoOk fun zs ez hz vs H1 s1 rs => ?_⟩
    unfold rangeOf at hz
    split at hz
    · rename_i j
      obtain ⟨v, rfl, h⟩ := reps1 rs
      cases h
      by_cases hs : small j
      · simp only [need, if_pos hs] at hz
        exact ⟨j, rfl, hs.1, hs.2, hz _ H1 s1 (it_range 0 j.toNat) (.inl hir)⟩
      · simp only [need, if_neg hs] at hz; exact hz.elim
    · have l := denA_len n _ _ _ ez
      cases l
    · have l := denA_len n _ _ _ ez
      cases l
    · exact hz.elim
  | [a, b], _, ha, hst, hd, hir =>
    have hst' : noStar a = true ∧ noStar b = true := by simpa using hst
    refine (pi_range2 hg hm (S.a X k W cx tk I [a, b] ha) (by rw [starEach_cons hst'.1, starEach_cons hst'.2]; rfl) (by rw [starEach_cons hst'.2]; rfl)).imp fun σ H Q h => ?_
    obtain ⟨r, ρ, at_, h⟩ := h
    have h := (hd _ _ _ _ h).bind
    refine ⟨r, ρ, at_, h.monoOk fun zs ez hz vs H1 s1 rs => ?_⟩
    unfold rangeOf at hz
    split at hz
    · have l := denA_len n _ _ _ ez
      cases l
    · rename_i i j
      obtain ⟨v, w', rfl, h1, h2⟩ := reps2 rs
      cases h1; cases h2
      by_cases hs : small i ∧ small j
      · simp only [need, if_pos hs] at hz
        exact ⟨i, j, rfl, ⟨hs.1.1, hs.1.2, hs.2.1, hs.2.2⟩, hz _ H1 s1 (it_range i (j - i).toNat) (.inl hir)⟩
      · simp only [need, if_neg hs] at hz; exact hz.elim
    · have l := denA_len n _ _ _ ez
      cases l
    · exact hz.elim
  | [a, b, c], _, ha, hst, hd, hir =>
    have hst' : noStar a = true ∧ noStar b = true ∧ noStar c = true := by simpa using hst
    refine (pi_range3 hg hm (S.a X k W cx tk I [a, b, c] ha) (starEach_cons hst'.1) (by rw [starEach_cons hst'.2.1, starEach_cons hst'.2.2]; rfl)).imp fun σ H Q h => ?_
    obtain ⟨r, ρ, at_, h⟩ := h
    have h := (hd _ _ _ _ h).bind
    refine ⟨r, ρ, at_, h.monoOk fun zs ez hz vs H1 s1 rs => ?_⟩
    unfold rangeOf at hz
    split at hz
    · have l := denA_len n _ _ _ ez
      cases l
    · have l := denA_len n _ _ _ ez
      cases l
    · rename_i i j c
      obtain ⟨v, w', u', rfl, h1, h2, h3⟩ := reps3 rs
      cases h1; cases h2; cases h3
      by_cases hs : small i ∧ small j ∧ (c = -1 ∨ (0 < c ∧ c < 1073741824))
      · simp only [need, if_pos hs] at hz
        exact ⟨i, j, c, stepN i j c, rfl, rgC_ok hs.1 hs.2.1 hs.2.2, hz _ H1 s1 (it_rangeC i c (stepN i j c)) (.inl hir)⟩
      · simp only [need, if_neg hs] at hz; exact hz.elim
    · exact hz.elim
/-! ### list(range(..)), tuple(range(..)) -/
theorem prgA1 {a : Expr} {ta : TA} {p pos : Pos} (hg : Gl X "range") (hm : X.mg "range" = none) (ha : PA X [a] ta) (hs : starEach [a] X.env = [(false, eval a X.env)]) :
    PRg X (.Call (.Name "range" p) [a] [] pos) (fun σ H Q => ta σ H fun vs H1 => ∃ j : Int, vs = [.int j] ∧ Q 0 j H1) := by
  intro pins s σ H Q I h
  refine Call_ (ld_blt I hg hm boot_range (PyProof.Rows.callWith_type1 (thn (ha.run pos pins s σ H _ I h) fun us s1 ⟨vs, H1, I1, r1, q1⟩ => ?_) hs rfl))
  obtain ⟨j, e, q⟩ := q1
  subst e
  cases r1 with
  | cons r rr =>
    cases rr
    obtain ⟨t, rfl⟩ := r
    exact call_range_1 ⟨_, 0, j, _, _, _, H1, rfl, IsRange.new _ _ _ _ _ _ _, I1.kept fun b u e => Heap.get?_push_of_some _ e, q⟩
theorem prgA2 {a b : Expr} {ta : TA} {p pos : Pos} (hg : Gl X "range") (hm : X.mg "range" = none) (ha : PA X [a, b] ta) (hs : starEach [a, b] X.env = [(false, eval a X.env), (false, eval b X.env)]) (hs2 : starEach [b] X.env = [(false, eval b X.env)]) :
    PRg X (.Call (.Name "range" p) [a, b] [] pos) (fun σ H Q => ta σ H fun vs H1 => ∃ i j : Int, vs = [.int i, .int j] ∧ Q i j H1) := by
  intro pins s σ H Q I h
  refine Call_ (ld_blt I hg hm boot_range (PyProof.Rows.callWith_type1 (thn (ha.run pos pins s σ H _ I h) fun us s1 ⟨vs, H1, I1, r1, q1⟩ => ?_) (by rw [hs, hs2]) (by rw [hs2]; rfl)))
  obtain ⟨i, j, e, q⟩ := q1
  subst e
  cases r1 with
  | cons r rr =>
    cases rr with
    | cons r' rr =>
      cases rr
      obtain ⟨t, rfl⟩ := r
      obtain ⟨t', rfl⟩ := r'
      exact call_range_2 ⟨_, i, j, _, _, _, H1, rfl, IsRange.new _ _ _ _ _ _ _, I1.kept fun b u e => Heap.get?_push_of_some _ e, q⟩
theorem rgV_ints (a b : Int) : rgV a b = ((List.range (b - a).toNat).map fun (k : Nat) => a + (k : Int)).map V.int := by
  unfold rgV
  rw [List.map_map]; rfl
theorem rangeL_ints (a : Int) (n : Nat) : rangeL a n = ((List.range n).map fun (k : Nat) => a + (k : Int)).map PV.int := by
  unfold rangeL
  rw [List.map_map]; rfl
theorem reps_rg {r : Rc} {H : Hp} (a b : Int) : Reps r H (rgV a b) (rangeL a (b - a).toNat) := by
  rw [rgV_ints, rangeL_ints]
  exact reps_ints r H _
theorem rngArg_ok {f : Str} {es es2 : List Expr} (h : rngArg f es = some es2) : ∃ pg pr, es = [.Call (.Name (Str.ofString "range") pg) es2 [] pr] ∧ (f = Str.ofString "list" ∨ f = Str.ofString "tuple") ∧ (es2.length == 1 || es2.length == 2) = true := by
  unfold rngArg at h
  split at h
  · rename_i g pg es' pr
    split at h
    · rename_i c
      cases h
      obtain ⟨c, c3⟩ := and_split c
      obtain ⟨c1, c2⟩ := and_split c
      have e := nameIs_eq c2
      subst e
      refine ⟨pg, pr, rfl, ?_, c3⟩
      rcases Bool.or_eq_true _ _ |>.mp c1 with z | z
      · exact .inl (nameIs_eq z)
      · exact .inr (nameIs_eq z)
    · cases h
  · cases h
/-- what the range's bounds are -/
def rgB (vs : List V) (a b : Int) : Prop := (∃ j : Int, vs = [.int j] ∧ a = 0 ∧ b = j) ∨ ∃ i j : Int, vs = [.int i, .int j] ∧ a = i ∧ b = j
theorem rg_post {X : Cx} {W : WX} {σ : L2.St} {H H1 : Hp} {f : Str} {r : Rc} {zs : List PV} {vs : List V} {es2 : List Expr} {ok : PV → Prop} (hl : (es2.length == 1 || es2.length == 2) = true) (el : zs.length = es2.length)
    (hz : Post X W σ H (rangeOf zs) fun xs => Post X W σ H (seqRng f xs) ok) (rs : Reps r H1 vs zs) :
    ∃ a b, rgB vs a b ∧ RgOk a b ∧ ok (if nameIs f "list" = true then .lst (rangeL a (b - a).toNat) else .tup (rangeL a (b - a).toNat)) := by
  have fin : ∀ a b : Int, small a → small b → Post X W σ H (seqRng f (rangeL a (b - a).toNat)) ok → RgOk a b ∧ ok (if nameIs f "list" = true then .lst (rangeL a (b - a).toNat) else .tup (rangeL a (b - a).toNat)) := by
    intro a b ha hb h
    unfold seqRng at h
    by_cases hs : (rangeL a (b - a).toNat).length ≤ 16777216
    · rw [need, if_pos hs] at h
      have hl : (rangeL a (b - a).toNat).length = (b - a).toNat := by simp [rangeL]
      rw [hl] at hs
      exact ⟨⟨ha.1, ha.2, hb.1, hb.2, by omega⟩, h⟩
    · rw [need, if_neg hs] at h; exact h.elim
  unfold rangeOf at hz
  split at hz
  · rename_i j
    obtain ⟨v, rfl, h⟩ := reps1 rs
    cases h
    by_cases hs : small j
    · rw [need, if_pos hs] at hz
      have z0 : small 0 := ⟨by decide, by decide⟩
      have e : (j - 0).toNat = j.toNat := by simp
      have hz : Post X W σ H (seqRng f (rangeL 0 (j - 0).toNat)) ok := by rw [e]; exact hz
      exact ⟨0, j, .inl ⟨j, rfl, rfl, rfl⟩, fin 0 j z0 hs hz⟩
    · rw [need, if_neg hs] at hz; exact hz.elim
  · rename_i i j
    obtain ⟨v, w', rfl, h1, h2⟩ := reps2 rs
    cases h1; cases h2
    by_cases hs : small i ∧ small j
    · rw [need, if_pos hs] at hz
      exact ⟨i, j, .inr ⟨i, j, rfl, rfl, rfl⟩, fin i j hs.1 hs.2 hz⟩
    · rw [need, if_neg hs] at hz; exact hz.elim
  · rw [← el] at hl
    simp at hl
  · exact hz.elim
theorem s_rngSeq (S : Sound P call N n) (cx : Ctx P call N X k) (tk : Takes X W) {f : Str} {es es2 : List Expr} {pf : Pos} (hi : ¬ nameIs f "isinstance" = true) (hr : rngArg f es = some es2)
    (h1 : callee P X.env.scope f = true) (h2 : (P.fns.lookup f).isNone = true) (h3 : callee P X.env.scope (Str.ofString "range") = true) (h4 : (P.fns.lookup (Str.ofString "range")).isNone = true) (ha : wfA P N n X.env.scope I es2 = true) :
    PE X (.Call (.Name f pf) es [] p) (tE P call N X W I (n + 1) (.Call (.Name f pf) es [] p)) := by
  obtain ⟨hg, hm⟩ := blt_of cx h1 h2
  obtain ⟨hg3, hm3⟩ := blt_of cx h3 h4
  obtain ⟨pg, pr, rfl, hf, hl⟩ := rngArg_ok hr
  have hd : ∀ (σ : L2.St) (H : Hp) (ok : PV → Prop) (ρ : Env), Post X W σ H (denE P call N (n + 1) (.Call (.Name f pf) [.Call (.Name (Str.ofString "range") pg) es2 [] pr] [] p) ρ) ok → Post X W σ H (R.bind (R.bind (denA P call N n es2 ρ) rangeOf) (seqRng f)) ok := by
    intro σ H ok ρ h
    change Post X W σ H (if nameIs f "isinstance" = true then _ else _) ok at h
    rw [if_neg hi] at h
    rw [hr] at h
    exact h
  have hst := wfA_star n ha
  have hfr : freshE P (.Call (.Name f pf) [.Call (.Name (Str.ofString "range") pg) es2 [] pr] [] p) = true := by
    show (match P.fns.lookup f with | some fd => fd.fresh | none => true) = true
    cases z : P.fns.lookup f with
    | none => rfl
    | some fd => rw [z] at h2; cases h2
  -- the range
  have hp : ∃ te, PRg X (.Call (.Name (Str.ofString "range") pg) es2 [] pr) te ∧ ∀ σ H (Q : Int → Int → Hp → Prop), tA P call N X W I n es2 σ H (fun vs H1 => ∃ a b, rgB vs a b ∧ Q a b H1) → te σ H Q := by
    match es2, hl, ha, hst with
    | [a], _, ha, hst =>
      have hst' : noStar a = true := by simpa using hst
      refine ⟨_, prgA1 hg3 hm3 (S.a X k W cx tk I [a] ha) (starEach_cons hst'), fun σ H Q h => ?_⟩
      obtain ⟨r, ρ, at_, h⟩ := h
      refine ⟨r, ρ, at_, h.monoOk fun zs ez hz vs H1 s1 rs => ?_⟩
      obtain ⟨x, y, hb, q⟩ := hz vs H1 s1 rs
      rcases hb with ⟨j, e, rfl, rfl⟩ | ⟨i, j, e, rfl, rfl⟩
      · exact ⟨_, e, q⟩
      · have l := denA_len n _ _ _ ez
        rw [← rs.length, e] at l
        cases l
    | [a, b], _, ha, hst =>
      have hst' : noStar a = true ∧ noStar b = true := by simpa using hst
      refine ⟨_, prgA2 hg3 hm3 (S.a X k W cx tk I [a, b] ha) (by rw [starEach_cons hst'.1, starEach_cons hst'.2]; rfl) (by rw [starEach_cons hst'.2]; rfl), fun σ H Q h => ?_⟩
      obtain ⟨r, ρ, at_, h⟩ := h
      refine ⟨r, ρ, at_, h.monoOk fun zs ez hz vs H1 s1 rs => ?_⟩
      obtain ⟨x, y, hb, q⟩ := hz vs H1 s1 rs
      rcases hb with ⟨j, e, rfl, rfl⟩ | ⟨i, j, e, rfl, rfl⟩
      · have l := denA_len n _ _ _ ez
        rw [← rs.length, e] at l
        cases l
      · exact ⟨_, _, e, q⟩
  obtain ⟨te, hp, hte⟩ := hp
  rcases hf with rfl | rfl
  · refine (pe_listRg cx.calm hg hm hp (starEach_cons rfl)).imp fun σ H Q h => ?_
    obtain ⟨r, ρ, at_, h⟩ := h
    have h := (hd _ _ _ _ h).bind.bind
    rw [hfr] at h
    refine hte _ _ _ ⟨r, ρ, at_, h.monoOk fun zs ez hz vs H1 s1 rs => ?_⟩
    obtain ⟨a, b, hb, ok, q⟩ := rg_post hl (denA_len n _ _ _ ez) hz rs
    exact ⟨a, b, hb, ok, fun p np => (OutF.out (OutF.same s1 q)).lst (at_.same s1).al (reps_rg a b) p np⟩
  · refine (pe_tupRg cx.calm hg hm hp (starEach_cons rfl)).imp fun σ H Q h => ?_
    obtain ⟨r, ρ, at_, h⟩ := h
    have h := (hd _ _ _ _ h).bind.bind
    rw [hfr] at h
    refine hte _ _ _ ⟨r, ρ, at_, h.monoOk fun zs ez hz vs H1 s1 rs => ?_⟩
    obtain ⟨a, b, hb, ok, q⟩ := rg_post hl (denA_len n _ _ _ ez) hz rs
    exact ⟨a, b, hb, ok, fun p np => (OutF.out (OutF.same s1 q)).tup (reps_rg a b) p np⟩
theorem s_enum (S : Sound P call N n) (cx : Ctx P call N X k) (tk : Takes X W) {f : Str} {es : List Expr} {pf : Pos} {tg : Expr} (e0 : nameIs f "enumerate" = true) (hf : callee P X.env.scope f = true) (hn : (P.fns.lookup f).isNone = true) (ha : wfA P N n X.env.scope I es = true) (htg : isTupT tg = true) (hl : es.length = 1) :
    PI X tg (.Call (.Name f pf) es [] p) (tI P call N X W I (n + 1) (.Call (.Name f pf) es [] p)) := by
  obtain ⟨hg, hm⟩ := blt_of cx hf hn
  have e1 := nameIs_eq e0
  subst e1
  have hst := wfA_star n ha
  match es, hl, ha, hst with
  | [a], _, ha, hst =>
    have hst' : noStar a = true := by simpa using hst
    cases tg with
    | Tuple elts kk tpos =>
      refine (pi_enumG hg hm (S.a X k W cx tk I [a] ha) (starEach_cons hst')).imp fun σ H Q h => ?_
      obtain ⟨r, ρ, at_, h⟩ := h
      have h : Post X W σ H (R.bind (denA P call N n [a] ρ) enumOf) _ := h
      refine ⟨r, ρ, at_, h.bind.monoOk fun zs ez hz vs H1 s1 rs => ?_⟩
      unfold enumOf at hz
      split at hz
      · obtain ⟨v, rfl, h1⟩ := reps1 rs
        cases h1 with
        | lst n1 sq r1 => exact ⟨_, rfl, .inl ⟨_, _, rfl, SqL.of sq, fun hz' => hz _ H1 s1 (at_.k ▸ it_enum sq n1 r1) (.inr (by simpa [enumL, r1.length] using hz'))⟩⟩
      · obtain ⟨v, rfl, h1⟩ := reps1 rs
        cases h1 with
        | tup sq r1 => exact ⟨_, rfl, .inr (.inl ⟨_, _, rfl, at_.k ▸ sq, fun hz' => hz _ H1 s1 (it_enumF (fun r' H2 kp => by have z := kp.seqT sq; rw [kp.k, at_.k] at z; exact z) r1) (.inr (by simpa [enumL, r1.length] using hz'))⟩)⟩
      · obtain ⟨v, rfl, h1⟩ := reps1 rs
        cases h1 with
        | str x g => exact ⟨_, rfl, .inr (.inr ⟨_, rfl, hz _ H1 s1 (it_enumF (fun _ _ _ => trivial) (by simpa using reps_signs r H1 _ g.2)) (.inr (by simpa [enumL] using g.1))⟩)⟩
      · exact hz.elim
    | _ => cases htg
theorem s_zip (S : Sound P call N n) (cx : Ctx P call N X k) (tk : Takes X W) {f : Str} {es : List Expr} {pf : Pos} {tg : Expr} (e0 : nameIs f "zip" = true) (hf : callee P X.env.scope f = true) (hn : (P.fns.lookup f).isNone = true) (ha : wfA P N n X.env.scope I es = true) (htg : isTupT tg = true) (hl : es.length = 2) :
    PI X tg (.Call (.Name f pf) es [] p) (tI P call N X W I (n + 1) (.Call (.Name f pf) es [] p)) := by
  obtain ⟨hg, hm⟩ := blt_of cx hf hn
  have e1 := nameIs_eq e0
  subst e1
  have hst := wfA_star n ha
  match es, hl, ha, hst with
  | [a, b], _, ha, hst =>
    have hst' : noStar a = true ∧ noStar b = true := by simpa using hst
    cases tg with
    | Tuple elts kk tpos =>
      refine (pi_zipB hg hm (S.a X k W cx tk I [a, b] ha) (starEach_cons hst'.1) (by rw [starEach_cons hst'.2]; rfl)).imp fun σ H Q h => ?_
      obtain ⟨r, ρ, at_, h⟩ := h
      have h : Post X W σ H (R.bind (denA P call N n [a, b] ρ) zipOf) _ := h
      refine ⟨r, ρ, at_, h.bind.monoOk fun zs ez hz vs H1 s1 rs => ?_⟩
      unfold zipOf at hz
      split at hz
      · obtain ⟨v, w', rfl, h1, h2⟩ := reps2 rs
        cases h1 with
        | lst n1 sq r1 =>
          cases h2 with
          | lst n2 sq2 r2 => exact ⟨_, _, _, _, rfl, .inl ⟨SqL.of sq, SqL.of sq2, fun hz' => hz _ H1 s1 (at_.k ▸ it_zipL sq n1 r1 sq2 n2 r2) (.inr (by have := r1.length; simp [zipL]; omega))⟩⟩
      · obtain ⟨v, w', rfl, h1, h2⟩ := reps2 rs
        cases h1 with
        | tup sq r1 =>
          cases h2 with
          | tup sq2 r2 => exact ⟨_, _, _, _, rfl, .inr (.inl ⟨at_.k ▸ sq, at_.k ▸ sq2, fun hz' => hz _ H1 s1 (at_.k ▸ it_zipT sq r1 sq2 r2) (.inr (by have := r1.length; simp [zipL]; omega))⟩)⟩
      · obtain ⟨v, w', rfl, h1, h2⟩ := reps2 rs
        cases h1 with
        | lst n1 sq r1 =>
          cases h2 with
          | tup sq2 r2 => exact ⟨_, _, _, _, rfl, .inr (.inr (.inl ⟨SqL.of sq, at_.k ▸ sq2, fun hz' => hz _ H1 s1 (at_.k ▸ it_zipM sq n1 r1 sq2 r2) (.inr (by have := r1.length; simp [zipL]; omega))⟩))⟩
      · obtain ⟨v, w', rfl, h1, h2⟩ := reps2 rs
        cases h1 with
        | tup sq r1 =>
          cases h2 with
          | lst n2 sq2 r2 => exact ⟨_, _, _, _, rfl, .inr (.inr (.inr ⟨at_.k ▸ sq, SqL.of sq2, fun hz' => hz _ H1 s1 (at_.k ▸ it_zipN sq r1 sq2 n2 r2) (.inr (by have := r1.length; simp [zipL]; omega))⟩))⟩
      · exact hz.elim
    | _ => cases htg
theorem s_any (S : Sound P call N n) (cx : Ctx P call N X k) (tk : Takes X W) {e tg : Expr} (he : wfE P N n X.env.scope I e = true) (hd : ∀ ρ, denI P call N (n + 1) e ρ = R.bind (denE P call N n e ρ) items) : PI X tg e (tI P call N X W I (n + 1) e) := by
  refine (pi_any (S.e X k W cx tk I e he)).imp fun σ H Q h => ?_
  obtain ⟨r, ρ, at_, h⟩ := h
  rw [hd] at h
  refine tE.of at_ h.bind fun z hz v H1 s1 rv _ => ?_
  have hx : ∀ c fs, items z ≠ .exc c fs := by intro c fs e; unfold items at e; split at e <;> cases e
  obtain ⟨xs, e1, q⟩ := hz.pure hx
  exact ⟨r, z, xs, at_.k, rv, e1, fun J hJ hl => q J H1 s1 hJ (.inr hl)⟩
end
end PyV
set_option Elab.async false
set_option linter.all false
set_option maxRecDepth 100000
set_option maxHeartbeats 1000000
/-! Layer PyV, part 6: the induction over expressions. -/
namespace PyV
open PySem PySem.Spec PyProof.Rows L2
section
variable {P : Prog} {call : Str → List PV → R PV} {N : List Str}
theorem sound_zero : Sound P call N 0 :=
  ⟨fun _ _ _ _ _ _ _ h => (by cases h), fun _ _ _ _ _ _ _ h => (by cases h), fun _ _ _ _ _ _ _ h => (by cases h), fun _ _ _ _ _ _ _ h => (by cases h), fun _ _ _ _ _ _ _ h => (by cases h), fun _ _ _ _ _ _ _ _ h => (by cases h)⟩
theorem sound_e {n : Nat} (S : Sound P call N n) (S' : ∀ m, n = m + 1 → Sound P call N m) {X : Cx} {k : Nat} {W : WX} (cx : Ctx P call N X k) (tk : Takes X W) (I : List Nat) (e : Expr) (h : wfE P N (n + 1) X.env.scope I e = true) : PE X e (tE P call N X W I (n + 1) e) := by
  cases e with
  | Constant c j p => exact s_const h
  | Name x p =>
    obtain ⟨h1, h2⟩ := and_split h
    exact s_name cx h1 h2
  | BoolOp op es p =>
    match es, h with
    | [], h => cases h
    | [a], h => exact s_bool1 S cx tk h
    | a :: b :: r, h =>
      obtain ⟨h1, h2⟩ := and_split h
      cases op with
      | And => exact s_and S cx tk h1 h2
      | Or => exact s_or S cx tk h1 h2
  | UnaryOp op a p =>
    by_cases ho : op = .Not
    · subst ho; exact s_not S cx tk h
    · exact s_unop S cx tk ho (by cases op <;> first | exact h | exact absurd rfl ho)
  | BinOp a op b p =>
    obtain ⟨h1, h2⟩ := and_split h
    exact s_binop S cx tk h1 h2
  | Compare a ops bs p =>
    match ops, bs, h with
    | [op], [b], h =>
      obtain ⟨h1, h2⟩ := and_split h
      obtain ⟨h0, h1⟩ := and_split h1
      exact s_cmp S cx tk h0 h1 h2
    | [op, op2], [b, c], h =>
      obtain ⟨h1, h5⟩ := and_split h
      obtain ⟨h1, h4⟩ := and_split h1
      obtain ⟨h1, h3⟩ := and_split h1
      obtain ⟨h1, h2⟩ := and_split h1
      exact s_chain S cx tk h1 h2 h3 h4 h5
    | [], _, h => cases h
    | [_], [], h => cases h
    | [_], _ :: _ :: _, h => cases h
    | [_, _], [], h => cases h
    | [_, _], [_], h => cases h
    | [_, _], _ :: _ :: _ :: _, h => cases h
    | _ :: _ :: _ :: _, _, h => cases h
  | IfExp c a b p =>
    obtain ⟨h1, h2⟩ := and_split h
    obtain ⟨h0, h1⟩ := and_split h1
    exact s_ifExp S cx tk h0 h1 h2
  | Subscript a b p =>
    by_cases hs : noSlice b = true
    · have h : (wfE P N n X.env.scope I a && wfE P N n X.env.scope I b && noSlice b) = true := by
        cases b <;> first | exact h | (cases hs)
      obtain ⟨h1, h2⟩ := and_split h
      obtain ⟨h0, h1⟩ := and_split h1
      exact s_index S cx tk h0 h1 hs
    · cases b with
      | Slice lo hi st p2 =>
        cases st with
        | none =>
          obtain ⟨h1, h2⟩ := and_split h
          obtain ⟨h0, h1⟩ := and_split h1
          exact s_slice S cx tk h0 h1 h2
        | some st =>
          by_cases hr : isRevSl (.Slice lo hi (some st) p2) = true
          · obtain ⟨kk, q1, q2, rfl, rfl, rfl⟩ := isRevSl_ok hr
            exact s_rev S cx tk h
          have h : (wfE P N n X.env.scope I a && wfE P N n X.env.scope I (.Slice lo hi (some st) p2) && noSlice (.Slice lo hi (some st) p2)) = true := by
            cases lo <;> cases hi <;> cases st <;> first
              | exact h
              | (rename_i op a1 q2
                 cases op <;> first
                   | exact h
                   | (cases a1 <;> first
                       | exact h
                       | (rename_i c kk q1
                          cases c <;> first
                            | exact h
                            | (rename_i i
                               cases i with
                               | ofNat m =>
                                 match m, h, hr with
                                 | 0, h, _ => exact h
                                 | 1, h, hr => first | exact h | exact absurd rfl hr
                                 | m + 2, h, _ => exact h
                               | negSucc m => exact h))))
          obtain ⟨_, h2⟩ := and_split h
          exact absurd h2 hs
      | _ => exact absurd rfl hs
  | Tuple es j p =>
    obtain ⟨h1, h2⟩ := and_split h
    exact s_tup S cx tk h1 (of_decide_eq_true h2)
  | List es p =>
    obtain ⟨h1, h2⟩ := and_split h
    exact s_lst S cx tk h1 (of_decide_eq_true h2)
  | Dict ks vs p =>
    obtain ⟨h, h5⟩ := and_split h
    obtain ⟨h, h4⟩ := and_split h
    obtain ⟨h, h3⟩ := and_split h
    obtain ⟨h1, h2⟩ := and_split h
    exact s_dict S cx tk h1 h2 (of_decide_eq_true h3) (by intro e; rw [e] at h4; cases h4) (of_decide_eq_true h5)
  | Call f es kws p =>
    cases f with
    | Name f pf =>
      cases kws with
      | cons _ _ => cases h
      | nil =>
        change (if nameIs f "isinstance" = true then _ else _) = true at h
        by_cases hi : nameIs f "isinstance" = true
        · rw [if_pos hi] at h
          split at h
          · rename_i a t pt
            obtain ⟨h, h8⟩ := and_split h
            obtain ⟨h, h7⟩ := and_split h
            obtain ⟨h, h6⟩ := and_split h
            obtain ⟨h, h5⟩ := and_split h
            obtain ⟨h, h4⟩ := and_split h
            obtain ⟨h, h3⟩ := and_split h
            obtain ⟨h1, h2⟩ := and_split h
            exact s_isi S cx tk hi h1 h2 h3 h4 h5 h6 h7 h8
          · cases h
        · rw [if_neg hi] at h
          cases hr : rngArg f es with
          | some es2 =>
          rw [hr] at h
          obtain ⟨h, h5⟩ := and_split h
          obtain ⟨h, h4⟩ := and_split h
          obtain ⟨h, h3⟩ := and_split h
          obtain ⟨h1, h2⟩ := and_split h
          exact s_rngSeq S cx tk hi hr h1 h2 h3 h4 h5
          | none =>
          rw [hr] at h
          obtain ⟨h0, h3⟩ := and_split h
          obtain ⟨h1, h2⟩ := and_split h0
          clear h0
          cases n with
          | zero => cases h2
          | succ m =>
            refine s_call (n := m) (fun I es h => (S' m rfl).a X k W cx tk I es h) cx tk h1 h2 h3 fun σ H Q h => ?_
            obtain ⟨r, ρ, at_, h⟩ := h
            refine ⟨r, ρ, at_, ?_⟩
            change Post X W σ H (if nameIs f "isinstance" = true then _ else _) _ at h
            rw [if_neg hi, hr] at h
            exact h
    | Attribute o m ap =>
      cases kws with
      | cons _ _ => cases es <;> cases h
      | nil =>
        cases es with
        | nil => cases h
        | cons e es =>
          obtain ⟨h, h6⟩ := and_split h
          obtain ⟨h, h5⟩ := and_split h
          obtain ⟨h, h4⟩ := and_split h
          obtain ⟨h, h3⟩ := and_split h
          obtain ⟨h1, h2⟩ := and_split h
          exact s_method S cx tk h1 h2 h3 (of_decide_eq_true h4) (of_decide_eq_true h5) h6
    | _ => cases h
  | ListComp elt gens cs p =>
    match gens, h with
    | [⟨tg, it, ifs, 0⟩], h =>
      obtain ⟨h, h6⟩ := and_split h
      obtain ⟨h, h5⟩ := and_split h
      obtain ⟨h, h4⟩ := and_split h
      obtain ⟨h, h3⟩ := and_split h
      obtain ⟨h1, h2⟩ := and_split h
      exact s_lc S cx tk h1 h2 h3 h4 h5 h6
    | [], h => cases h
    | [⟨_, _, _, .ofNat (_ + 1)⟩], h => cases h
    | [⟨_, _, _, .negSucc _⟩], h => cases h
    | a :: b :: r, h =>
      have h : false = true := by
        cases a with | mk a1 a2 a3 a4 => cases a4 with | ofNat m => (cases m <;> exact h) | negSucc m => exact h
      cases h
  | _ => cases h
theorem sound_t {n : Nat} (S : Sound P call N n) {X : Cx} {k : Nat} {W : WX} (cx : Ctx P call N X k) (tk : Takes X W) (I : List Nat) (e : Expr) (h : wfT P N (n + 1) X.env.scope I e = true) : PT X e (tT P call N X W I (n + 1) e) := by
  cases e with
  | BoolOp op es p =>
    match es, h with
    | [], h => cases h
    | [a], h => exact s_pt_bool1 S cx tk h
    | a :: b :: r, h =>
      obtain ⟨h1, h2⟩ := and_split h
      cases op with
      | And => exact s_pt_and S cx tk h1 h2
      | Or => exact s_pt_or S cx tk h1 h2
  | UnaryOp op a p =>
    cases op with
    | Not => exact s_pt_not S cx tk h
    | _ => exact s_pt_truth S cx tk h (fun _ => rfl) (fun _ => rfl)
  | Compare a ops bs p =>
    match ops, bs, h with
    | [op], [b], h =>
      obtain ⟨h1, h2⟩ := and_split h
      obtain ⟨h0, h1⟩ := and_split h1
      exact s_pt_cmp S cx tk h0 h1 h2
    | [op, op2], [b, c], h =>
      obtain ⟨h1, h5⟩ := and_split h
      obtain ⟨h1, h4⟩ := and_split h1
      obtain ⟨h1, h3⟩ := and_split h1
      obtain ⟨h1, h2⟩ := and_split h1
      exact s_pt_chain S cx tk h1 h2 h3 h4 h5
    | [], _, h => cases h
    | [_], [], h => cases h
    | [_], _ :: _ :: _, h => cases h
    | [_, _], [], h => cases h
    | [_, _], [_], h => cases h
    | [_, _], _ :: _ :: _ :: _, h => cases h
    | _ :: _ :: _ :: _, _, h => cases h
  | IfExp c a b p => cases h
  | _ => exact s_pt_truth S cx tk h (fun _ => rfl) (fun _ => rfl)
theorem sound_i {n : Nat} (S : Sound P call N n) {X : Cx} {k : Nat} {W : WX} (cx : Ctx P call N X k) (tk : Takes X W) (I : List Nat) (tg e : Expr) (h : wfI P N (n + 1) X.env.scope I tg e = true) : PI X tg e (tI P call N X W I (n + 1) e) := by
  by_cases hc : ∃ f pf es p, e = .Call (.Name f pf) es [] p
  · obtain ⟨f, pf, es, p, rfl⟩ := hc
    have h : (if nameIs f "range" = true then callee P X.env.scope f && (P.fns.lookup f).isNone && wfA P N n X.env.scope I es && (es.length == 1 || es.length == 2 || es.length == 3)
      else if nameIs f "enumerate" = true then callee P X.env.scope f && (P.fns.lookup f).isNone && wfA P N n X.env.scope I es && isTupT tg && decide (es.length = 1)
      else if nameIs f "zip" = true then callee P X.env.scope f && (P.fns.lookup f).isNone && wfA P N n X.env.scope I es && isTupT tg && decide (es.length = 2)
      else wfE P N n X.env.scope I (.Call (.Name f pf) es [] p)) = true := h
    by_cases h1 : nameIs f "range" = true
    · rw [if_pos h1] at h
      obtain ⟨h, a4⟩ := and_split h
      obtain ⟨h, a3⟩ := and_split h
      obtain ⟨a1, a2⟩ := and_split h
      exact s_range S cx tk h1 a1 a2 a3 a4
    · rw [if_neg h1] at h
      by_cases h2 : nameIs f "enumerate" = true
      · rw [if_pos h2] at h
        obtain ⟨h, a5⟩ := and_split h
        obtain ⟨h, a4⟩ := and_split h
        obtain ⟨h, a3⟩ := and_split h
        obtain ⟨a1, a2⟩ := and_split h
        exact s_enum S cx tk h2 a1 a2 a3 a4 (of_decide_eq_true a5)
      · rw [if_neg h2] at h
        by_cases h3 : nameIs f "zip" = true
        · rw [if_pos h3] at h
          obtain ⟨h, a5⟩ := and_split h
          obtain ⟨h, a4⟩ := and_split h
          obtain ⟨h, a3⟩ := and_split h
          obtain ⟨a1, a2⟩ := and_split h
          exact s_zip S cx tk h3 a1 a2 a3 a4 (of_decide_eq_true a5)
        · rw [if_neg h3] at h
          refine s_any S cx tk h fun ρ => ?_
          show (if nameIs f "range" = true then R.bind (denA P call N n es ρ) rangeOf
            else if nameIs f "enumerate" = true then R.bind (denA P call N n es ρ) enumOf
            else if nameIs f "zip" = true then R.bind (denA P call N n es ρ) zipOf
            else R.bind (denE P call N n (.Call (.Name f pf) es [] p) ρ) items) = _
          rw [if_neg h1, if_neg h2, if_neg h3]
  · cases e with
    | Call f es kws p =>
      cases f with
      | Name f pf =>
        cases kws with
        | nil => exact absurd ⟨f, pf, es, p, rfl⟩ hc
        | cons _ _ => exact s_any S cx tk h fun ρ => rfl
      | _ => exact s_any S cx tk h fun ρ => rfl
    | _ => exact s_any S cx tk h fun ρ => rfl
theorem sound (n : Nat) : Sound P call N n := by
  induction n using Nat.strongRecOn with
  | _ n ih =>
    cases n with
    | zero => exact sound_zero
    | succ n =>
      have S := ih n (Nat.lt_succ_self n)
      refine ⟨fun X k W cx tk I e h => sound_e S (fun m e => ih m (by omega)) cx tk I e h, fun X k W cx tk I es h => s_pa S cx tk h, fun X k W cx tk I e h => s_po S cx tk h,
        fun X k W cx tk I e h => sound_t S cx tk I e h, fun X k W cx tk I e h => s_ifs S cx tk h, fun X k W cx tk I tg e h => sound_i S cx tk I tg e h⟩
end
end PyV
set_option Elab.async false
set_option linter.all false
set_option maxRecDepth 100000
set_option maxHeartbeats 1000000
/-! Layer PyV, part 7: states between statements. -/
namespace PyV
open PySem PySem.Spec PyProof.Rows L2

def view (K : PySem.W.Frag) (Hd : Addr → Prop) (own : Nat → Option Addr) (I : List Nat) : Rc := ⟨K, fun b => Hd b ∨ ∃ i, own i = some b ∧ i ∉ I, fun _ _ => False⟩
/-- an object of a slot's own -/
inductive Own (r : Rc) (H : Hp) (a : Addr) : PV → Prop
  | lst {vs : List V} {xs : List PV} : H a = some (.lst vs) → Reps r H vs xs → Own r H a (.lst xs)
  | dicK {kvs : List (Key × V)} {ps : List (PV × PV)} : H a = some (.dK kvs) → RepK r H kvs ps → Own r H a (.dic ps)
  | dicT {kvs : List (List Key × V)} {ps : List (PV × PV)} : H a = some (.dT kvs) → RepT r H kvs ps → ps ≠ [] → Own r H a (.dic ps)
theorem Own.rep {r : Rc} {H : Hp} {a : Addr} {x : PV} (o : Own r H a x) (n : ¬ r.S a) : Rep r H (.ref a) x := by
  cases o with
  | lst h rs => exact .lst n h rs
  | dicK h rs => exact .dicK n h rs
  | dicT h rs m => exact .dicT n h rs m
theorem Own.there {r : Rc} {H : Hp} {a : Addr} {x : PV} (o : Own r H a x) : ∃ u, H a = some u ∧ still u = false := by
  cases o with
  | lst h rs => exact ⟨_, h, rfl⟩
  | dicK h rs => exact ⟨_, h, rfl⟩
  | dicT h rs m => exact ⟨_, h, rfl⟩
theorem Own.keep {r r' : Rc} {H H' : Hp} {a : Addr} {x : PV} (o : Own r H a x) (k : Keeps r H r' H') (h : ∀ u, H a = some u → H' a = some u) : Own r' H' a x := by
  cases o with
  | lst h1 rs => exact .lst (h _ h1) (Reps.keep k _ _ rs)
  | dicK h1 rs => exact .dicK (h _ h1) (RepK.keep k _ _ rs)
  | dicT h1 rs m => exact .dicT (h _ h1) (RepT.keep k _ _ rs) m
structure SI (K : PySem.W.Frag) (N : List Str) (Hd : Addr → Prop) (H0 H : Hp) (σ : L2.St) (ρ : Env) (own : Nat → Option Addr) : Prop where
  ln : ρ.length = N.length
  lnσ : σ.length = N.length
  al0 : ∀ b, Hd b → H0 b ≠ none
  same : Same H0 H
  own1 : ∀ i a, own i = some a → H0 a = none ∧ ∃ x, ρ[i]? = some (some (x, true)) ∧ σ[i]? = some (some (.ref a)) ∧ Own (view K Hd own []) H a x
  inj : ∀ i j a, own i = some a → own j = some a → i = j
  slot : ∀ i x fl, ρ[i]? = some (some (x, fl)) → own i = none → ∃ w, σ[i]? = some (some w) ∧ Rep (view K Hd own []) H w x
  flag : ∀ i x, ρ[i]? = some (some (x, true)) → own i ≠ none
structure Step (Mu : List Nat) (H : Hp) (own : Nat → Option Addr) (H' : Hp) (own' : Nat → Option Addr) : Prop where
  keep : ∀ b o, H b = some o → (∀ i, own i = some b → i ∉ Mu) → H' b = some o
  mono : ∀ i a, own' i = some a → own i = some a ∨ H a = none
  alive : ∀ b, H b ≠ none → H' b ≠ none
theorem Step.refl {Mu : List Nat} {H : Hp} {own : Nat → Option Addr} : Step Mu H own H own := ⟨fun _ _ h _ => h, fun _ _ h => .inl h, fun _ h => h⟩
theorem Step.same {Mu : List Nat} {H H' : Hp} {own : Nat → Option Addr} (s : Same H H') : Step Mu H own H' own := ⟨fun _ _ h _ => s _ _ h, fun _ _ h => .inl h, fun b h => by
  cases e : H b with
  | none => exact absurd e h
  | some o => rw [s _ _ e]; exact fun z => by cases z⟩
theorem Step.trans {Mu : List Nat} {H H1 H2 : Hp} {own own1 own2 : Nat → Option Addr} (a : Step Mu H own H1 own1) (b : Step Mu H1 own1 H2 own2) : Step Mu H own H2 own2 := by
  refine ⟨fun c o h n => b.keep c o (a.keep c o h n) fun i hi => ?_, fun i c h => ?_, fun c h => b.alive c (a.alive c h)⟩
  · rcases a.mono i c hi with z | z
    · exact n i z
    · rw [h] at z; cases z
  · rcases b.mono i c h with z | z
    · exact a.mono i c z
    · refine .inr ?_
      cases e : H c with
      | none => rfl
      | some o => exact absurd z (a.alive c (by rw [e]; exact fun z => by cases z))
theorem Step.more {Mu Mu' : List Nat} {H H' : Hp} {own own' : Nat → Option Addr} (a : Step Mu H own H' own') (h : ∀ i ∈ Mu, i ∈ Mu') : Step Mu' H own H' own' :=
  ⟨fun b o e n => a.keep b o e fun i hi z => n i hi (h i z), a.mono, a.alive⟩
section
variable {K : PySem.W.Frag} {N : List Str} {Hd : Addr → Prop} {H0 H H' : Hp} {σ σ' : L2.St} {ρ ρ' : Env} {own own' : Nat → Option Addr}
theorem SI.notHd (s : SI K N Hd H0 H σ ρ own) {i : Nat} {a : Addr} (h : own i = some a) : ¬ Hd a := fun z => s.al0 a z (s.own1 i a h).1
theorem SI.at (s : SI K N Hd H0 H σ ρ own) (I : List Nat) : At K N (view K Hd own I) H σ ρ I := by
  have kp : Keeps (view K Hd own []) H (view K Hd own I) H := ⟨rfl, fun _ _ h _ => h, fun b o _ n z => n (z.imp (fun h => h) fun ⟨i, h, _⟩ => ⟨i, h, fun z => by cases z⟩), fun _ _ h => h⟩
  refine ⟨rfl, s.ln, fun b hb => ?_, fun i v hi e => ?_, fun _ _ h => h⟩
  · rcases hb with hb | ⟨i, hi, _⟩
    · intro z
      cases e : H0 b with
      | none => exact s.al0 b hb e
      | some o => rw [s.same _ _ e] at z; cases z
    · obtain ⟨_, x, _, _, o⟩ := s.own1 i b hi
      obtain ⟨u, e, _⟩ := o.there
      rw [e]; exact fun z => by cases z
  · cases ho : own i with
    | none =>
      obtain ⟨w, e1, q⟩ := s.slot i v.1 v.2 e ho
      exact ⟨w, e1, Rep.keep kp _ _ q⟩
    | some a =>
      obtain ⟨_, x, e1, e2, o⟩ := s.own1 i a ho
      rw [e] at e1
      cases e1
      refine ⟨_, e2, (o.keep kp fun _ h => h).rep ?_⟩
      rintro (z | ⟨j, hj, hn⟩)
      · exact s.notHd ho z
      · exact hn (by rw [s.inj j i a hj ho]; simpa using hi)
/-- the heap has grown -/
theorem SI.grow (s : SI K N Hd H0 H σ ρ own) (g : Same H H') : SI K N Hd H0 H' σ ρ own := by
  refine ⟨s.ln, s.lnσ, s.al0, s.same.trans g, fun i a h => ?_, s.inj, fun i x fl e ho => ?_, s.flag⟩
  · obtain ⟨h0, x, e1, e2, o⟩ := s.own1 i a h
    exact ⟨h0, x, e1, e2, o.keep (Keeps.same g) fun u hu => g _ _ hu⟩
  · obtain ⟨w, e1, q⟩ := s.slot i x fl e ho
    exact ⟨w, e1, q.same g⟩
theorem SI.getρ (s : SI K N Hd H0 H σ ρ own) {i : Nat} (h : i < N.length) : i < ρ.length ∧ i < σ.length := ⟨by rw [s.ln]; exact h, by rw [s.lnσ]; exact h⟩
def without (own : Nat → Option Addr) (I : List Nat) : Nat → Option Addr := fun i => if I.contains i = true then none else own i
theorem without_some {I : List Nat} {i : Nat} {a : Addr} (h : without own I i = some a) : own i = some a ∧ i ∉ I := by
  unfold without at h
  split at h
  · cases h
  · rename_i z; exact ⟨h, fun z' => z (by simpa using z')⟩
theorem without_none {I : List Nat} {i : Nat} (h : without own I i = none) : own i = none ∨ i ∈ I := by
  unfold without at h
  split at h
  · rename_i z; exact .inr (by simpa using z)
  · exact .inl h
theorem freeze_length : ∀ (I : List Nat) (ρ : Env), (freeze I ρ).length = ρ.length
  | [], _ => rfl
  | i :: r, ρ => by
    show (freeze r (match ρ[i]? with | some (some v) => ρ.set i (some (v.1, false)) | _ => ρ)).length = _
    rw [freeze_length r]
    split <;> simp
theorem freeze_get : ∀ (I : List Nat) (ρ : Env) (j : Nat), (freeze I ρ)[j]? = if j ∈ I then (ρ[j]?).map (fun o => o.map fun v => (v.1, false)) else ρ[j]?
  | [], ρ, j => by simp [freeze]
  | i :: r, ρ, j => by
    show (freeze r (match ρ[i]? with | some (some v) => ρ.set i (some (v.1, false)) | _ => ρ))[j]? = _
    rw [freeze_get r]
    have key : (match ρ[i]? with | some (some v) => ρ.set i (some (v.1, false)) | _ => ρ)[j]? = if j = i then (ρ[j]?).map (fun o => o.map fun v => (v.1, false)) else ρ[j]? := by
      by_cases e : j = i
      · subst e
        rw [if_pos rfl]
        split
        · rename_i v hv
          have hl := (List.getElem?_eq_some_iff.mp hv).1
          rw [List.getElem?_set_self hl, hv]; rfl
        · rename_i hv
          cases z : ρ[j]? with
          | none => rfl
          | some o =>
            cases o with
            | none => rfl
            | some v => exact absurd z (hv v)
      · rw [if_neg e]
        split
        · exact List.getElem?_set_ne (fun z => e z.symm)
        · rfl
    rw [key]
    by_cases h1 : j = i
    · subst h1
      simp only [if_true, List.mem_cons, true_or]
      split
      · cases ρ[j]? with
        | none => rfl
        | some o => cases o <;> rfl
      · rfl
    · simp only [if_neg h1, List.mem_cons, h1, false_or, if_false]
theorem view_free (s : SI K N Hd H0 H σ ρ own) (I : List Nat) {b : Addr} : (view K Hd (without own I) []).S b ↔ (view K Hd own I).S b := by
  constructor
  · rintro (h | ⟨i, h, _⟩)
    · exact .inl h
    · obtain ⟨h1, h2⟩ := without_some h
      exact .inr ⟨i, h1, h2⟩
  · rintro (h | ⟨i, h, h2⟩)
    · exact .inl h
    · exact .inr ⟨i, by unfold without; rw [if_neg (by simpa using h2)]; exact h, fun z => by cases z⟩
/-- slots give their objects up -/
theorem SI.freeze (s : SI K N Hd H0 H σ ρ own) (I : List Nat) : SI K N Hd H0 H σ (freeze I ρ) (without own I) := by
  have kp : Keeps (view K Hd own []) H (view K Hd (without own I) []) H := ⟨rfl, fun _ _ h _ => h, fun b o _ n z => n (z.imp (fun h => h) fun ⟨i, h, _⟩ => ⟨i, (without_some h).1, fun z => by cases z⟩), fun _ _ h => h⟩
  refine ⟨by rw [freeze_length]; exact s.ln, s.lnσ, s.al0, s.same, fun i a h => ?_, fun i j a h1 h2 => s.inj i j a (without_some h1).1 (without_some h2).1, fun i x fl e ho => ?_, fun i x e => ?_⟩
  · obtain ⟨h1, h2⟩ := without_some h
    obtain ⟨h0, x, e1, e2, o⟩ := s.own1 i a h1
    exact ⟨h0, x, by rw [freeze_get, if_neg h2]; exact e1, e2, o.keep kp fun _ h => h⟩
  · rw [freeze_get] at e
    by_cases hi : i ∈ I
    · rw [if_pos hi] at e
      cases z : ρ[i]? with
      | none => rw [z] at e; cases e
      | some o =>
        cases o with
        | none => rw [z] at e; cases e
        | some v =>
          rw [z] at e
          have e : v.1 = x ∧ false = fl := by simpa using e
          cases h : own i with
          | none =>
            obtain ⟨w, e1, q⟩ := s.slot i v.1 v.2 z h
            exact ⟨w, e1, by rw [← e.1]; exact Rep.keep kp _ _ q⟩
          | some a =>
            obtain ⟨h0, y, e1, e2, o⟩ := s.own1 i a h
            rw [z] at e1
            cases e1
            refine ⟨_, e2, ?_⟩
            rw [← e.1]
            refine (o.keep kp fun _ h => h).rep ?_
            rintro (q | ⟨j, hj, _⟩)
            · exact s.notHd h q
            · obtain ⟨q1, q2⟩ := without_some hj
              exact q2 (by rw [s.inj j i a q1 h]; exact hi)
    · rw [if_neg hi] at e
      rcases without_none ho with h | h
      · obtain ⟨w, e1, q⟩ := s.slot i x fl e h
        exact ⟨w, e1, Rep.keep kp _ _ q⟩
      · exact absurd h hi
  · rw [freeze_get] at e
    by_cases hi : i ∈ I
    · rw [if_pos hi] at e
      cases z : ρ[i]? with
      | none => rw [z] at e; cases e
      | some o => cases o <;> (rw [z] at e; simp at e)
    · rw [if_neg hi] at e
      unfold without
      rw [if_neg (by simpa using hi)]
      exact s.flag i x e
theorem stills (s : Same H H') (own own' : Nat → Option Addr) (I J : List Nat) : Stills (view K Hd own I) H (view K Hd own' J) H' := ⟨rfl, fun b o h _ => s b o h⟩
theorem RepK.pure {r r' : Rc} {H H' : Hp} (k : Stills r H r' H') : ∀ (xs : List (PV × PV)) (vs : List (Key × V)), pairsPure xs = true → RepK r H vs xs → RepK r' H' vs xs
  | [], _, _, h => by cases h; exact .nil
  | (p, x) :: xs, _, pp, h => by
    have pp' : isPure x = true ∧ pairsPure xs = true := by simpa [pairsPure] using pp
    cases h with
    | cons h0 h1 h2 => exact .cons h0 (Rep.pure k x _ pp'.1 h1) (RepK.pure k xs _ pp'.2 h2)
theorem RepT.pure {r r' : Rc} {H H' : Hp} (k : Stills r H r' H') : ∀ (xs : List (PV × PV)) (vs : List (List Key × V)), pairsPure xs = true → RepT r H vs xs → RepT r' H' vs xs
  | [], _, _, h => by cases h; exact .nil
  | (p, x) :: xs, _, pp, h => by
    have pp' : isPure x = true ∧ pairsPure xs = true := by simpa [pairsPure] using pp
    cases h with
    | cons h0 h1 h2 => exact .cons h0 (Rep.pure k x _ pp'.1 h1) (RepT.pure k xs _ pp'.2 h2)
/-- a value is handed on: behind it stands what may be leant on -/
theorem SI.settle (s : SI K N Hd H0 H σ ρ own) (g : Same H H') {I : List Nat} {fl : Bool} {w : V} {v : PV} (rw' : Rep (view K Hd own I) H' w v) (f : fl = true → Fresh (view K Hd own I) H H' w v) :
    ∃ own', SI K N Hd H0 H' σ (settle fl v I ρ) own' ∧ Rep (view K Hd own' []) H' w v ∧ ∀ i a, own' i = some a → own i = some a := by
  unfold PyV.settle
  have s' := s.grow g
  by_cases hp : isPure v = true
  · rw [if_pos (by rw [hp]; rfl)]
    exact ⟨own, s', Rep.pure (stills (Same.refl _) _ _ _ _) v w hp rw', fun _ _ h => h⟩
  · by_cases hf : (fl && heldPure v) = true
    · rw [if_pos (by rw [hf]; simp)]
      refine ⟨own, s', ?_, fun _ _ h => h⟩
      obtain ⟨h1, h2⟩ := and_split hf
      have nown : ∀ {p : Addr}, w = .ref p → mutTop v = true → ¬ (view K Hd own []).S p := by
        intro p e hm
        obtain ⟨p', e', hn, _⟩ := f h1 hm
        rw [e] at e'; cases e'
        rintro (z | ⟨j, hj, _⟩)
        · cases e0 : H0 p with
          | none => exact s.al0 p z e0
          | some o => rw [s.same _ _ e0] at hn; cases hn
        · obtain ⟨_, _, _, _, o⟩ := s.own1 j p hj
          obtain ⟨u, e, _⟩ := o.there
          rw [e] at hn; cases hn
      cases rw' with
      | lst n e rs => exact .lst (nown rfl rfl) e (Reps.pure (stills (Same.refl _) _ _ _ _) _ _ h2 rs)
      | dicK n e rs =>
        exact .dicK (nown rfl rfl) e (RepK.pure (stills (Same.refl _) _ _ _ _) _ _ h2 rs)
      | dicT n e rs m => exact .dicT (nown rfl rfl) e (RepT.pure (stills (Same.refl _) _ _ _ _) _ _ h2 rs) m
      | _ => cases h2
    · rw [if_neg (by simp [hp, hf])]
      have kp : Keeps (view K Hd own I) H' (view K Hd (without own I) []) H' := ⟨rfl, fun _ _ h _ => h, fun b o _ n z => n ((view_free s I).mp z), fun _ _ h => h⟩
      exact ⟨without own I, s'.freeze I, Rep.keep kp _ _ rw', fun i a h => (without_some h).1⟩

theorem getSet {α : Type} {l : List α} {i j : Nat} {a b : α} (h : (l.set i a)[j]? = some b) : (j = i ∧ a = b ∧ i < l.length) ∨ (j ≠ i ∧ l[j]? = some b) := by
  by_cases e : i = j
  · subst e
    have hl := (List.getElem?_eq_some_iff.mp h).1
    rw [List.length_set] at hl
    rw [List.getElem?_set_self hl] at h
    cases h
    exact .inl ⟨rfl, rfl, hl⟩
  · rw [List.getElem?_set_ne e] at h
    exact .inr ⟨fun z => e z.symm, h⟩
/-- a slot is stored -/
theorem SI.put (s : SI K N Hd H0 H σ ρ own) {i : Nat} {w : V} {v : PV} (hi : i < N.length) (q : Rep (view K Hd own []) H w v) : SI K N Hd H0 H (σ.set i (some w)) (ρ.set i (some (v, false))) (without own [i]) := by
  have kp : Keeps (view K Hd own []) H (view K Hd (without own [i]) []) H := ⟨rfl, fun _ _ h _ => h, fun b o _ n z => n (z.imp (fun h => h) fun ⟨i, h, _⟩ => ⟨i, (without_some h).1, fun z => by cases z⟩), fun _ _ h => h⟩
  obtain ⟨l1, l2⟩ := s.getρ hi
  refine ⟨by rw [List.length_set]; exact s.ln, by rw [List.length_set]; exact s.lnσ, s.al0, s.same, fun j a h => ?_, fun j l a h1 h2 => s.inj j l a (without_some h1).1 (without_some h2).1, fun j x fl e ho => ?_, fun j x e => ?_⟩
  · obtain ⟨h1, h2⟩ := without_some h
    have hj : i ≠ j := fun z => h2 (by simp [z])
    obtain ⟨h0, x, e1, e2, o⟩ := s.own1 j a h1
    exact ⟨h0, x, by rw [List.getElem?_set_ne hj]; exact e1, by rw [List.getElem?_set_ne hj]; exact e2, o.keep kp fun _ h => h⟩
  · rcases getSet e with ⟨rfl, e, _⟩ | ⟨hj, e⟩
    · cases e
      exact ⟨w, List.getElem?_set_self l2, Rep.keep kp _ _ q⟩
    · rcases without_none ho with h | h
      · obtain ⟨w', e1, q'⟩ := s.slot j x fl e h
        exact ⟨w', by rw [List.getElem?_set_ne (Ne.symm hj)]; exact e1, Rep.keep kp _ _ q'⟩
      · exact absurd (by simpa using h) hj
  · rcases getSet e with ⟨rfl, e, _⟩ | ⟨hj, e⟩
    · cases e
    · unfold without
      rw [if_neg (by simpa using hj)]
      exact s.flag j x e
/-- a new object becomes a slot's own -/
theorem SI.take (s : SI K N Hd H0 H σ ρ own) (g : Same H H') {i : Nat} {p : Addr} {v : PV} (hi : i < N.length) (hp : H p = none) (o : Own (view K Hd (fun j => if j = i then some p else own j) []) H' p v) :
    SI K N Hd H0 H' (σ.set i (some (.ref p))) (ρ.set i (some (v, true))) (fun j => if j = i then some p else own j) := by
  have hne : ∀ {j a}, own j = some a → a ≠ p := fun h e => by
    obtain ⟨_, _, _, _, o⟩ := s.own1 _ _ h
    obtain ⟨u, e1, _⟩ := o.there
    rw [e, hp] at e1; cases e1
  have kp : Keeps (view K Hd own []) H (view K Hd (fun j => if j = i then some p else own j) []) H' := by
    refine ⟨rfl, fun b o h _ => g b o h, fun b o e n z => n (z.imp (fun h => h) fun ⟨j, h, _⟩ => ?_), fun _ _ h => h⟩
    by_cases ej : j = i
    · simp only [ej, if_true] at h; cases h; rw [hp] at e; cases e
    · simp only [if_neg ej] at h; exact ⟨j, h, fun z => by cases z⟩
  obtain ⟨l1, l2⟩ := s.getρ hi
  refine ⟨by rw [List.length_set]; exact s.ln, by rw [List.length_set]; exact s.lnσ, s.al0, s.same.trans g, fun j a h => ?_, fun j l a h1 h2 => ?_, fun j x fl e ho => ?_, fun j x e => ?_⟩
  · by_cases ej : j = i
    · subst ej
      simp only [if_true] at h
      cases h
      exact ⟨s.same.free hp, v, List.getElem?_set_self l1, List.getElem?_set_self l2, o⟩
    · simp only [if_neg ej] at h
      obtain ⟨h0, x, e1, e2, o'⟩ := s.own1 j a h
      exact ⟨h0, x, by rw [List.getElem?_set_ne (Ne.symm ej)]; exact e1, by rw [List.getElem?_set_ne (Ne.symm ej)]; exact e2, o'.keep kp fun u hu => g _ _ hu⟩
  · by_cases ej : j = i <;> by_cases el : l = i
    · rw [ej, el]
    · simp only [ej, if_true] at h1; simp only [if_neg el] at h2; cases h1; exact absurd rfl (hne h2)
    · simp only [if_neg ej] at h1; simp only [el, if_true] at h2; cases h2; exact absurd rfl (hne h1)
    · simp only [if_neg ej] at h1; simp only [if_neg el] at h2; exact s.inj j l a h1 h2
  · by_cases ej : j = i
    · simp only [ej, if_true] at ho; cases ho
    · simp only [if_neg ej] at ho
      rw [List.getElem?_set_ne (Ne.symm ej)] at e
      obtain ⟨w', e1, q'⟩ := s.slot j x fl e ho
      exact ⟨w', by rw [List.getElem?_set_ne (Ne.symm ej)]; exact e1, Rep.keep kp _ _ q'⟩
  · by_cases ej : j = i
    · simp only [ej, if_true]; exact fun z => by cases z
    · simp only [if_neg ej]
      rw [List.getElem?_set_ne (Ne.symm ej)] at e
      exact s.flag j x e
theorem SI.assign (s : SI K N Hd H0 H σ ρ own) (g : Same H H') {i : Nat} {I : List Nat} {fl : Bool} {w : V} {v : PV} (hi : i < N.length) (q : Rep (view K Hd own I) H' w v) (f : fl = true → Fresh (view K Hd own I) H H' w v) :
    ∃ own', SI K N Hd H0 H' (σ.set i (some w)) ((PyV.settle fl v I ρ).set i (some (v, fl && ownB v))) own' ∧ Step [] H own H' own' := by
  by_cases hf : (fl && heldPure v) = true
  · have hf2 : (fl && ownB v) = true := by
      obtain ⟨h1, h2⟩ := and_split hf
      rw [h1]
      cases v <;> first | rfl | exact h2
    have eS : PyV.settle fl v I ρ = ρ := by unfold PyV.settle; rw [if_pos (by rw [hf]; simp)]
    rw [eS, hf2]
    clear eS hf2
    obtain ⟨h1, h2⟩ := and_split hf
    have ht : mutTop v = true := by cases v <;> first | rfl | cases h2
    obtain ⟨p, rfl, hp, _⟩ := f h1 ht
    refine ⟨_, s.take g hi hp ?_, fun b o h _ => g b o h, fun j a h => ?_, fun b h => ?_⟩
    · have st : Stills (view K Hd own I) H' (view K Hd (fun j => if j = i then some p else own j) []) H' := ⟨rfl, fun _ _ h _ => h⟩
      cases q with
      | lst n e rs => exact .lst e (Reps.pure st _ _ h2 rs)
      | dicK n e rs => exact .dicK e (RepK.pure st _ _ h2 rs)
      | dicT n e rs m => exact .dicT e (RepT.pure st _ _ h2 rs) m
      | tup => cases h2
      | scr => cases h2
      | scrK => cases h2
      | ob => cases h2
    · by_cases ej : j = i
      · simp only [ej, if_true] at h; cases h; exact .inr hp
      · simp only [if_neg ej] at h; exact .inl h
    · cases e : H b with
      | none => exact absurd e h
      | some o => rw [g _ _ e]; exact fun z => by cases z
  · by_cases hl : (fl && ownB v) = true
    · obtain ⟨h1, h2⟩ := and_split hl
      have hlst : ∃ xs, v = .lst xs := by
        cases v with
        | lst xs => exact ⟨xs, rfl⟩
        | dic kvs => exact absurd (by rw [h1]; exact h2) hf
        | _ => cases h2
      obtain ⟨xs, rfl⟩ := hlst
      obtain ⟨p, rfl, hp, hx⟩ := f h1 rfl
      obtain ⟨vs, e1, rs⟩ := hx xs rfl
      have eS : PyV.settle fl (.lst xs) I ρ = PyV.freeze I ρ := by
        unfold PyV.settle
        rw [if_neg]
        intro z
        rcases Bool.or_eq_true _ _ |>.mp z with z | z
        · cases z
        · exact hf z
      rw [eS, hl]
      have kp : Keeps ((view K Hd own I).plus p) H' (view K Hd (fun j => if j = i then some p else without own I j) []) H' := by
        refine ⟨rfl, fun _ _ h _ => h, fun b o _ n z => n ?_, fun _ _ h => h⟩
        rcases z with z | ⟨j, hj, _⟩
        · exact .inl (.inl z)
        · by_cases ej : j = i
          · simp only [ej, if_true] at hj; cases hj; exact .inr rfl
          · simp only [if_neg ej] at hj
            obtain ⟨k1, k2⟩ := without_some hj
            exact .inl (.inr ⟨j, k1, k2⟩)
      refine ⟨_, (s.freeze I).take g hi hp (.lst e1 (Reps.keep kp _ _ rs)), fun b o h _ => g b o h, fun j a h => ?_, fun b h => ?_⟩
      · by_cases ej : j = i
        · simp only [ej, if_true] at h; cases h; exact .inr hp
        · simp only [if_neg ej] at h; exact .inl (without_some h).1
      · cases e : H b with
        | none => exact absurd e h
        | some o => rw [g _ _ e]; exact fun z => by cases z
    obtain ⟨own', s', q', hm⟩ := s.settle g q f
    have e : (fl && ownB v) = false := by simpa using hl
    rw [e]
    refine ⟨_, s'.put hi q', fun b o h _ => g b o h, fun j a h => .inl (hm j a (without_some h).1), fun b h => ?_⟩
    cases e : H b with
    | none => exact absurd e h
    | some o => rw [g _ _ e]; exact fun z => by cases z
/-- targets are stored -/
theorem SI.bound (s : SI K N Hd H0 H σ ρ own) {ts : List Nat} (b : Bound (view K Hd own []) H ts σ ρ σ' ρ') : SI K N Hd H0 H σ' ρ' (without own ts) := by
  have kp : Keeps (view K Hd own []) H (view K Hd (without own ts) []) H := ⟨rfl, fun _ _ h _ => h, fun b o _ n z => n (z.imp (fun h => h) fun ⟨i, h, _⟩ => ⟨i, (without_some h).1, fun z => by cases z⟩), fun _ _ h => h⟩
  refine ⟨b.lenρ.trans s.ln, b.len.trans s.lnσ, s.al0, s.same, fun j a h => ?_, fun j l a h1 h2 => s.inj j l a (without_some h1).1 (without_some h2).1, fun j x fl e ho => ?_, fun j x e => ?_⟩
  · obtain ⟨h1, h2⟩ := without_some h
    obtain ⟨h0, x, e1, e2, o⟩ := s.own1 j a h1
    obtain ⟨o1, o2⟩ := b.out j h2
    exact ⟨h0, x, by rw [o2]; exact e1, by rw [o1]; exact e2, o.keep kp fun _ h => h⟩
  · by_cases hj : j ∈ ts
    · obtain ⟨_, w, e1, q⟩ := b.in_ j hj _ e
      exact ⟨w, e1, Rep.keep kp _ _ q⟩
    · obtain ⟨o1, o2⟩ := b.out j hj
      rw [o2] at e
      rcases without_none ho with h | h
      · obtain ⟨w', e1, q'⟩ := s.slot j x fl e h
        exact ⟨w', by rw [o1]; exact e1, Rep.keep kp _ _ q'⟩
      · exact absurd h hj
  · by_cases hj : j ∈ ts
    · exact absurd (b.in_ j hj _ e).1 (by simp)
    · obtain ⟨o1, o2⟩ := b.out j hj
      rw [o2] at e
      unfold without
      rw [if_neg (by simpa using hj)]
      exact s.flag j x e
theorem Step.without {Mu ts : List Nat} {H : Hp} {own : Nat → Option Addr} : Step Mu H own H (without own ts) := ⟨fun _ _ h _ => h, fun _ _ h => .inl (without_some h).1, fun _ h => h⟩
/-- a slot's own list is changed -/
theorem SI.mut (s : SI K N Hd H0 H σ ρ own) {i : Nat} {a : Addr} {u u' : HO} {x : PV} (ho : own i = some a) (hu : H a = some u) (hm : still u = false) (o : Own (view K Hd own []) (upd H a u') a x) :
    SI K N Hd H0 (upd H a u') σ (ρ.set i (some (x, true))) own ∧ ∀ Mu, i ∈ Mu → Step Mu H own (upd H a u') own := by
  obtain ⟨h0, y, e1, e2, _⟩ := s.own1 i a ho
  have l1 := (List.getElem?_eq_some_iff.mp e1).1
  have kp : Keeps (view K Hd own []) H (view K Hd own []) (upd H a u') := by
    refine ⟨rfl, fun b o' h hb => ?_, fun _ _ _ h => h, fun _ _ h => h⟩
    have : b ≠ a := by
      rintro rfl
      rcases hb with hb | hb
      · exact hb (.inr ⟨i, ho, fun z => by cases z⟩)
      · rw [hu] at h; cases h; rw [hm] at hb; cases hb
    rw [upd_ne this]; exact h
  refine ⟨⟨by rw [List.length_set]; exact s.ln, s.lnσ, s.al0, fun b o' h => ?_, fun j b h => ?_, s.inj, fun j z fl e hn => ?_, fun j z e => ?_⟩, fun Mu hi => ⟨fun b o' h n => ?_, fun _ _ h => .inl h, fun b h => ?_⟩⟩
  · have : b ≠ a := by rintro rfl; rw [h0] at h; cases h
    rw [upd_ne this]; exact s.same _ _ h
  · by_cases ej : j = i
    · subst ej
      rw [ho] at h; cases h
      exact ⟨h0, x, List.getElem?_set_self l1, e2, o⟩
    · obtain ⟨g0, z, f1, f2, f3⟩ := s.own1 j b h
      have hb : b ≠ a := fun e => ej (s.inj j i a (e ▸ h) ho)
      exact ⟨g0, z, by rw [List.getElem?_set_ne (Ne.symm ej)]; exact f1, f2, f3.keep kp fun v hv => by rw [upd_ne hb]; exact hv⟩
  · rcases getSet e with ⟨rfl, e, _⟩ | ⟨hj, e⟩
    · rw [ho] at hn; cases hn
    · obtain ⟨w', f1, f2⟩ := s.slot j z fl e hn
      exact ⟨w', f1, Rep.keep kp _ _ f2⟩
  · rcases getSet e with ⟨rfl, e, _⟩ | ⟨hj, e⟩
    · rw [ho]; exact fun z => by cases z
    · exact s.flag j z e
  · have : b ≠ a := by rintro rfl; exact n i ho hi
    rw [upd_ne this]; exact h
  · by_cases e : b = a
    · subst e; rw [upd_same]; exact fun z => by cases z
    · rw [upd_ne e]; exact h
theorem ownAt_some {i : Nat} {x : PV} (s : SI K N Hd H0 H σ ρ own) (h : ownAt ρ i = some x) : ∃ a, own i = some a ∧ ρ[i]? = some (some (x, true)) ∧ σ[i]? = some (some (.ref a)) ∧ Own (view K Hd own []) H a x := by
  unfold ownAt at h
  split at h
  · rename_i v e
    have hv : v = x := Option.some.inj h
    subst hv
    cases ho : own i with
    | none => exact absurd ho (s.flag i v e)
    | some a =>
      obtain ⟨_, y, e1, e2, o⟩ := s.own1 i a ho
      rw [e] at e1; cases e1
      exact ⟨a, rfl, e, e2, o⟩
  · cases h
end
end PyV
set_option Elab.async false
set_option linter.all false
set_option maxRecDepth 100000
set_option maxHeartbeats 1000000
/-! Layer PyV, part 8: statements. -/
namespace PyV
open PySem PySem.Spec PyProof.Rows L2

/-! ### static looks -/
/-- the names that a, b = x, y stores from the right; some none: it is an ordinary assignment -/
def swRes (sc : Scope) (ts vs : List Expr) : Option (Option (List Str)) :=
  if (!(ts.length == 2 || ts.length == 3) || vs.length != ts.length) = true then some none
  else if (vs.any fun | .Starred .. => true | _ => false) = true then some none
  else
    let line := (ts.head?.map (·.pos.line)).getD 0
    let names := ts.filterMap fun
      | .Name id pos => if (sc.names.lookup id == some .local && pos.line == line) = true then some id else none
      | _ => none
    if (names.length != ts.length || names.eraseDups.length != names.length) = true then some none
    else if vs.all (foldedForSure 8) = true then some none
    else if vs.all (constantsAlone 8) = true then none
    else some (some names)
theorem swRes_ok {sc : Scope} {ts vs : List Expr} {j k2 : Nat} {p p2 : Pos} {env : PySem.Env} {r : Option (List Str)} (hk : env.scope.kind = .function) (hs : env.scope = sc) (h : swRes sc ts vs = some r) : swappedStores [.Tuple ts j p] (.Tuple vs k2 p2) env = pure r := by
  have hb : env.blockKind = .function := by unfold PySem.Env.blockKind; rw [hk]; rfl
  subst hs
  unfold swRes at h
  unfold swappedStores
  dsimp only at h
  show (if (!(ts.length == 2 || ts.length == 3) || vs.length != ts.length || env.blockKind != ScopeKind.function) = true then _ else _) = _
  have c0 : (!(ts.length == 2 || ts.length == 3) || vs.length != ts.length || env.blockKind != ScopeKind.function) = (!(ts.length == 2 || ts.length == 3) || vs.length != ts.length) := by
    rw [hb]
    show (_ || false) = _
    rw [Bool.or_false]
  rw [c0]
  dsimp only
  unfold PySem.Env.kindOf
  by_cases h1 : (!(ts.length == 2 || ts.length == 3) || vs.length != ts.length) = true
  · rw [if_pos h1] at h; cases h; exact if_pos h1
  · rw [if_neg h1] at h
    refine (if_neg h1).trans ?_
    split at h
    · rename_i h2
      cases h; exact if_pos h2
    · rename_i h2
      refine (if_neg h2).trans ?_
      split at h
      · rename_i h3
        cases h; exact if_pos h3
      · rename_i h3
        refine (if_neg h3).trans ?_
        split at h
        · rename_i h4
          cases h; exact if_pos h4
        · rename_i h4
          refine (if_neg h4).trans ?_
          split at h
          · cases h
          · rename_i h5
            cases h; exact if_neg h5

def hv (K : PySem.W.Frag) (Hd : Addr → Prop) : Rc := ⟨K, Hd, fun _ _ => False⟩
/-- what is wanted behind a statement, by the evaluator's answer -/
def SPost (X : Cx) (N : List Str) (W : WX) (Hd : Addr → Prop) (H0 : Hp) (Mu : List Nat) (D : Ends) (H : Hp) (own : Nat → Option Addr) : SR → Prop
  | .nx ρ' => ∀ σ' H' own', SI X.K N Hd H0 H' σ' ρ' own' → Step Mu H own H' own' → D.nx σ' H'
  | .bk ρ' => ∀ σ' H' own', SI X.K N Hd H0 H' σ' ρ' own' → Step Mu H own H' own' → D.bk σ' H'
  | .ct ρ' => ∀ σ' H' own', SI X.K N Hd H0 H' σ' ρ' own' → Step Mu H own H' own' → D.ct σ' H'
  | .ret v fl => ∀ w H', Same H0 H' → Rep (hv X.K Hd) H' w v → (fl = true → Fresh (hv X.K Hd) H0 H' w v) → D.rt w H'
  | .exc c fs ρ' => ∀ cls d σ' H' own', SI X.K N Hd H0 H' σ' ρ' own' → Step Mu H own H' own' → ExRep X.K X.mg c fs cls d H' → W cls d σ' H'
  | .stuck => False
def SJ (X : Cx) (N : List Str) (W : WX) (Hd : Addr → Prop) (H0 : Hp) (Mu : List Nat) (den : Env → SR) : TS := fun D σ H => ∃ ρ own, SI X.K N Hd H0 H σ ρ own ∧ SPost X N W Hd H0 Mu D H own (den ρ)
/-- the exception classes of the program -/
structure ExcFacts (P : Prog) (K : PySem.W.Frag) (mg : Str → Option Value) : Prop where
  cls : ∀ c d, P.excs.lookup c = some d → ∃ C, mg c = some (.ref C) ∧ PySem.W.keepIn K (.ref C) = true ∧ PySem.W.subIn K (.ref C) (.type "BaseException") = some true ∧ PySem.W.typeIn K (.ref C) = some (.type "type") ∧
    (d.fields = [] → PySem.W.excIn K C [.type "ValueError", .type "Exception", .type "BaseException", .type "object"] "ValueError.__new__" = true ∧ ExcC K C) ∧
    (d.fields ≠ [] → XfC K C ∧ ∀ f ∈ d.fields, PySem.W.findIn K (.ref C) f = some none)
  exm : ∀ c x b C Cx, excMatch P c x = some b → mg c = some (.ref C) → mg x = some (.ref Cx) → PySem.W.exmOne K (.ref C) (.ref Cx) = some b ∧ PySem.W.kitOne K (.ref C) (.ref Cx) = some b
structure CtxS (P : Prog) (X : Cx) : Prop where
  fn : ∀ x, X.fn x = true
  kind : X.env.scope.kind = .function
  stk : X.stack = X.env :: X.outer
  frm : X.env.frame = some X.env.locals
  exc : ExcFacts P X.K X.mg
section
variable {P : Prog} {call : Str → List PV → R PV} {N : List Str} {M : Nat} {X : Cx} {k : Nat} {W : WX} {Hd : Addr → Prop} {H0 H H1 : Hp} {Mu Mu' : List Nat} {D : Ends} {own own1 : Nat → Option Addr} {σ : L2.St} {ρ : Env} {n : Nat}
theorem SPost.lift {α : Type} {x : R α} {f : α → SR} (s : SI X.K N Hd H0 H σ ρ own) (h : SPost X N W Hd H0 Mu D H own (liftR ρ x f)) : Post X W σ H x fun a => SPost X N W Hd H0 Mu D H own (f a) := by
  cases x with
  | ok a => exact h
  | exc c fs => exact fun cls d H' g e => h cls d σ H' own (s.grow g) (Step.same g) e
  | stuck => exact h.elim
theorem SPost.step {r : SR} (h : SPost X N W Hd H0 Mu D H own r) (st : Step Mu H own H1 own1) : SPost X N W Hd H0 Mu D H1 own1 r := by
  cases r with
  | nx ρ' => exact fun σ' H' own' s t => h σ' H' own' s (st.trans t)
  | bk ρ' => exact fun σ' H' own' s t => h σ' H' own' s (st.trans t)
  | ct ρ' => exact fun σ' H' own' s t => h σ' H' own' s (st.trans t)
  | ret v fl => exact h
  | exc c fs ρ' => exact fun cls d σ' H' own' s t => h cls d σ' H' own' s (st.trans t)
  | stuck => exact h.elim
theorem SPost.less {r : SR} (h : SPost X N W Hd H0 Mu' D H own r) (i : ∀ j ∈ Mu, j ∈ Mu') : SPost X N W Hd H0 Mu D H own r := by
  cases r with
  | nx ρ' => exact fun σ' H' own' s t => h σ' H' own' s (t.more i)
  | bk ρ' => exact fun σ' H' own' s t => h σ' H' own' s (t.more i)
  | ct ρ' => exact fun σ' H' own' s t => h σ' H' own' s (t.more i)
  | ret v fl => exact h
  | exc c fs ρ' => exact fun cls d σ' H' own' s t => h cls d σ' H' own' s (t.more i)
  | stuck => exact h.elim
theorem _root_.L2.PS.imp {st : Stmt} {t t' : TS} (h : PS X st t) (i : ∀ D σ H, t' D σ H → t D σ H) : PS X st t' := ⟨fun pins s σ H D I q => h.run pins s σ H D I (i _ _ _ q)⟩
theorem _root_.L2.PSs.imp {st : List Stmt} {t t' : TS} (h : PSs X st t) (i : ∀ D σ H, t' D σ H → t D σ H) : PSs X st t' := ⟨fun pins s σ H D I q => h.run pins s σ H D I (i _ _ _ q)⟩
theorem keeps_hv {I : List Nat} : Keeps (view X.K Hd own I) H (hv X.K Hd) H := ⟨rfl, fun _ _ h _ => h, fun b o _ n z => n (Or.inl z), fun _ _ h => h⟩
theorem view_hv {I : List Nat} {w : V} {v : PV} (h : Rep (view X.K Hd own I) H w v) : Rep (hv X.K Hd) H w v := Rep.keep keeps_hv _ _ h
theorem noComp_swap {e : Expr} {x : Str} {px : Pos} {l : Nat} (h : (match e with | .ListComp .. => false | .SetComp .. => false | .DictComp .. => false | _ => true) = true) (t : Option Expr) : swapsWith e t l X.env = pure false := by
  cases e <;> first | rfl | cases h
theorem swap_other {e : Expr} {a b : Expr} {p : Pos} {l : Nat} : swapsWith e (some (.Subscript a b p)) l X.env = pure false := by
  cases e <;> rfl
theorem swap_tuple {e : Expr} {ts : List Expr} {j : Nat} {p : Pos} {l : Nat} : swapsWith e (some (.Tuple ts j p)) l X.env = pure false := by
  cases e <;> rfl
/-! ### small statements -/
theorem t_pass {p : Pos} : PS X (.Pass p) (SJ X N W Hd H0 Mu (denS P call N M (n + 1) (.Pass p))) := ps_pass.imp fun D σ H ⟨ρ, own, s, h⟩ => h σ H own s Step.refl
theorem t_break {p : Pos} : PS X (.Break p) (SJ X N W Hd H0 Mu (denS P call N M (n + 1) (.Break p))) := ps_break.imp fun D σ H ⟨ρ, own, s, h⟩ => h σ H own s Step.refl
theorem t_cont {p : Pos} : PS X (.Continue p) (SJ X N W Hd H0 Mu (denS P call N M (n + 1) (.Continue p))) := ps_continue.imp fun D σ H ⟨ρ, own, s, h⟩ => h σ H own s Step.refl
theorem t_retN {p : Pos} : PS X (.Return none p) (SJ X N W Hd H0 Mu (denS P call N M (n + 1) (.Return none p))) :=
  ps_retN.imp fun D σ H ⟨ρ, own, s, h⟩ => h .non H s.same .non fun _ z => (by cases z)
theorem keeps_hv_plus {K : PySem.W.Frag} {Hd : Addr → Prop} {own : Nat → Option Addr} {H : Hp} {i : Nat} {a : Addr} (o1 : own i = some a) : Keeps (view K Hd own []) H ((hv K Hd).plus a) H :=
  ⟨rfl, fun _ _ h _ => h, fun b o _ n z => n (z.elim .inl fun e => .inr ⟨i, e ▸ o1, fun z => by cases z⟩), fun _ _ h => h⟩
theorem Fresh.hv {K : PySem.W.Frag} {Hd : Addr → Prop} {own : Nat → Option Addr} {I : List Nat} {H H' : Hp} {w : V} {v : PV} (f : Fresh (view K Hd own I) H H' w v) : Fresh (PyV.hv K Hd) H H' w v := fun z => by
  obtain ⟨p, e, n, l⟩ := f z
  refine ⟨p, e, n, fun xs ex => ?_⟩
  obtain ⟨vs, h1, rs⟩ := l xs ex
  have kp : Keeps ((view K Hd own I).plus p) H' ((PyV.hv K Hd).plus p) H' := ⟨rfl, fun _ _ h _ => h, fun b o _ n z => n (z.elim (fun y => .inl (.inl y)) .inr), fun _ _ h => h⟩
  exact ⟨vs, h1, Reps.keep kp _ _ rs⟩
theorem t_ret (cx : Ctx P call N X k) (tk : Takes X W) {e : Expr} {p : Pos} (he : wfE P N n X.env.scope (slotsE N n e) e = true) : PS X (.Return (some e) p) (SJ X N W Hd H0 Mu (denS P call N M (n + 1) (.Return (some e) p))) := by
  refine ⟨fun pins s0 σ H D I q => ?_⟩
  obtain ⟨ρ, own, s, h⟩ := q
  have h : SPost X N W Hd H0 Mu D H own (liftR ρ (denE P call N n e ρ) fun v => .ret v (freshE P e || ownName N ρ e)) := h
  have h1 := SPost.lift s h
  by_cases ho : ownName N ρ e = true
  · cases e with
    | Name x px =>
      have ho : (match slotOf N x with | some i => (ownAt ρ i).isSome | none => false) = true := ho
      cases z : slotOf N x with
      | none => simp only [z] at ho; cases ho
      | some i =>
        simp only [z] at ho
        cases y : ownAt ρ i with
        | none => rw [y] at ho; cases ho
        | some v =>
          obtain ⟨a, o1, o2, o3, o4⟩ := ownAt_some s y
          cases n with
          | zero => cases he
          | succ m =>
            obtain ⟨w1, w2⟩ := and_split he
            obtain ⟨p1, p2, p3⟩ := plainB_ok w1
            simp only [z] at w2
            obtain ⟨w2, _⟩ := and_split w2
            refine (ps_ret (pe_var (i := i) (x := x) (by rw [cx.n]; exact slotOf_get z) (visB_ok w2) p1 p2)).run pins s0 σ H D I ⟨_, o3, ?_⟩
            have e1 : denE P call N (m + 1) (.Name x px) ρ = .ok v := by
              show (match slotOf N x with
                | some i => match ρ[i]? with
                  | some (some v) => R.ok v.1
                  | _ => R.stuck
                | none => ofOpt (P.consts.lookup x)) = _
              rw [z]; simp only [o2]
            rw [e1] at h1
            exact h1 _ _ s.same ((o4.keep keeps_hv fun _ h => h).rep (s.notHd o1)) fun _ _ => ⟨a, rfl, (s.own1 i a o1).1, fun xs ex => by
              subst ex
              cases o4 with
              | lst hu rs => exact ⟨_, hu, Reps.keep (keeps_hv_plus o1) _ _ rs⟩⟩
    | _ => cases ho
  · have hf : (freshE P e || ownName N ρ e) = freshE P e := by simp [ho]
    rw [hf] at h1
    refine (ps_ret ((sound n).e X k W cx tk (slotsE N n e) e he)).run pins s0 σ H D I ?_
    exact tE.of (s.at (slotsE N n e)) h1 fun z hz w H1 s1 r f => hz w H1 (s.same.trans s1) (view_hv r) fun hfr => ((f hfr).back s.same).hv
theorem t_if (cx : Ctx P call N X k) (tk : Takes X W) {c : Expr} {a b : List Stmt} {p : Pos} (hc : wfT P N n X.env.scope (slotsE N n c) c = true)
    (ha : PSs X a (SJ X N W Hd H0 Mu (denSs P call N M n a))) (hb : PSs X b (SJ X N W Hd H0 Mu (denSs P call N M n b))) : PS X (.If c a b p) (SJ X N W Hd H0 Mu (denS P call N M (n + 1) (.If c a b p))) := by
  refine (ps_if ((sound n).t X k W cx tk (slotsE N n c) c hc) ha hb).imp fun D σ H q => ?_
  obtain ⟨ρ, own, s, h⟩ := q
  have h : SPost X N W Hd H0 Mu D H own (liftR ρ (denT P call N n c ρ) fun k => if k = true then denSs P call N M n a ρ else denSs P call N M n b ρ) := h
  refine tT.of (s.at _) (SPost.lift s h) fun z hz H1 s1 => ?_
  cases z with
  | true => exact ⟨ρ, own, s.grow s1, SPost.step hz (Step.same s1)⟩
  | false => exact ⟨ρ, own, s.grow s1, SPost.step hz (Step.same s1)⟩
theorem t_seq {st : Stmt} {r : List Stmt} (hzp : zpair (st :: r) = none) (h1 : PS X st (SJ X N W Hd H0 Mu (denS P call N M n st))) (h2 : PSs X r (SJ X N W Hd H0 Mu (denSs P call N M n r))) : PSs X (st :: r) (SJ X N W Hd H0 Mu (denSs P call N M (n + 1) (st :: r))) := by
  refine (pss_cons h1 h2).imp fun D σ H q => ?_
  obtain ⟨ρ, own, s, h⟩ := q
  refine ⟨ρ, own, s, ?_⟩
  have h : SPost X N W Hd H0 Mu D H own (if hardB P st = true then .stuck else (denS P call N M n st ρ).then fun ρ' => denSs P call N M n r ρ') := by
    unfold denSs at h
    simp only [hzp] at h
    exact h
  by_cases hh : hardB P st = true
  · rw [if_pos hh] at h; exact h.elim
  rw [if_neg hh] at h
  cases e : denS P call N M n st ρ with
  | nx ρ' =>
    rw [e] at h
    exact fun σ' H' own' s' t => ⟨ρ', own', s', SPost.step h t⟩
  | bk ρ' => rw [e] at h; exact h
  | ct ρ' => rw [e] at h; exact h
  | ret v fl => rw [e] at h; exact h
  | exc c fs ρ' => rw [e] at h; exact h
  | stuck => rw [e] at h; exact h.elim
theorem t_seqH {st : Stmt} {r : List Stmt} (hh : hardB P st = true) : PSs X (st :: r) (SJ X N W Hd H0 Mu (denSs P call N M (n + 1) (st :: r))) := ⟨fun pins s0 σ H D I q => by
  obtain ⟨ρ, own, s, h⟩ := q
  unfold denSs at h
  simp only [if_pos hh] at h
  exact h.elim⟩
theorem t_nil : PSs X [] (SJ X N W Hd H0 Mu (denSs P call N M (n + 1) [])) := pss_nil.imp fun D σ H ⟨ρ, own, s, h⟩ => h σ H own s Step.refl

/-! ### assignments -/
def nameB (N : List Str) (sc : Scope) (x : Str) : Bool := (match sc.names.lookup x with | some .local => true | some .cell => true | _ => false) && (slotOf N x).isSome
theorem nameB_ok {x : Str} (hn : X.N = N) (h : nameB N X.env.scope x = true) : ∃ i, slotOf N x = some i ∧ i < N.length ∧ X.N[i]? = some x ∧ Loc X.env.scope x := by
  obtain ⟨h1, h2⟩ := and_split h
  cases e : slotOf N x with
  | none => rw [e] at h2; cases h2
  | some i =>
    have := slotOf_get e
    refine ⟨i, rfl, (List.getElem?_eq_some_iff.mp this).1, by rw [hn]; exact this, ?_⟩
    split at h1
    · rename_i z; exact .inl z
    · rename_i z; exact .inr z
    · cases h1
def compB (sc : Scope) (x : Str) (px : Pos) : Expr → Bool
  | .ListComp elt [⟨_, _, _, 0⟩] cs p => (sc.names.lookup x == some .local) && px.line == p.line && !(cs.names.any fun (n, k) => n == x && (k == .local || k == .cell))
  | _ => false
def isComp : Expr → Bool
  | .ListComp .. => true
  | .SetComp .. => true
  | .DictComp .. => true
  | _ => false
theorem noComp_swap' {e : Expr} (h : isComp e = false) (t : Option Expr) (l : Nat) : swapsWith e t l X.env = pure false := by
  cases e <;> first | rfl | cases h
theorem t_setRead (cx : Ctx P call N X k) {x : Str} {px p : Pos} {e : Expr} {i : Nat} (hi : slotOf N x = some i) (hl : i < N.length) {D : Ends} {H : Hp} {σ : L2.St}
    (q : SJ X N W Hd H0 Mu (denS P call N M (n + 1) (.Assign [.Name x px] e p)) D σ H) : tE P call N X W (slotsE N n e) n e σ H fun w H1 => gName i w σ H1 D.nx := by
  obtain ⟨ρ, own, s, h⟩ := q
  have h : SPost X N W Hd H0 Mu D H own (match slotOf N x with
      | some i => liftR ρ (denE P call N n e ρ) fun v => .nx ((settle (freshE P e) v (slotsE N n e) ρ).set i (some (v, freshE P e && ownB v)))
      | none => .stuck) := h
  simp only [hi] at h
  refine tE.of (s.at _) (SPost.lift s h) fun z hz w H1 s1 r f => ?_
  obtain ⟨own', s', st⟩ := s.assign s1 hl r f
  exact hz _ _ _ s' (st.more fun _ h => by cases h)
theorem t_set (cx : Ctx P call N X k) (cs : CtxS P X) (tk : Takes X W) {x : Str} {px p : Pos} {e : Expr} (hx : nameB N X.env.scope x = true) (he : wfE P N n X.env.scope (slotsE N n e) e = true) (hc : (isComp e = false ∨ compB X.env.scope x px e = true ∨ (X.env.scope.names.lookup x == some .local) = false)) :
    PS X (.Assign [.Name x px] e p) (SJ X N W Hd H0 Mu (denS P call N M (n + 1) (.Assign [.Name x px] e p))) := by
  obtain ⟨i, e1, e2, e3, e4⟩ := nameB_ok cx.n hx
  have gen : swapsWith e (some (.Name x px)) p.line X.env = pure false → PS X (.Assign [.Name x px] e p) (SJ X N W Hd H0 Mu (denS P call N M (n + 1) (.Assign [.Name x px] e p))) := fun hs =>
    (ps_set cx.nd e3 e4 ((sound n).e X k W cx tk (slotsE N n e) e he) hs (.inl (cs.fn x))).imp fun D σ H q => t_setRead (px := px) (p := p) cx e1 e2 q
  rcases hc with hc | hc | hc
  · exact gen (noComp_swap' hc _ _)
  · cases e with
    | ListComp elt gens ccs pc =>
      match gens, hc with
      | [⟨tg, it, ifs, 0⟩], hc =>
        obtain ⟨hc, c3⟩ := and_split hc
        obtain ⟨c1, c2⟩ := and_split hc
        cases n with
        | zero => cases he
        | succ m =>
          obtain ⟨h, h6⟩ := and_split he
          obtain ⟨h, h5⟩ := and_split h
          obtain ⟨h, h4⟩ := and_split h
          obtain ⟨h, h3⟩ := and_split h
          obtain ⟨h1, h2⟩ := and_split h
          have c1' : X.env.scope.names.lookup x = some .local := eq_of_beq c1
          refine (ps_setLc (own := ownPairs N ccs) (g := gTg N tg X.K) (tt := tIfs P call N X (fun _ _ _ _ => False) (ownSlots N ccs ++ slotsE N (m + 1) (.ListComp elt [⟨tg, it, ifs, 0⟩] ccs pc)) m ifs) (te := tE P call N X (fun _ _ _ _ => False) (ownSlots N ccs ++ slotsE N (m + 1) (.ListComp elt [⟨tg, it, ifs, 0⟩] ccs pc)) m elt) cx.calm cx.nd e3 c1' (sw_true cs.kind c1' c2 (by simpa using c3)) ((sound m).i X k W cx tk _ tg it h1) (by rw [cx.n]; exact blkOk_by h3)
            (fun s H C cl fp => pg_tg (X := X.blk s H ccs (compEnvC ccs cl C X.env) fp) cx.calm cx.n cx.nd (fun x h => h) h4)
            (fun s H C cl fp => (sound m).ifs (X.blk s H ccs (compEnvC ccs cl C X.env) fp) k _ (cx.blk s H ccs cl C fp) takes0 _ ifs h6)
            (fun s H C cl fp => (sound m).e (X.blk s H ccs (compEnvC ccs cl C X.env) fp) k _ (cx.blk s H ccs cl C fp) takes0 _ elt h5)
            (fun x => by cases it <;> first | rfl | (cases h2))).imp fun D σ H q => ?_
          exact lc_read (p := pc) h4 (t_setRead (px := px) (p := p) cx e1 e2 q)
      | [], hc => cases hc
      | [⟨_, _, _, .ofNat (_ + 1)⟩], hc => cases hc
      | [⟨_, _, _, .negSucc _⟩], hc => cases hc
      | a :: b :: r, hc =>
        have hc : false = true := by
          cases a with | mk a1 a2 a3 a4 => cases a4 with | ofNat m => (cases m <;> exact hc) | negSucc m => exact hc
        cases hc
    | _ => cases hc
  · refine gen ?_
    by_cases hcomp : isComp e = false
    · exact noComp_swap' hcomp _ _
    · have hne : (X.env.kindOf x == some .local) = false := hc
      cases e with
      | ListComp a b c d => show (pure (X.env.blockKind == .function && X.env.kindOf x == some .local && _ && _) : Sem Bool) = _; rw [hne]; simp
      | SetComp a b c d => show (pure (X.env.blockKind == .function && X.env.kindOf x == some .local && _ && _) : Sem Bool) = _; rw [hne]; simp
      | DictComp a b c d f => show (pure (X.env.blockKind == .function && X.env.kindOf x == some .local && _ && _) : Sem Bool) = _; rw [hne]; simp
      | _ => exact absurd rfl hcomp
theorem pass_settle {fl : Bool} {I : List Nat} {v : PV} (s : SI X.K N Hd H0 H σ ρ own) (g : Same H H1) {w : V} (q : Rep (view X.K Hd own I) H1 w v) (f : fl = true → Fresh (view X.K Hd own I) H H1 w v) :
    ∃ own', SI X.K N Hd H0 H1 σ (settle fl v I ρ) own' ∧ Rep (view X.K Hd own' []) H1 w v ∧ Step [] H own H1 own' := by
  obtain ⟨own', s', q', m⟩ := s.settle g q f
  refine ⟨own', s', q', fun b o h _ => g b o h, fun j a h => .inl (m j a h), fun b h => ?_⟩
  cases e : H b with
  | none => exact absurd e h
  | some o => rw [g _ _ e]; exact fun z => by cases z
theorem settle_len (fl : Bool) (v : PV) (I : List Nat) (ρ : Env) : (settle fl v I ρ).length = ρ.length := by
  unfold settle
  split
  · rfl
  · exact freeze_length I ρ
theorem bindNames_lenρ : ∀ {es : List Expr} {xs : List PV} {ρ ρ' : Env}, bindNames N es xs ρ = .ok ρ' → ρ'.length = ρ.length := by
  intro es
  induction es with
  | nil => intro xs ρ ρ' h; cases xs with | nil => cases h; rfl | cons => cases h
  | cons e es ih =>
    intro xs ρ ρ' h
    cases xs with
    | nil => cases e <;> cases h
    | cons v vs =>
      cases e with
      | Name x p =>
        have h : (match slotOf N x with
          | some i => bindNames N es vs (ρ.set i (some (v, false)))
          | none => .stuck) = .ok ρ' := h
        cases e : slotOf N x with
        | none => rw [e] at h; cases h
        | some i => rw [e] at h; rw [ih h, List.length_set]
      | _ => cases h
theorem bindNames_exc : ∀ (es : List Expr) (xs : List PV) (ρ : Env) c fs, bindNames N es xs ρ ≠ .exc c fs := by
  intro es
  induction es with
  | nil => intro xs ρ c fs h; cases xs <;> cases h
  | cons e es ih =>
    intro xs ρ c fs h
    cases xs with
    | nil => cases e <;> cases h
    | cons v vs =>
      cases e with
      | Name x p =>
        have h : (match slotOf N x with
          | some i => bindNames N es vs (ρ.set i (some (v, false)))
          | none => .stuck) = .exc c fs := h
        cases e : slotOf N x with
        | none => rw [e] at h; cases h
        | some i => rw [e] at h; exact ih _ _ _ _ h
      | _ => cases h
theorem bindTo_exc {tg : Expr} {x : PV} {ρ : Env} : ∀ c fs, bindTo N tg x ρ ≠ .exc c fs := by
  intro c fs h
  unfold bindTo at h
  split at h
  · split at h <;> cases h
  · exact bindNames_exc _ _ _ _ _ h
  · cases h
/-- a tuple's reading, its parts let go at once -/
theorem bindNest_exc : ∀ (es : List Expr) (xs : List PV) (ρ : Env) c fs, bindNest N es xs ρ ≠ .exc c fs := by
  intro es
  induction es with
  | nil => intro xs ρ c fs h; cases xs <;> cases h
  | cons e es ih =>
    intro xs ρ c fs h
    cases xs with
    | nil => cases e <;> cases h
    | cons v vs =>
      cases e with
      | Name x p =>
        have h : (match slotOf N x with
          | some i => bindNest N es vs (ρ.set i (some (v, false)))
          | none => .stuck) = .exc c fs := h
        cases z : slotOf N x with
        | none => rw [z] at h; cases h
        | some i => rw [z] at h; exact ih _ _ _ _ h
      | Tuple es' j p =>
        cases v with
        | tup zs =>
          have h : R.bind (bindNames N es' zs ρ) (fun ρ1 => bindNest N es vs ρ1) = .exc c fs := h
          cases z : bindNames N es' zs ρ with
          | ok ρ1 => rw [z] at h; exact ih _ _ _ _ h
          | exc c2 f2 => exact bindNames_exc _ _ _ _ _ z
          | stuck => rw [z] at h; cases h
        | _ => cases h
      | _ => cases h
theorem bindTg_exc {tg : Expr} {x : PV} {ρ : Env} : ∀ c fs, bindTg N tg x ρ ≠ .exc c fs := by
  intro c fs h
  unfold bindTg at h
  split at h
  · split at h
    · exact bindNest_exc _ _ _ _ _ h
    · cases h
  · exact bindTo_exc _ _ h
theorem t_unpack (cx : Ctx P call N X k) (cs : CtxS P X) (tk : Takes X W) {ts : List Expr} {j : Nat} {q p : Pos} {e : Expr} (hx : targetsB N X.env.scope (fun _ => true) (List.range N.length) (.Tuple ts j q) = true) (he : wfE P N n X.env.scope (slotsE N n e) e = true)
    (ho : ownTgt N ts e = none) (hw : swappedStores [.Tuple ts j q] e X.env = pure none) (h1 : (assignEach [.Tuple ts j q] X.env).map (·.2) = [assign (.Tuple ts j q) X.env]) :
    PS X (.Assign [.Tuple ts j q] e p) (SJ X N W Hd H0 Mu (denS P call N M (n + 1) (.Assign [.Tuple ts j q] e p))) := by
  refine (ps_asg ((sound n).e X k W cx tk (slotsE N n e) e he) (pg_t (fb := fun _ => true) cx.calm cx.n cx.nd (fun x _ => cs.fn x) hx) (swap_tuple (X := X) (e := e) (ts := ts) (j := j) (p := q) (l := p.line)) hw h1).imp fun D σ H q' => ?_
  obtain ⟨ρ, own, s, h⟩ := q'
  have h : SPost X N W Hd H0 Mu D H own (liftR ρ (denE P call N n e ρ) fun v => match (ownTgt N ts e).bind fun ki => match bindTo N (.Tuple ts j q) v ρ with | .ok ρ' => unpackOwn N ts ki.1 ki.2 v ρ ρ' | _ => none with
    | some ρ2 => .nx ρ2
    | none => liftR ρ (bindTo N (.Tuple ts j q) v (settle false v (slotsE N n e) ρ)) .nx) := h
  rw [ho] at h
  have h : SPost X N W Hd H0 Mu D H own (liftR ρ (denE P call N n e ρ) fun v => liftR ρ (bindTo N (.Tuple ts j q) v (settle false v (slotsE N n e) ρ)) .nx) := h
  refine tE.of (s.at _) (SPost.lift s h) fun z hz w H1 s1 r f => ?_
  obtain ⟨own', s', r', st⟩ := pass_settle (fl := false) s s1 r (fun z => by cases z)
  cases hb : bindTo N (.Tuple ts j q) z (settle false z (slotsE N n e) ρ) with
  | ok ρ' =>
    rw [hb] at hz
    refine ⟨_, z, _, ρ', rfl, r', s'.ln, hb, fun σ' b => ?_⟩
    exact hz σ' H1 _ (s'.bound b) ((st.more fun _ h => by cases h).trans Step.without)
  | exc c fs => exact absurd hb (bindTo_exc _ _)
  | stuck => rw [hb] at hz; exact hz.elim
theorem pass_settles {I : List Nat} {zs : List PV} {vs : List V} (s : SI X.K N Hd H0 H σ ρ own) (g : Same H H1) (q : Reps (view X.K Hd own I) H1 vs zs) :
    ∃ own', SI X.K N Hd H0 H1 σ (settle false (.tup zs) I ρ) own' ∧ Reps (view X.K Hd own' []) H1 vs zs ∧ Step [] H own H1 own' := by
  have al : ∀ own' : Nat → Option Addr, (∀ j a, own' j = some a → own j = some a) → Step [] H own H1 own' := fun own' m => ⟨fun b o h _ => g b o h, fun j a h => .inl (m j a h), fun b h => by
    cases e : H b with
    | none => exact absurd e h
    | some o => rw [g _ _ e]; exact fun z => by cases z⟩
  unfold settle
  by_cases hp : isPure (.tup zs) = true
  · rw [if_pos (by rw [hp]; rfl)]
    exact ⟨own, s.grow g, Reps.pure (stills (Same.refl _) _ _ _ _) zs vs hp q, al _ fun _ _ h => h⟩
  · rw [if_neg (by simp [hp])]
    have kp : Keeps (view X.K Hd own I) H1 (view X.K Hd (without own I) []) H1 := ⟨rfl, fun _ _ h _ => h, fun b o _ n z => n ((view_free s I).mp z), fun _ _ h => h⟩
    exact ⟨_, (s.grow g).freeze I, Reps.keep kp _ _ q, al _ fun i a h => (without_some h).1⟩
/-- a, b = x, y -/
theorem t_par2 (cx : Ctx P call N X k) (cs : CtxS P X) (tk : Takes X W) {x y : Str} {px py q q2 p : Pos} {j j2 : Nat} {a b : Expr} {i1 i2 : Nat} (e1 : slotOf N x = some i1) (e2 : slotOf N y = some i2) (hij : i1 ≠ i2)
    (hx : X.env.scope.names.lookup x = some .local) (hy : X.env.scope.names.lookup y = some .local) (he : wfE P N n X.env.scope (slotsE N n (.Tuple [a, b] j2 q2)) (.Tuple [a, b] j2 q2) = true)
    (ho : ownTgt N [.Name x px, .Name y py] (.Tuple [a, b] j2 q2) = none) (hw : swappedStores [.Tuple [.Name x px, .Name y py] j q] (.Tuple [a, b] j2 q2) X.env = pure (some [x, y])) :
    PS X (.Assign [.Tuple [.Name x px, .Name y py] j q] (.Tuple [a, b] j2 q2) p) (SJ X N W Hd H0 Mu (denS P call N M (n + 1) (.Assign [.Tuple [.Name x px, .Name y py] j q] (.Tuple [a, b] j2 q2) p))) := by
  cases n with
  | zero => cases he
  | succ m =>
    obtain ⟨he1, _⟩ := and_split he
    refine (ps_par cx.calm cx.nd (by rw [cx.n]; exact slotOf_get e1) (by rw [cx.n]; exact slotOf_get e2) hij hx hy ((sound m).a X k W cx tk (slotsE N (m + 1) (.Tuple [a, b] j2 q2)) [a, b] he1) hw).imp fun D σ H q' => ?_
    obtain ⟨ρ, own, s, h⟩ := q'
    have h : SPost X N W Hd H0 Mu D H own (liftR ρ (R.bind (denA P call N m [a, b] ρ) fun vs => .ok (.tup vs)) fun v => match (ownTgt N [.Name x px, .Name y py] (.Tuple [a, b] j2 q2)).bind fun ki => match bindTo N (.Tuple [.Name x px, .Name y py] j q) v ρ with | .ok ρ' => unpackOwn N [.Name x px, .Name y py] ki.1 ki.2 v ρ ρ' | _ => none with
      | some ρ2 => .nx ρ2
      | none => liftR ρ (bindTo N (.Tuple [.Name x px, .Name y py] j q) v (settle false v (slotsE N (m + 1) (.Tuple [a, b] j2 q2)) ρ)) .nx) := h
    rw [ho] at h
    have h : SPost X N W Hd H0 Mu D H own (liftR ρ (R.bind (denA P call N m [a, b] ρ) fun vs => .ok (.tup vs)) fun v => liftR ρ (bindTo N (.Tuple [.Name x px, .Name y py] j q) v (settle false v (slotsE N (m + 1) (.Tuple [a, b] j2 q2)) ρ)) .nx) := h
    refine ⟨_, ρ, s.at _, (SPost.lift s h).bind.monoOk fun zs ez hz vs H1 s1 rs => ?_⟩
    have hl := denA_len m _ _ _ ez
    match zs, vs, hl, rs, hz with
    | [z1, z2], [v1, v2], _, rs, hz =>
      refine ⟨v1, v2, rfl, ?_⟩
      obtain ⟨own', s', r', st⟩ := pass_settles s s1 rs
      have hz : SPost X N W Hd H0 Mu D H own (liftR ρ (match slotOf N x with
          | some i => match slotOf N y with
            | some i' => .ok (((settle false (.tup [z1, z2]) (slotsE N (m + 1) (.Tuple [a, b] j2 q2)) ρ).set i (some (z1, false))).set i' (some (z2, false)))
            | none => .stuck
          | none => .stuck) .nx) := hz
      rw [e1, e2] at hz
      cases r' with
      | cons q1 r' =>
        cases r' with
        | cons q2 _ =>
          have b1 := Bound.one (i := i1) (by rw [s'.lnσ, s'.ln]) q1
          have b2 := Bound.one (σ := σ.set i1 (some v1)) (ρ := (settle false (.tup [z1, z2]) (slotsE N (m + 1) (.Tuple [a, b] j2 _)) ρ).set i1 (some (z1, false))) (i := i2) (by rw [List.length_set, List.length_set, s'.lnσ, s'.ln]) q2
          exact hz _ H1 _ (s'.bound (b1.trans b2)) ((st.more fun _ h => by cases h).trans Step.without)
    | [z1, z2], [], _, rs, _ => cases rs
    | [z1, z2], [_], _, rs, _ => cases rs with | cons _ t => cases t
    | [z1, z2], _ :: _ :: _ :: _, _, rs, _ => cases rs with | cons _ t => cases t with | cons _ t => cases t
/-- a, b, c = x, y, z -/
theorem t_par3 (cx : Ctx P call N X k) (cs : CtxS P X) (tk : Takes X W) {x y z : Str} {px py pz q q2 p : Pos} {j j2 : Nat} {a b c : Expr} {i1 i2 i3 : Nat} (e1 : slotOf N x = some i1) (e2 : slotOf N y = some i2) (e3 : slotOf N z = some i3) (hij : i1 ≠ i2) (hik : i1 ≠ i3) (hjk : i2 ≠ i3)
    (hx : X.env.scope.names.lookup x = some .local) (hy : X.env.scope.names.lookup y = some .local) (hz0 : X.env.scope.names.lookup z = some .local) (he : wfE P N n X.env.scope (slotsE N n (.Tuple [a, b, c] j2 q2)) (.Tuple [a, b, c] j2 q2) = true)
    (ho : ownTgt N [.Name x px, .Name y py, .Name z pz] (.Tuple [a, b, c] j2 q2) = none) (hw : swappedStores [.Tuple [.Name x px, .Name y py, .Name z pz] j q] (.Tuple [a, b, c] j2 q2) X.env = pure (some [x, y, z])) :
    PS X (.Assign [.Tuple [.Name x px, .Name y py, .Name z pz] j q] (.Tuple [a, b, c] j2 q2) p) (SJ X N W Hd H0 Mu (denS P call N M (n + 1) (.Assign [.Tuple [.Name x px, .Name y py, .Name z pz] j q] (.Tuple [a, b, c] j2 q2) p))) := by
  cases n with
  | zero => cases he
  | succ m =>
    obtain ⟨he1, _⟩ := and_split he
    refine (ps_par3 cx.calm cx.nd (by rw [cx.n]; exact slotOf_get e1) (by rw [cx.n]; exact slotOf_get e2) (by rw [cx.n]; exact slotOf_get e3) hij hik hjk hx hy hz0 ((sound m).a X k W cx tk (slotsE N (m + 1) (.Tuple [a, b, c] j2 q2)) [a, b, c] he1) hw).imp fun D σ H q' => ?_
    obtain ⟨ρ, own, s, h⟩ := q'
    have h : SPost X N W Hd H0 Mu D H own (liftR ρ (R.bind (denA P call N m [a, b, c] ρ) fun vs => .ok (.tup vs)) fun v => match (ownTgt N [.Name x px, .Name y py, .Name z pz] (.Tuple [a, b, c] j2 q2)).bind fun ki => match bindTo N (.Tuple [.Name x px, .Name y py, .Name z pz] j q) v ρ with | .ok ρ' => unpackOwn N [.Name x px, .Name y py, .Name z pz] ki.1 ki.2 v ρ ρ' | _ => none with
      | some ρ2 => .nx ρ2
      | none => liftR ρ (bindTo N (.Tuple [.Name x px, .Name y py, .Name z pz] j q) v (settle false v (slotsE N (m + 1) (.Tuple [a, b, c] j2 q2)) ρ)) .nx) := h
    rw [ho] at h
    have h : SPost X N W Hd H0 Mu D H own (liftR ρ (R.bind (denA P call N m [a, b, c] ρ) fun vs => .ok (.tup vs)) fun v => liftR ρ (bindTo N (.Tuple [.Name x px, .Name y py, .Name z pz] j q) v (settle false v (slotsE N (m + 1) (.Tuple [a, b, c] j2 q2)) ρ)) .nx) := h
    refine ⟨_, ρ, s.at _, (SPost.lift s h).bind.monoOk fun zs ez hz vs H1 s1 rs => ?_⟩
    have hl := denA_len m _ _ _ ez
    match zs, vs, hl, rs, hz with
    | [z1, z2, z3], [v1, v2, v3], _, rs, hz =>
      refine ⟨v1, v2, v3, rfl, ?_⟩
      obtain ⟨own', s', r', st⟩ := pass_settles s s1 rs
      have hz : SPost X N W Hd H0 Mu D H own (liftR ρ (match slotOf N x with
          | some i => match slotOf N y with
            | some i' => match slotOf N z with
              | some i'' => .ok ((((settle false (.tup [z1, z2, z3]) (slotsE N (m + 1) (.Tuple [a, b, c] j2 q2)) ρ).set i (some (z1, false))).set i' (some (z2, false))).set i'' (some (z3, false)))
              | none => .stuck
            | none => .stuck
          | none => .stuck) .nx) := hz
      rw [e1, e2, e3] at hz
      cases r' with
      | cons q1 r' =>
        cases r' with
        | cons q2 r' =>
          cases r' with
          | cons q3 _ =>
            have b1 := Bound.one (i := i1) (by rw [s'.lnσ, s'.ln]) q1
            have b2 := Bound.one (σ := σ.set i1 (some v1)) (ρ := (settle false (.tup [z1, z2, z3]) (slotsE N (m + 1) (.Tuple [a, b, c] j2 _)) ρ).set i1 (some (z1, false))) (i := i2) (by rw [List.length_set, List.length_set, s'.lnσ, s'.ln]) q2
            have b3 := Bound.one (σ := (σ.set i1 (some v1)).set i2 (some v2)) (ρ := ((settle false (.tup [z1, z2, z3]) (slotsE N (m + 1) (.Tuple [a, b, c] j2 _)) ρ).set i1 (some (z1, false))).set i2 (some (z2, false))) (i := i3) (by rw [List.length_set, List.length_set, List.length_set, List.length_set, s'.lnσ, s'.ln]) q3
            exact hz _ H1 _ (s'.bound ((b1.trans b2).trans b3)) ((st.more fun _ h => by cases h).trans Step.without)
    | [z1, z2, z3], [], _, rs, _ => cases rs
    | [z1, z2, z3], [_], _, rs, _ => cases rs with | cons _ t => cases t
    | [z1, z2, z3], [_, _], _, rs, _ => cases rs with | cons _ t => cases t with | cons _ t => cases t
    | [z1, z2, z3], _ :: _ :: _ :: _ :: _, _, rs, _ => cases rs with | cons _ t => cases t with | cons _ t => cases t with | cons _ t => cases t
end
end PyV
set_option Elab.async false
set_option linter.all false
set_option maxRecDepth 100000
set_option maxHeartbeats 1000000
/-! Layer PyV, part 8z: a zip kept in a name, walked by the next statement. -/
namespace PyV
open PySem PySem.Spec PyProof.Rows L2

theorem callOf_ok {e : Expr} {f : Str} {es : List Expr} (h : callOf e = some (f, es)) : ∃ p q, e = .Call (.Name f p) es [] q := by
  unfold callOf at h
  split at h
  · cases h; exact ⟨_, _, rfl⟩
  · cases h
theorem lcOf_ok {e elt tg : Expr} {y : Str} {ifs : List Expr} {sc : Scope} (h : lcOf e = some (elt, tg, y, ifs, sc)) : ∃ p q, e = .ListComp elt [⟨tg, .Name y p, ifs, 0⟩] sc q := by
  unfold lcOf at h
  split at h
  · cases h; exact ⟨_, _, rfl⟩
  · cases h
theorem asgOf_ok {s : Stmt} {x : Str} {e : Expr} (h : asgOf s = some (x, e)) : ∃ p q, s = .Assign [.Name x p] e q := by
  unfold asgOf at h
  split at h
  · cases h; exact ⟨_, _, rfl⟩
  · cases h
theorem retOf_ok {s : Stmt} {e : Expr} (h : retOf s = some e) : ∃ p, s = .Return (some e) p := by
  unfold retOf at h
  split at h
  · cases h; exact ⟨_, rfl⟩
  · cases h
theorem zcall_ok {e r a b : Expr} (h : zcall e = some (r, a, b)) : ∃ p q p2 q2, e = .Call (.Name (Str.ofString "zip") p) [.Call (.Name (Str.ofString "range") p2) [r] [] q2, a, b] [] q := by
  unfold zcall at h
  split at h
  · rename_i z rc a' b' hc
    split at h
    · rename_i hz
      split at h
      · rename_i g r' hc2
        split at h
        · rename_i hg
          cases h
          obtain ⟨p, q, rfl⟩ := callOf_ok hc
          obtain ⟨p2, q2, rfl⟩ := callOf_ok hc2
          rw [nameIs_eq hz, nameIs_eq hg]
          exact ⟨_, _, _, _, rfl⟩
        · cases h
      · cases h
    · cases h
  · cases h
theorem tcomp_ok {e elt tg : Expr} {y : Str} {ifs : List Expr} {sc : Scope} (h : tcomp e = some (elt, tg, y, ifs, sc)) : ∃ p q p2 q2, e = .Call (.Name (Str.ofString "tuple") p) [.ListComp elt [⟨tg, .Name y p2, ifs, 0⟩] sc q2] [] q := by
  unfold tcomp at h
  split at h
  · rename_i t l hc
    split at h
    · rename_i ht
      obtain ⟨p, q, rfl⟩ := callOf_ok hc
      obtain ⟨p2, q2, rfl⟩ := lcOf_ok h
      rw [nameIs_eq ht]
      exact ⟨_, _, _, _, rfl⟩
    · cases h
  · cases h
theorem zpair_ok {sts : List Stmt} {z : ZP} (h : zpair sts = some z) : ∃ p1 p2 p3 p4 p5 p6 p7 p8 p9 p10 p11,
    sts = [.Assign [.Name z.x p1] (.Call (.Name (Str.ofString "zip") p2) [.Call (.Name (Str.ofString "range") p3) [z.r] [] p4, z.a, z.b] [] p5) p6,
      .Return (some (.Call (.Name (Str.ofString "tuple") p7) [.ListComp z.elt [⟨z.tg, .Name z.x p8, z.ifs, 0⟩] z.sc p9] [] p10)) p11] := by
  unfold zpair at h
  split at h
  · rename_i s1 s2
    split at h
    · rename_i x e h1
      split at h
      · rename_i r a b h2
        split at h
        · rename_i e2 h3
          split at h
          · rename_i elt tg y ifs sc h4
            split at h
            · rename_i hxy
              cases h
              obtain ⟨p1, p6, rfl⟩ := asgOf_ok h1
              obtain ⟨p2, p5, p3, p4, rfl⟩ := zcall_ok h2
              obtain ⟨p11, rfl⟩ := retOf_ok h3
              obtain ⟨p7, p10, p8, p9, rfl⟩ := tcomp_ok h4
              have e : x = y := eq_of_beq hxy
              subst e
              exact ⟨_, _, _, _, _, _, _, _, _, _, _, rfl⟩
            · cases h
          · cases h
        · cases h
      · cases h
    · cases h
  · cases h

def RgO (rg : Addr) (j : Int) : HO := .ext fun h => ∃ t u v, IsRange h rg 0 j 1 t u v
theorem rgO_ok {P : Program} {w : World} {H : Hp} {h : Heap} {rg : Addr} {j : Int} {t u v : Tok} (e : IsRange h rg 0 j 1 t u v) : ObjOk P w H h rg (RgO rg j) := ⟨⟨t, u, v, e⟩, ⟨_, e⟩, fun h1 h2 q k => by obtain ⟨t, u, v, q⟩ := q; exact ⟨t, u, v, k _ q⟩⟩
theorem pe_rangeO {X : Cx} {e : Expr} {ta : TA} {p pos : Pos} (hg : Gl X "range") (hm : X.mg "range" = none) (ha : PA X [e] ta) (hs : starEach [e] X.env = [(false, eval e X.env)]) :
    PE X (.Call (.Name "range" p) [e] [] pos) (fun σ H Q => ta σ H fun vs H1 => ∃ j : Int, vs = [.int j] ∧ ∀ rg, H1 rg = none → Q (.ref rg) (upd H1 rg (RgO rg j))) := by
  refine ⟨fun pins s σ H Q I h => ?_⟩
  refine Call_ (ld_blt I hg hm boot_range (PyProof.Rows.callWith_type1 (thn (ha.run pos pins s σ H _ I h) fun us s1 ⟨vs, H1, I1, r1, q1⟩ => ?_) hs rfl))
  obtain ⟨j, e, q⟩ := q1
  subst e
  cases r1 with
  | cons r rr =>
    cases rr
    obtain ⟨t, rfl⟩ := r
    exact call_range_1 ⟨.ref s1.heap.objs.size, _, I1.laid (fun b u e => Heap.get?_push_of_some _ e) (Nat.le_refl _) (rgO_ok (IsRange.new _ _ _ _ _ _ _)), rfl, q _ (I1.hok.fresh (Nat.le_refl _))⟩
/-- cells as they are -/
def gO (c : Addr) (o : Obj) : HO := .ext fun h => h.get? c = some o
theorem gO_ok {P : Program} {w : World} {H : Hp} {h : Heap} {c : Addr} {o : Obj} (e : h.get? c = some o) : ObjOk P w H h c (gO c o) := ⟨e, ⟨_, e⟩, fun h1 h2 q k => k _ q⟩
def trk (L : List (Addr × Obj)) (H : Hp) : Hp := fun c => match L.lookup c with
  | some o => some (gO c o)
  | none => H c
theorem trk_out {L : List (Addr × Obj)} {H : Hp} {c : Addr} (h : c ∉ L.map (·.1)) : trk L H c = H c := by
  unfold trk
  have : L.lookup c = none := by
    induction L with
    | nil => rfl
    | cons x L ih =>
      obtain ⟨a, o⟩ := x
      simp only [List.map_cons, List.mem_cons, not_or] at h
      rw [List.lookup_cons, show (c == a) = false from beq_eq_false_iff_ne.mpr h.1]
      exact ih h.2
  rw [this]
theorem trk_in {L : List (Addr × Obj)} {H : Hp} {c : Addr} {o : Obj} (h : L.lookup c = some o) : trk L H c = some (gO c o) := by
  unfold trk
  rw [h]
theorem trk_mem {L : List (Addr × Obj)} {c : Addr} (h : c ∈ L.map (·.1)) : ∃ o, L.lookup c = some o ∧ (c, o) ∈ L := by
  induction L with
  | nil => cases h
  | cons x L ih =>
    obtain ⟨a, o⟩ := x
    rw [List.lookup_cons]
    by_cases e : c = a
    · subst e
      rw [show (c == c) = true from beq_self_eq_true c]
      exact ⟨o, rfl, List.mem_cons_self⟩
    · rw [show (c == a) = false from beq_eq_false_iff_ne.mpr e]
      simp only [List.map_cons, List.mem_cons, e, false_or] at h
      obtain ⟨o', h1, h2⟩ := ih h
      exact ⟨o', h1, List.mem_cons_of_mem _ h2⟩
theorem pe_zip3 {X : Cx} {e1 e2 e3 : Expr} {ta : TA} {p pos : Pos} (hg : Gl X "zip") (hm : X.mg "zip" = none) (ha : PA X [e1, e2, e3] ta)
    (hs : starEach [e1, e2, e3] X.env = (false, eval e1 X.env) :: starEach [e2, e3] X.env) (hpl : (backTo pos (starEach [e2, e3] X.env)).any (·.1) = false) :
    PE X (.Call (.Name "zip" p) [e1, e2, e3] [] pos) (fun σ H Q => ta σ H fun vs H1 => ∃ (rg a b : Addr) (j : Int) (xs ys : List V), vs = [.ref rg, .ref a, .ref b] ∧ H1 rg = some (RgO rg j) ∧ -(2 ^ 62) ≤ j ∧ j < 2 ^ 62 ∧ SqT X.K H1 a xs ∧ SqT X.K H1 b ys ∧
      (xs.length ≤ sizeLine → ∀ z cs H2, (∀ elts kk tpos, Kept X.prog X.w X.K X.s_0.heap.objs.size (.Tuple elts kk tpos) (Itz3 X.K j.toNat a b) z cs H1 H2) → Q (.ref z) H2)) := by
  refine ⟨fun pins s σ H Q I h => ?_⟩
  refine Call_ (ld_blt I hg hm PyProof.Rows.boot_zip (PyProof.Rows.callWith_type1 (thn (ha.run pos pins s σ H _ I h) fun us s1 ⟨vs, H1, I1, r1, q1⟩ => ?_) hs hpl))
  obtain ⟨rg, a, b, j, xs, ys, ex, hrg, j1, j2, sx, sy, q⟩ := q1
  subst ex
  cases r1 with
  | cons r rr =>
    cases rr with
    | cons r' rr =>
      cases rr with
      | cons r'' rr =>
        cases rr
        cases r
        cases r'
        cases r''
        obtain ⟨its, rv, p1, hz1⟩ := I1.tuple sx
        obtain ⟨its2, rv2, p2, _⟩ := I1.tuple sy
        obtain ⟨t, u, v, hr⟩ := (I1.hok rg _ hrg).1
        obtain ⟨oa, ea, _⟩ := _root_.id p1
        obtain ⟨ob, eb, _⟩ := _root_.id p2
        refine zip_begins3 (begins_range rg j t u v j1 j2) (begins_tuple a its.toArray) (begins_tuple b its2.toArray) hr p1 p2 fun h' hz hTI hTO h0 h1 h2 hsz hk => ?_
        generalize hN : s1.heap.objs.size = N at *
        have hN' : s1.heap.objs.size = N := hN
        let L : List (Addr × Obj) := [(N + 5, { cls := .type "zip", data := .fields #[.none, .bool false, .bool false, .ref (N + 3), .ref (N + 4)] }),
          (N + 3, { cls := .type "tuple", data := .seq #[.ref N, .ref (N + 1), .ref (N + 2)] }), (N + 4, { cls := .type "tuple", data := .seq #[.none, .none, .none] }),
          (N, { cls := .type "range_iterator", data := .fields #[rawInt 0, rawInt ((j.toNat : Nat) : Int), rawInt 1] }), (N + 1, { cls := .type "tuple_iterator", data := .fields #[.ref a, .int 0 0] }), (N + 2, { cls := .type "tuple_iterator", data := .fields #[.ref b, .int 0 0] })]
        have all : ∀ c o, (c, o) ∈ L → h'.get? c = some o := fun c o hm => by
          simp only [L, List.mem_cons, List.not_mem_nil, or_false, Prod.mk.injEq] at hm
          rcases hm with ⟨rfl, rfl⟩ | ⟨rfl, rfl⟩ | ⟨rfl, rfl⟩ | ⟨rfl, rfl⟩ | ⟨rfl, rfl⟩ | ⟨rfl, rfl⟩
          · exact hz
          · exact hTI
          · exact hTO
          · exact h0
          · exact h1
          · exact h2
        have ge : ∀ c ∈ L.map (·.1), N ≤ c := fun c hc => by
          have : c = N + 5 ∨ c = N + 3 ∨ c = N + 4 ∨ c = N ∨ c = N + 1 ∨ c = N + 2 := by simpa [L] using hc
          omega
        have I2 : Inv X pins σ (trk L H1) { s1 with heap := h' } := inv_laidL (cs := L.map (·.1)) (t' := s1.toks) I1 hk (fun c hc => by rw [hN']; exact ge c hc) (fun c hc => trk_out hc) fun c hc u e => by
          obtain ⟨o, e1, e2⟩ := trk_mem hc
          rw [trk_in e1] at e
          cases e
          exact gO_ok (all c o e2)
        refine ⟨.ref (N + 5), trk L H1, I2, rfl, q hz1 (N + 5) (L.map (·.1)) (trk L H1) fun elts kk tpos => ⟨fun c hc => trk_out hc, fun c hc => ?_, ?_⟩⟩
        · obtain ⟨o, e1, e2⟩ := trk_mem hc
          exact ⟨Nat.le_trans (hN' ▸ I1.sz) (ge c hc), I1.hok.fresh (hN' ▸ ge c hc), _, trk_in e1⟩
        · have lt1 : a < N := hN' ▸ Heap.lt_size ea
          have lt2 : b < N := hN' ▸ Heap.lt_size eb
          refine ⟨_, turn_zip3 (n := j.toNat) (a := a) (b := b) (z := N + 5) (TI := N + 3) (TO := N + 4) (i0 := N) (i1 := N + 1) (i2 := N + 2) (zip_sep3 (fp1 := []) (fp2 := [a]) (fp3 := [b]) (fun c hc => by cases hc) (fun c hc => by rw [List.mem_singleton.mp hc]; exact lt1) (fun c hc => by rw [List.mem_singleton.mp hc]; exact lt2)), fun h hh => ?_⟩
          have at_ : ∀ c o, L.lookup c = some o → h.get? c = some o := fun c o e => hh c _ (trk_in e) (by
            by_cases hc : c ∈ L.map (·.1)
            · exact hc
            · have := trk_out (H := fun _ => none) hc
              rw [trk_in e] at this; cases this)
          have ne : ∀ i k : Nat, i ≠ k → ((N + i : Nat) == N + k) = false := fun i k e => beq_eq_false_iff_ne.mpr (by omega)
          have ne0 : ∀ k : Nat, k ≠ 0 → ((N : Nat) == N + k) = false := fun k e => beq_eq_false_iff_ne.mpr (by omega)
          have ne1 : ∀ k : Nat, k ≠ 0 → ((N + k : Nat) == N) = false := fun k e => beq_eq_false_iff_ne.mpr (by omega)
          refine ⟨at_ (N + 5) _ (by simp [L, List.lookup_cons]), at_ (N + 3) { cls := .type "tuple", data := .seq #[.ref N, .ref (N + 1), .ref (N + 2)] } ?_, ⟨.none, .none, .none, at_ (N + 4) { cls := .type "tuple", data := .seq #[.none, .none, .none] } ?_⟩, ?_, ⟨_, at_ (N + 1) { cls := .type "tuple_iterator", data := .fields #[.ref a, .int 0 0] } ?_, rfl, rfl⟩, ⟨_, at_ (N + 2) { cls := .type "tuple_iterator", data := .fields #[.ref b, .int 0 0] } ?_, rfl, rfl⟩⟩
          · simp only [L, List.lookup_cons, ne 3 5 (by decide), beq_self_eq_true]
          · simp only [L, List.lookup_cons, ne 4 5 (by decide), ne 4 3 (by decide), beq_self_eq_true]
          · have e := at_ N { cls := .type "range_iterator", data := .fields #[rawInt 0, rawInt ((j.toNat : Nat) : Int), rawInt 1] } (by simp only [L, List.lookup_cons, ne0 5 (by decide), ne0 3 (by decide), ne0 4 (by decide), beq_self_eq_true])
            show IsRangeIter h N ((0 : Nat) : Int) (((j.toNat : Nat) : Int) - ((0 : Nat) : Int)) 1
            rw [show (((j.toNat : Nat) : Int) - ((0 : Nat) : Int)) = ((j.toNat : Nat) : Int) by simp]
            exact e
          · simp only [L, List.lookup_cons, ne 1 5 (by decide), ne 1 3 (by decide), ne 1 4 (by decide), ne1 1 (by decide), beq_self_eq_true]
          · simp only [L, List.lookup_cons, ne 2 5 (by decide), ne 2 3 (by decide), ne 2 4 (by decide), ne1 2 (by decide), ne 2 1 (by decide), beq_self_eq_true]
theorem it_zip3 {r : Rc} {H1 : Hp} {n : Nat} {a b : Addr} {vs ws : List V} {xs ys : List PV} (h : SqT r.K H1 a vs) (rs : Reps r H1 vs xs) (h2 : SqT r.K H1 b ws) (rs2 : Reps r H1 ws ys) : ItFor r H1 (zip3L n xs ys) (Itz3 r.K n a b) := by
  intro r' i H kp
  have hH := kp.k ▸ kp.seqT h
  have hH2 := kp.k ▸ kp.seqT h2
  have hl : (zip3L n xs ys).length = min n (min xs.length ys.length) := by simp [zip3L]
  have l1 := rs.length
  have l2 := rs2.length
  refine ⟨fun hi => ?_, fun hi => ⟨vs, ws, hH, hH2, by omega, by omega, by omega, by omega⟩, fun v H' y => ?_⟩
  · have hi1 : i < vs.length := by omega
    have hi2 : i < ws.length := by omega
    exact ⟨by omega, vs, ws, _, _, hH, hH2, List.getElem?_eq_getElem hi1, List.getElem?_eq_getElem hi2⟩
  · obtain ⟨T, x0, y0, rfl, nT, rfl, y1, y2⟩ := y
    refine ⟨same_upd nT, fun x hx => ?_⟩
    unfold zip3L at hx
    rw [List.getElem?_map] at hx
    obtain ⟨q, hq, hx⟩ := Option.map_eq_some_iff.mp hx
    obtain ⟨e1, e2⟩ := List.getElem?_zip_eq_some.mp hq
    obtain ⟨e3, e4⟩ := List.getElem?_zip_eq_some.mp e2
    have e0 : q.1 = i := by
      obtain ⟨hlt, he⟩ := List.getElem?_eq_some_iff.mp e1
      simpa using he.symm
    obtain ⟨v1, f1, q1⟩ := rs.get e3
    obtain ⟨v2, f2, q2⟩ := rs2.get e4
    have t1 := y1 vs hH
    rw [f1] at t1; cases t1
    have t2 := y2 ws hH2
    rw [f2] at t2; cases t2
    subst hx
    rw [e0]
    exact .tup (SqT.of upd_same) (.cons (.int _) (.cons ((Rep.keep kp _ _ q1).same (same_upd nT)) (.cons ((Rep.keep kp _ _ q2).same (same_upd nT)) .nil)))
def wfZ (P : Prog) (N : List Str) (n : Nat) (sc : Scope) (z : ZP) : Bool :=
  nameB N sc z.x && plainB z.x && visB sc z.x && callee P sc (Str.ofString "zip") && (P.fns.lookup (Str.ofString "zip")).isNone && callee P sc (Str.ofString "range") && (P.fns.lookup (Str.ofString "range")).isNone
  && callee P sc (Str.ofString "tuple") && (P.fns.lookup (Str.ofString "tuple")).isNone && wfE P N n sc (List.range N.length) z.r && noStar z.r && wfA P N n sc (List.range N.length) [z.a, z.b] && blkC N sc z.sc (ownPairs N z.sc)
  && targetsG N (relS z.sc sc) (fun x => z.sc.names.lookup x == some .cell) (ownSlots N z.sc) z.tg && isTupT z.tg
  && wfE P N n (relS z.sc sc) (ownSlots N z.sc ++ List.range N.length) z.elt && wfIfs P N n (relS z.sc sc) (ownSlots N z.sc ++ List.range N.length) z.ifs
section
variable {P : Prog} {call : Str → List PV → R PV} {N : List Str} {M : Nat} {X : Cx} {k : Nat} {W : WX} {Hd : Addr → Prop} {H0 : Hp} {Mu : List Nat} {n : Nat}
theorem zip3_exc {j : Int} {vs : List PV} : ∀ c fs, zip3 j vs ≠ .exc c fs := by
  intro c fs h
  unfold zip3 at h
  split at h
  · unfold need at h; split at h <;> cases h
  · cases h
theorem t_zpair (cx : Ctx P call N X k) (cs : CtxS P X) (tk : Takes X W) {sts : List Stmt} {z : ZP} (hz : zpair sts = some z) (hw : wfZ P N n X.env.scope z = true) : PSs X sts (SJ X N W Hd H0 Mu (denSs P call N M (n + 1) sts)) := by
  obtain ⟨p1, p2, p3, p4, p5, p6, p7, p8, p9, p10, p11, rfl⟩ := zpair_ok hz
  unfold wfZ at hw
  obtain ⟨hw, w17⟩ := and_split hw
  obtain ⟨hw, w16⟩ := and_split hw
  obtain ⟨hw, w15⟩ := and_split hw
  obtain ⟨hw, w14⟩ := and_split hw
  obtain ⟨hw, w13⟩ := and_split hw
  obtain ⟨hw, w12⟩ := and_split hw
  obtain ⟨hw, w11⟩ := and_split hw
  obtain ⟨hw, w10⟩ := and_split hw
  obtain ⟨hw, w9⟩ := and_split hw
  obtain ⟨hw, w8⟩ := and_split hw
  obtain ⟨hw, w7⟩ := and_split hw
  obtain ⟨hw, w6⟩ := and_split hw
  obtain ⟨hw, w5⟩ := and_split hw
  obtain ⟨hw, w4⟩ := and_split hw
  obtain ⟨hw, w3⟩ := and_split hw
  obtain ⟨w1, w2⟩ := and_split hw
  obtain ⟨i, e1, e2, e3, e4⟩ := nameB_ok cx.n w1
  obtain ⟨q1, q2, q3⟩ := plainB_ok w2
  obtain ⟨gz, mz⟩ := blt_of cx w4 w5
  obtain ⟨gr, mr⟩ := blt_of cx w6 w7
  obtain ⟨gt, mt⟩ := blt_of cx w8 w9
  have hst := wfA_star n w12
  have hst' : noStar z.a = true ∧ noStar z.b = true := by simpa using hst
  obtain ⟨elts, kk, tpos, htg⟩ : ∃ elts kk tpos, z.tg = .Tuple elts kk tpos := by
    revert w15
    cases z.tg with
    | Tuple a b c => exact fun _ => ⟨_, _, _, rfl⟩
    | _ => exact fun h => by cases h
  have paR : PA X [z.r] _ := pa_cons ((sound n).e X k W cx tk (List.range N.length) z.r w10) pa_nil (starEach_cons w11)
  have peR := pe_rangeO (p := p3) (pos := p4) gr mr paR (starEach_cons w11)
  have paZ := pa_cons peR ((sound n).a X k W cx tk (List.range N.length) [z.a, z.b] w12) (starEach_cons rfl)
  have peZ := pe_zip3 (p := p2) (pos := p5) gz mz paZ (starEach_cons rfl) (starEach_none (by simpa using hst'))
  have ps1 := ps_set (pos' := p1) (pos := p6) cx.nd e3 e4 peZ rfl (.inl (cs.fn z.x))
  have peL := pe_lc (own := ownPairs N z.sc) (scope := z.sc) (pos := p9) (elt := z.elt) (ifs := z.ifs) (g := gTg N z.tg X.K) (tt := tIfs P call N X (fun _ _ _ _ => False) (ownSlots N z.sc ++ List.range N.length) n z.ifs) (te := tE P call N X (fun _ _ _ _ => False) (ownSlots N z.sc ++ List.range N.length) n z.elt) cx.calm cx.nd
    (pi_kept (X := X) (tg := z.tg) (k := i) (x := z.x) (p := p8) e3 (visB_ok w3) q1 q2) (by rw [cx.n]; exact blkOk_by w13)
    (fun s H C cl fp => pg_tg (X := X.blk s H z.sc (compEnvC z.sc cl C X.env) fp) cx.calm cx.n cx.nd (fun x h => h) w14)
    (fun s H C cl fp => (sound n).ifs (X.blk s H z.sc (compEnvC z.sc cl C X.env) fp) k _ (cx.blk s H z.sc cl C fp) takes0 _ z.ifs w17)
    (fun s H C cl fp => (sound n).e (X.blk s H z.sc (compEnvC z.sc cl C X.env) fp) k _ (cx.blk s H z.sc cl C fp) takes0 _ z.elt w16)
    (fun x => rfl)
  have peT := pe_callTy (p := p7) (pos := p10) (builtinT_ok cx.calm "tuple") gt mt (boot_types "tuple" (by decide)) (pa_cons peL pa_nil (starEach_cons rfl)) (by decide) (by decide) (starEach_cons rfl) rfl
  refine PSs.imp (pss_cons ps1 (pss_cons (ps_ret (pos := p11) peT) pss_nil)) fun D σ H q => ?_
  obtain ⟨ρ, own, s, h⟩ := q
  unfold denSs at h
  simp only [hz, e1] at h
  by_cases hh : hardB P (.Assign [.Name z.x p1] (.Call (.Name (Str.ofString "zip") p2) [.Call (.Name (Str.ofString "range") p3) [z.r] [] p4, z.a, z.b] [] p5) p6) = true
  · rw [if_pos hh] at h; exact h.elim
  rw [if_neg hh] at h
  have h1 := SPost.lift s h
  have at0 := s.at (List.range N.length)
  refine tE.of at0 h1.bind fun zv hzv x H1 s1 rx _ => ?_
  cases rx with
  | int j =>
    have hzv : Post X W σ H (R.bind (denA P call N n [z.a, z.b] ρ) (zip3 j)) _ := hzv
    refine ⟨j, rfl, fun rg hrg => tA.of (at0.same (s1.trans (same_upd hrg))) ((hzv.bind.same (s1.trans (same_upd hrg)))) fun zs hzs vs H2 s2 rs => ?_⟩
    obtain ⟨xs, ex, hq⟩ := hzs.pure zip3_exc
    have s02 : Same H H2 := (s1.trans (same_upd hrg)).trans s2
    unfold zip3 at ex
    split at ex
    · rename_i xs0 ys0
      unfold need at ex
      split at ex
      · rename_i hsm
        cases ex
        obtain ⟨v, w', rfl, r1, r2⟩ := reps2 rs
        cases r1 with
        | tup sq1 rs1 =>
          cases r2 with
          | tup sq2 rs2 =>
            rename_i a1 vs1 a2 vs2
            refine ⟨rg, _, _, j, _, _, rfl, s2 _ _ upd_same, hsm.1, hsm.2, sq1, sq2, fun hlen zz cells H3 hk => ?_⟩
            cases hc : R.calm (compLoop (fun x => R.bind (bindTg N z.tg x (wipes (ρ.set i none) (ownSlots N z.sc))) fun ρ' => R.bind (denIfs P call N n z.ifs ρ') fun k => if k = true then R.bind (denE P call N n z.elt ρ') fun y => .ok (some y) else .ok none) (zip3L j.toNat xs0 ys0)) with
            | stuck => rw [hc] at hq; exact hq.elim
            | exc c fs =>
              exfalso
              revert hc
              generalize compLoop _ (zip3L j.toNat xs0 ys0) = zc
              intro hc
              cases zc <;> cases hc
            | ok ys =>
              rw [hc] at hq
              have hc := calm_ok hc
              have hq : SPost X N W Hd H0 Mu D H own (.ret (.tup ys) true) := hq
              have hlσ : i < σ.length := by rw [s.lnσ]; exact e2
              have at2 : At X.K N (view X.K Hd own (List.range N.length)) H2 (σ.set i (some (.ref zz))) (ρ.set i none) (List.range N.length) := by
                refine ⟨rfl, by rw [List.length_set]; exact s.ln, (at0.same s02).al, fun jj v hj e => ?_, at0.nx⟩
                by_cases ej : jj = i
                · subst ej
                  rw [List.getElem?_set_self (by rw [s.ln]; exact e2)] at e
                  cases e
                · rw [List.getElem?_set_ne (Ne.symm ej)] at e
                  obtain ⟨w2, f1, f2⟩ := (at0.same s02).vis jj v hj e
                  exact ⟨w2, by rw [List.getElem?_set_ne (Ne.symm ej)]; exact f1, f2⟩
              have l1 := rs1.length
              have hlen' : (zip3L j.toNat xs0 ys0).length ≤ sizeLine := by
                have : (zip3L j.toNat xs0 ys0).length = min j.toNat (min xs0.length ys0.length) := by simp [zip3L]
                omega
              refine ⟨zz, cells, Itz3 X.K j.toNat _ _, H2, List.getElem?_set_self hlσ, by rw [htg]; exact hk elts kk tpos, lc_go (sc2 := relS z.sc X.env.scope) (Q := fun x H1 => okCall X.K (builtinT "tuple") [x] H1 D.rt) w14 at2 (Same.refl H2) (it_zip3 sq1 rs1 sq2 rs2) hlen' hc fun v H4 s4 rv _ => ?_⟩
              refine ⟨view X.K Hd own (List.range N.length), [.lst ys], .tup ys, rfl, (at2.same s4).al, .cons rv .nil, rfl, fun w5 H5 s5 r5 _ => ?_⟩
              exact hq w5 H5 (((s.same.trans s02).trans s4).trans s5) (view_hv r5) fun _ zz => by cases zz
      · cases ex
    · cases ex
  | _ => exact hzv.elim
end
end PyV
set_option Elab.async false
set_option linter.all false
set_option maxRecDepth 100000
set_option maxHeartbeats 1000000
/-! Layer PyV, part 8o: a, b = x, []: the new list is a slot's own. -/
namespace PyV
open PySem PySem.Spec PyProof.Rows L2
def obO : PV := .ob "" []
def Rc.own (K : PySem.W.Frag) (S : Addr → Prop) (p : Addr) : Rc := ⟨K, fun b => S b ∨ b = p, fun a x => a = p ∧ x = obO⟩
theorem ownEx {K : PySem.W.Frag} {S : Addr → Prop} {p : Addr} : (Rc.own K S p).Ex p obO := ⟨rfl, rfl⟩
section
variable {N : List Str}
theorem bind_away : ∀ {es : List Expr} {xs : List PV} {ρ ρ' : Env} {i : Nat} {a : Option (PV × Bool)}, some i ∉ tnames N es → bindNames N es xs ρ = .ok ρ' → bindNames N es xs (ρ.set i a) = .ok (ρ'.set i a)
  | [], xs, ρ, ρ', i, a, _, h => by
    cases xs with
    | nil => cases h; rfl
    | cons => cases h
  | e :: es, xs, ρ, ρ', i, a, hn, h => by
    cases xs with
    | nil => cases e <;> cases h
    | cons v vs =>
      cases e with
      | Name x p =>
        have h : (match slotOf N x with
          | some j => bindNames N es vs (ρ.set j (some (v, false)))
          | none => .stuck) = .ok ρ' := h
        show (match slotOf N x with
          | some j => bindNames N es vs ((ρ.set i a).set j (some (v, false)))
          | none => .stuck) = .ok (ρ'.set i a)
        cases e : slotOf N x with
        | none => rw [e] at h; cases h
        | some j =>
          rw [e] at h
          have hj : i ≠ j := fun z => hn (by rw [z, ← e]; exact List.mem_cons_self)
          show bindNames N es vs ((ρ.set i a).set j (some (v, false))) = _
          rw [List.set_comm _ _ hj]
          exact bind_away (fun z => hn (List.mem_cons_of_mem _ z)) h
      | _ => cases h
theorem bind_swap : ∀ {es : List Expr} {xs : List PV} {k i : Nat} {z : PV} {ρ ρ' : Env}, (tnames N es)[k]? = some (some i) → some i ∉ (tnames N es).eraseIdx k → bindNames N es xs ρ = .ok ρ' → bindNames N es (xs.set k z) ρ = .ok (ρ'.set i (some (z, false)))
  | [], xs, k, i, z, ρ, ρ', hk, _, h => by cases hk
  | e :: es, xs, k, i, z, ρ, ρ', hk, hn, h => by
    cases xs with
    | nil => cases e <;> cases h
    | cons v vs =>
      cases e with
      | Name x p =>
        have h : (match slotOf N x with
          | some j => bindNames N es vs (ρ.set j (some (v, false)))
          | none => .stuck) = .ok ρ' := h
        cases e : slotOf N x with
        | none => rw [e] at h; cases h
        | some j =>
          rw [e] at h
          cases k with
          | zero =>
            have hk : some (slotOf N x) = some (some i) := hk
            rw [e] at hk
            cases hk
            show (match slotOf N x with
              | some j => bindNames N es vs (ρ.set j (some (z, false)))
              | none => .stuck) = _
            rw [e]
            have hn : some i ∉ tnames N es := hn
            have w := bind_away (a := some (z, false)) hn h
            rw [List.set_set] at w
            exact w
          | succ k =>
            show (match slotOf N x with
              | some j => bindNames N es (vs.set k z) (ρ.set j (some (v, false)))
              | none => .stuck) = _
            rw [e]
            exact bind_swap (k := k) hk (fun w => hn (List.mem_cons_of_mem _ w)) h
      | _ => cases h
theorem tslots_names : ∀ (ts : List Expr) (i : Nat), i ∈ ts.flatMap (tslots1 N) ↔ some i ∈ tnames N ts
  | [], i => by simp [tnames]
  | t :: ts, i => by
    rw [List.flatMap_cons, List.mem_append, tslots_names ts i]
    show _ ↔ some i ∈ (match t with | .Name x _ => slotOf N x | _ => none) :: tnames N ts
    rw [List.mem_cons]
    refine or_congr ?_ Iff.rfl
    cases t with
    | Name x p =>
      show i ∈ (slotOf N x).toList ↔ some i = slotOf N x
      cases slotOf N x with
      | none => simp
      | some j =>
        simp
    | _ => exact ⟨fun h => (by cases h), fun h => (by cases h)⟩
end
theorem reps_swap {r r' : Rc} {H : Hp} (st : Stills r H r' H) {p : Addr} (hx : r'.Ex p obO) : ∀ {vs : List V} {zs : List PV} {k : Nat}, Reps r H vs zs → vs[k]? = some (.ref p) → arePure (zs.eraseIdx k) = true → Reps r' H vs (zs.set k obO)
  | _, _, _, .nil, h, _ => by cases h
  | v :: vs, z :: zs, 0, .cons h t, hk, hp => by
    have hk : some v = some (.ref p) := hk
    cases hk
    exact .cons (.ob hx) (Reps.pure st _ _ hp t)
  | v :: vs, z :: zs, k + 1, .cons h t, hk, hp => by
    obtain ⟨h1, h2⟩ := and_split (show (isPure z && arePure (zs.eraseIdx k)) = true from hp)
    exact .cons (Rep.pure st _ _ h1 h) (reps_swap st hx t hk h2)
section
variable {K : PySem.W.Frag} {N : List Str} {Hd : Addr → Prop} {H0 H H1 : Hp} {σ σ' : L2.St} {ρ ρ2 : Env} {own : Nat → Option Addr}
theorem SI.boundOwn (s : SI K N Hd H0 H σ ρ own) (g : Same H H1) {ts : List Nat} {i : Nat} {p : Addr} {ws : List V} {xs : List PV} (hp : H p = none) (hl : H1 p = some (.lst ws)) (hxs : ∀ r' : Rc, r'.K = K → Reps r' H1 ws xs) (hi : i ∈ ts) (hil : i < ρ.length)
    (b : Bound (Rc.own K (view K Hd own []).S p) H1 ts σ ρ σ' ρ2) (hb : ρ2[i]? = some (some (obO, false))) (pu : ∀ j ∈ ts, j ≠ i → ∀ v, ρ2[j]? = some (some v) → isPure v.1 = true) :
    SI K N Hd H0 H1 σ' (ρ2.set i (some (.lst xs, true))) (fun j => if j = i then some p else without own ts j) ∧ Step [] H own H1 (fun j => if j = i then some p else without own ts j) := by
  have hne : ∀ {j a}, own j = some a → a ≠ p := fun h e => by
    obtain ⟨_, _, _, _, o⟩ := s.own1 _ _ h
    obtain ⟨u, e1, _⟩ := o.there
    rw [e, hp] at e1; cases e1
  have kp : Keeps (view K Hd own []) H (view K Hd (fun j => if j = i then some p else without own ts j) []) H1 := by
    refine ⟨rfl, fun b o h _ => g b o h, fun b o e n z => n (z.imp (fun h => h) fun ⟨j, h, _⟩ => ?_), fun _ _ h => h⟩
    by_cases ej : j = i
    · simp only [ej, if_true] at h; cases h; rw [hp] at e; cases e
    · simp only [if_neg ej] at h; exact ⟨j, (without_some h).1, fun z => by cases z⟩
  have st : Stills (Rc.own K (view K Hd own []).S p) H1 (view K Hd (fun j => if j = i then some p else without own ts j) []) H1 := ⟨rfl, fun _ _ h _ => h⟩
  have l2 : i < ρ2.length := by rw [b.lenρ]; exact hil
  refine ⟨⟨by rw [List.length_set, b.lenρ]; exact s.ln, b.len.trans s.lnσ, s.al0, s.same.trans g, fun j a h => ?_, fun j l a h1 h2 => ?_, fun j x fl e hn => ?_, fun j x e => ?_⟩, fun b o h _ => g b o h, fun j a h => ?_, fun b h => ?_⟩
  · by_cases ej : j = i
    · subst ej
      simp only [if_true] at h
      cases h
      obtain ⟨_, w, e1, q⟩ := b.in_ j hi _ hb
      have hw : w = .ref p := by
        cases q with
        | ob hx => rw [hx.1]
      subst hw
      exact ⟨s.same.free hp, .lst xs, List.getElem?_set_self l2, e1, .lst hl (hxs _ rfl)⟩
    · simp only [if_neg ej] at h
      obtain ⟨h1, h2⟩ := without_some h
      obtain ⟨h0, x, e1, e2, o⟩ := s.own1 j a h1
      obtain ⟨o1, o2⟩ := b.out j h2
      exact ⟨h0, x, by rw [List.getElem?_set_ne (Ne.symm ej), o2]; exact e1, by rw [o1]; exact e2, o.keep kp fun u hu => g _ _ hu⟩
  · by_cases ej : j = i <;> by_cases el : l = i
    · rw [ej, el]
    · simp only [ej, if_true] at h1; simp only [if_neg el] at h2; cases h1; exact absurd rfl (hne (without_some h2).1)
    · simp only [if_neg ej] at h1; simp only [el, if_true] at h2; cases h2; exact absurd rfl (hne (without_some h1).1)
    · simp only [if_neg ej] at h1; simp only [if_neg el] at h2; exact s.inj j l a (without_some h1).1 (without_some h2).1
  · by_cases ej : j = i
    · simp only [ej, if_true] at hn; cases hn
    · simp only [if_neg ej] at hn
      rw [List.getElem?_set_ne (Ne.symm ej)] at e
      by_cases hj : j ∈ ts
      · obtain ⟨_, w, e1, q⟩ := b.in_ j hj _ e
        exact ⟨w, e1, Rep.pure st _ _ (pu j hj ej _ e) q⟩
      · obtain ⟨o1, o2⟩ := b.out j hj
        rw [o2] at e
        rcases without_none hn with h | h
        · obtain ⟨w', e1, q'⟩ := s.slot j x fl e h
          exact ⟨w', by rw [o1]; exact e1, Rep.keep kp _ _ q'⟩
        · exact absurd h hj
  · by_cases ej : j = i
    · simp only [ej, if_true]; exact fun z => by cases z
    · simp only [if_neg ej]
      rw [List.getElem?_set_ne (Ne.symm ej)] at e
      by_cases hj : j ∈ ts
      · exact absurd (b.in_ j hj _ e).1 (by simp)
      · obtain ⟨o1, o2⟩ := b.out j hj
        rw [o2] at e
        unfold without
        rw [if_neg (by simpa using hj)]
        exact s.flag j x e
  · by_cases ej : j = i
    · simp only [ej, if_true] at h; cases h; exact .inr hp
    · simp only [if_neg ej] at h; exact .inl (without_some h).1
  · cases e : H b with
    | none => exact absurd e h
    | some o => rw [g _ _ e]; exact fun z => by cases z
end
/-! ### the parts of a display, its new empty lists told -/
section
variable {P : Prog} {call : Str → List PV → R PV} {N : List Str} {M : Nat} {X : Cx} {k : Nat} {W : WX} {Hd : Addr → Prop} {H0 : Hp} {n : Nat} {Mu : List Nat}
def tAO (P : Prog) (call : Str → List PV → R PV) (N : List Str) (X : Cx) (W : WX) (I : List Nat) (n : Nat) (es : List Expr) : TA := fun σ H Q => ∃ r ρ, At X.K N r H σ ρ I ∧ Post X W σ H (denA P call N n es ρ) fun (zs : List PV) => ∀ (vs : List V) (H' : Hp), Same H H' → Reps r H' vs zs →
  (∀ k : Nat, (es[k]?).any isNewL = true → ∀ xs, zs[k]? = some (PV.lst xs) → ∃ p ws, ∃ r0 : Rc, vs[k]? = some (V.ref p) ∧ H p = none ∧ H' p = some (HO.lst ws) ∧ r0.K = X.K ∧ Reps r0 H' ws xs) → Q vs H'
theorem new_fresh {e : Expr} (h : isNewL e = true) : freshE P e = true := by
  unfold isNewL at h
  split at h
  · rfl
  · rfl
  · cases h
theorem pa_own (cx : Ctx P call N X k) (tk : Takes X W) {I : List Nat} : ∀ (es : List Expr) (n : Nat), wfA P N n X.env.scope I es = true → PA X es (tAO P call N X W I n es)
  | [], 0, h => by cases h
  | [], n + 1, _ => ⟨fun pos pins s σ H Q I0 q => pa_nil.run pos pins s σ H Q I0 (by
      obtain ⟨r, ρ, at_, h⟩ := q
      exact h [] H (Same.refl _) .nil fun k hk => (by cases k <;> cases hk))⟩
  | e :: es, 0, h => by cases h
  | e :: es, n + 1, h => by
    obtain ⟨h1, h2⟩ := and_split (show (wfE P N n X.env.scope I e && noStar e && wfA P N n X.env.scope I es) = true from h)
    obtain ⟨h1, hst⟩ := and_split h1
    refine (pa_cons ((sound n).e X k W cx tk I e h1) (pa_own cx tk es n h2) (starEach_cons hst)).imp fun σ H Q q => ?_
    obtain ⟨r, ρ, at_, h⟩ := q
    have h : Post X W σ H (R.bind (denE P call N n e ρ) fun v => R.bind (denA P call N n es ρ) fun vs => .ok (v :: vs)) (fun (zs : List PV) => ∀ (vs : List V) (H' : Hp), Same H H' → Reps r H' vs zs →
      (∀ k : Nat, ((e :: es)[k]?).any isNewL = true → ∀ xs, zs[k]? = some (PV.lst xs) → ∃ p ws, ∃ r0 : Rc, vs[k]? = some (V.ref p) ∧ H p = none ∧ H' p = some (HO.lst ws) ∧ r0.K = X.K ∧ Reps r0 H' ws xs) → Q vs H') := h
    refine ⟨r, ρ, at_, h.bind.monoOk fun z ez hz => fun v H1 s1 rv f => ?_⟩
    refine ⟨r, ρ, at_.same s1, (hz.bind.same s1).mono fun zs hzs => fun vs H2 s2 rs hk => ?_⟩
    refine hzs (v :: vs) H2 (s1.trans s2) (.cons (rv.same s2) rs) fun j hj => ?_
    intro xs hxs
    cases j with
    | zero =>
      have hj : isNewL e = true := by simpa using hj
      have e1 : z = .lst xs := by simpa using hxs
      subst e1
      obtain ⟨p, ep, hp, hx⟩ := f (new_fresh hj) rfl
      obtain ⟨ws, e3, rw'⟩ := hx xs rfl
      exact ⟨p, ws, r.plus p, by rw [ep]; rfl, hp, s2 _ _ e3, at_.k, rw'.same s2⟩
    | succ j =>
      obtain ⟨p, ws, r0, q1, q2, q3, q4, q5⟩ := hk j hj xs hxs
      exact ⟨p, ws, r0, q1, s1.free q2, q3, q4, q5⟩
theorem nil_new {e : Expr} (h : isNilL e = true) : isNewL e = true := by
  unfold isNilL at h
  split at h
  · rfl
  · cases h
theorem newIx_ok {es : List Expr} {k : Nat} (h : newIx es = some k) : (es[k]?).any isNewL = true := by
  unfold newIx at h
  split at h
  · rename_i k' ek
    cases h
    obtain ⟨hl, hp, _⟩ := List.findIdx?_eq_some_iff_getElem.mp ek
    rw [List.getElem?_eq_getElem hl]
    exact nil_new hp
  · obtain ⟨hl, hp, _⟩ := List.findIdx?_eq_some_iff_getElem.mp h
    rw [List.getElem?_eq_getElem hl]
    exact hp
theorem ownTgt_ok {ts es : List Expr} {j : Nat} {q : Pos} {k i : Nat} (h : ownTgt N ts (.Tuple es j q) = some (k, i)) : (es[k]?).any isNewL = true ∧ (tnames N ts)[k]? = some (some i) ∧ some i ∉ (tnames N ts).eraseIdx k := by
  unfold ownTgt at h
  simp only at h
  split at h
  · rename_i k' ek
    split at h
    · rename_i i' ei
      split at h
      · cases h
      · rename_i hn
        cases h
        exact ⟨newIx_ok ek, ei, fun z => hn (by simpa using z)⟩
    · cases h
  · cases h
theorem unpackOwn_ok {ts : List Expr} {k i : Nat} {zs : List PV} {ρ ρ' ρ2 : Env} (h : unpackOwn N ts k i (.tup zs) ρ ρ' = some ρ2) : arePure (zs.eraseIdx k) = true ∧ (∀ j, some j ∈ tnames N ts → j ≠ i → pureAt ρ' j = true) ∧ i < ρ.length ∧ ∃ xs, zs[k]? = some (.lst xs) ∧ arePure xs = true ∧ ρ2 = ρ'.set i (some (.lst xs, true)) := by
  unfold unpackOwn at h
  simp only at h
  split at h
  · rename_i xs ek
    split at h
    · rename_i c
      obtain ⟨c, c3⟩ := and_split c
      obtain ⟨c, c2⟩ := and_split c
      obtain ⟨c1, c4⟩ := and_split c
      cases h
      refine ⟨c1, fun j hj hn => ?_, of_decide_eq_true c3, xs, ek, c4, rfl⟩
      have := List.all_eq_true.mp c2 (some j) hj
      simpa [hn] using this
    · cases h
  · cases h
/-- what is had behind the stores -/
theorem own_end {own : Nat → Option Addr} {H H1 H2 : Hp} {σ : L2.St} {ρ ρ' : Env} {ts : List Expr} {i k : Nat} {vs : List V} {zs : List PV} (s : SI X.K N Hd H0 H σ ρ own) (g : Same H H2) (g12 : Same H1 H2) (ht : (tnames N ts)[k]? = some (some i))
    (hk : ∀ xs, zs[k]? = some (PV.lst xs) → ∃ p ws, ∃ r0 : Rc, vs[k]? = some (V.ref p) ∧ H p = none ∧ H1 p = some (HO.lst ws) ∧ r0.K = X.K ∧ Reps r0 H1 ws xs)
    {ρ2 : Env} (h : unpackOwn N ts k i (.tup zs) ρ ρ' = some ρ2) (hlen : ρ'.length = ρ.length) :
    ∃ p, vs[k]? = some (V.ref p) ∧ (∀ σ', Bound (Rc.own X.K (view X.K Hd own []).S p) H2 (ts.flatMap (tslots1 N)) σ ρ σ' (ρ'.set i (some (obO, false))) → ∃ own2, SI X.K N Hd H0 H2 σ' ρ2 own2 ∧ Step [] H own H2 own2) := by
  obtain ⟨_, u2, u3, xs, u4, u5, rfl⟩ := unpackOwn_ok h
  obtain ⟨p, ws, r0, q1, q2, q3, q4, q5⟩ := hk xs u4
  refine ⟨p, q1, fun σ' b => ?_⟩
  have hm : some i ∈ tnames N ts := List.mem_of_getElem? ht
  have q6 : Reps r0 H2 ws xs := q5.same g12
  have z := s.boundOwn (xs := xs) g q2 (g12 _ _ q3) (fun r' hr' => Reps.pure (r := r0) (r' := r') ⟨hr'.trans q4.symm, fun _ _ h _ => h⟩ _ _ u5 q6) ((tslots_names ts i).mpr hm) u3 b (List.getElem?_set_self (by rw [hlen]; exact u3)) fun j hj hn v e => by
    rw [List.getElem?_set_ne (Ne.symm hn)] at e
    have := u2 j ((tslots_names ts j).mp hj) hn
    unfold pureAt at this
    rw [e] at this
    exact this
  rw [List.set_set] at z
  exact ⟨_, z⟩
theorem t_unpackO (cx : Ctx P call N X k) (cs : CtxS P X) (tk : Takes X W) {ts es : List Expr} {j j2 : Nat} {q q2 p : Pos} {ki : Nat × Nat} (ho : ownTgt N ts (.Tuple es j2 q2) = some ki) (hx : targetsB N X.env.scope (fun _ => true) (List.range N.length) (.Tuple ts j q) = true) (he : wfE P N n X.env.scope (slotsE N n (.Tuple es j2 q2)) (.Tuple es j2 q2) = true)
    (hw : swappedStores [.Tuple ts j q] (.Tuple es j2 q2) X.env = pure none) (h1 : (assignEach [.Tuple ts j q] X.env).map (·.2) = [assign (.Tuple ts j q) X.env]) :
    PS X (.Assign [.Tuple ts j q] (.Tuple es j2 q2) p) (SJ X N W Hd H0 Mu (denS P call N M (n + 1) (.Assign [.Tuple ts j q] (.Tuple es j2 q2) p))) := by
  obtain ⟨kk, i⟩ := ki
  obtain ⟨o1, o2, o3⟩ := ownTgt_ok ho
  cases n with
  | zero => cases he
  | succ m =>
    obtain ⟨he1, hel⟩ := and_split (show (wfA P N m X.env.scope (slotsE N (m + 1) (.Tuple es j2 q2)) es && decide (es.length ≤ line)) = true from he)
    refine (ps_asg (pe_tup (pa_own cx tk es m he1)) (pg_t (fb := fun _ => true) cx.calm cx.n cx.nd (fun x _ => cs.fn x) hx) (swap_tuple (X := X) (e := .Tuple es j2 q2) (ts := ts) (j := j) (p := q) (l := p.line)) hw h1).imp fun D σ H q' => ?_
    obtain ⟨ρ, own, s, h⟩ := q'
    have h : SPost X N W Hd H0 Mu D H own (liftR ρ (R.bind (denA P call N m es ρ) fun vs => .ok (.tup vs)) fun v => match (ownTgt N ts (.Tuple es j2 q2)).bind fun ki => match bindTo N (.Tuple ts j q) v ρ with | .ok ρ' => unpackOwn N ts ki.1 ki.2 v ρ ρ' | _ => none with
      | some ρ2 => .nx ρ2
      | none => liftR ρ (bindTo N (.Tuple ts j q) v (settle false v (slotsE N (m + 1) (.Tuple es j2 q2)) ρ)) .nx) := h
    rw [ho] at h
    refine ⟨_, ρ, s.at _, (SPost.lift s h).bind.monoOk fun zs ez hz vs H1 s1 rs hk => ⟨?_, fun t nt => ?_⟩⟩
    · rw [rs.length, denA_len m es ρ zs ez, ← line_eq]; exact of_decide_eq_true hel
    · have hz : SPost X N W Hd H0 Mu D H own (match (match bindTo N (.Tuple ts j q) (.tup zs) ρ with | .ok ρ' => unpackOwn N ts kk i (.tup zs) ρ ρ' | _ => none) with
        | some ρ2 => .nx ρ2
        | none => liftR ρ (bindTo N (.Tuple ts j q) (.tup zs) (settle false (.tup zs) (slotsE N (m + 1) (.Tuple es j2 q2)) ρ)) .nx) := hz
      have s2 : Same H (upd H1 t (.tup vs)) := s1.trans (same_upd nt)
      cases hu : (match bindTo N (.Tuple ts j q) (.tup zs) ρ with | .ok ρ' => unpackOwn N ts kk i (.tup zs) ρ ρ' | _ => none) with
      | none =>
        rw [hu] at hz
        have r : Rep (view X.K Hd own (slotsE N (m + 1) (.Tuple es j2 q2))) (upd H1 t (.tup vs)) (.ref t) (.tup zs) := .tup (SqT.of upd_same) (rs.same (same_upd nt))
        obtain ⟨own', s', r', st⟩ := pass_settle (fl := false) s s2 r (fun z => by cases z)
        cases hb : bindTo N (.Tuple ts j q) (.tup zs) (settle false (.tup zs) (slotsE N (m + 1) (.Tuple es j2 q2)) ρ) with
        | ok ρ' =>
          simp only [hb] at hz
          refine ⟨_, .tup zs, _, ρ', rfl, r', s'.ln, hb, fun σ' b => ?_⟩
          exact hz σ' _ _ (s'.bound b) ((st.more fun _ h => by cases h).trans Step.without)
        | exc c fs => exact absurd hb (bindTo_exc _ _)
        | stuck => simp only [hb] at hz; exact hz.elim
      | some ρ2 =>
        rw [hu] at hz
        cases hb : bindTo N (.Tuple ts j q) (.tup zs) ρ with
        | ok ρ' =>
          rw [hb] at hu
          have hu : unpackOwn N ts kk i (.tup zs) ρ ρ' = some ρ2 := hu
          have hb : bindNames N ts zs ρ = .ok ρ' := hb
          have hlen := bindNames_lenρ hb
          obtain ⟨pa, k1, kend⟩ := own_end (σ := σ) s s2 (same_upd nt) o2 (hk kk o1) hu hlen
          have rr : Reps (Rc.own X.K (view X.K Hd own []).S pa) H1 vs (zs.set kk obO) := reps_swap (r := view X.K Hd own (slotsE N (m + 1) (.Tuple es j2 q2))) (r' := Rc.own X.K (view X.K Hd own []).S pa) ⟨rfl, fun _ _ h _ => h⟩ ownEx rs k1 (unpackOwn_ok hu).1
          refine ⟨Rc.own X.K (view X.K Hd own []).S pa, .tup (zs.set kk obO), ρ, ρ'.set i (some (obO, false)), rfl, .tup (SqT.of upd_same) (rr.same (same_upd nt)), s.ln, bind_swap o2 o3 hb, fun σ' b => ?_⟩
          obtain ⟨own2, g1, g2⟩ := kend σ' b
          exact hz σ' _ own2 g1 (g2.more fun _ h => by cases h)
        | exc c fs => rw [hb] at hu; cases hu
        | stuck => rw [hb] at hu; cases hu
theorem t_par2O (cx : Ctx P call N X k) (cs : CtxS P X) (tk : Takes X W) {x y : Str} {px py q q2 p : Pos} {j j2 : Nat} {a b : Expr} {i1 i2 : Nat} {ki : Nat × Nat} (ho : ownTgt N [.Name x px, .Name y py] (.Tuple [a, b] j2 q2) = some ki) (e1 : slotOf N x = some i1) (e2 : slotOf N y = some i2) (hij : i1 ≠ i2)
    (hx : X.env.scope.names.lookup x = some .local) (hy : X.env.scope.names.lookup y = some .local) (he : wfE P N n X.env.scope (slotsE N n (.Tuple [a, b] j2 q2)) (.Tuple [a, b] j2 q2) = true)
    (hw : swappedStores [.Tuple [.Name x px, .Name y py] j q] (.Tuple [a, b] j2 q2) X.env = pure (some [x, y])) :
    PS X (.Assign [.Tuple [.Name x px, .Name y py] j q] (.Tuple [a, b] j2 q2) p) (SJ X N W Hd H0 Mu (denS P call N M (n + 1) (.Assign [.Tuple [.Name x px, .Name y py] j q] (.Tuple [a, b] j2 q2) p))) := by
  obtain ⟨kk, i⟩ := ki
  obtain ⟨o1, o2, o3⟩ := ownTgt_ok ho
  cases n with
  | zero => cases he
  | succ m =>
    obtain ⟨he1, _⟩ := and_split he
    refine (ps_par cx.calm cx.nd (by rw [cx.n]; exact slotOf_get e1) (by rw [cx.n]; exact slotOf_get e2) hij hx hy (pa_own cx tk [a, b] m he1) hw).imp fun D σ H q' => ?_
    obtain ⟨ρ, own, s, h⟩ := q'
    have h : SPost X N W Hd H0 Mu D H own (liftR ρ (R.bind (denA P call N m [a, b] ρ) fun vs => .ok (.tup vs)) fun v => match (ownTgt N [.Name x px, .Name y py] (.Tuple [a, b] j2 q2)).bind fun ki => match bindTo N (.Tuple [.Name x px, .Name y py] j q) v ρ with | .ok ρ' => unpackOwn N [.Name x px, .Name y py] ki.1 ki.2 v ρ ρ' | _ => none with
      | some ρ2 => .nx ρ2
      | none => liftR ρ (bindTo N (.Tuple [.Name x px, .Name y py] j q) v (settle false v (slotsE N (m + 1) (.Tuple [a, b] j2 q2)) ρ)) .nx) := h
    rw [ho] at h
    refine ⟨_, ρ, s.at _, (SPost.lift s h).bind.monoOk fun zs ez hz vs H1 s1 rs hk => ?_⟩
    have hl := denA_len m _ _ _ ez
    match zs, vs, hl, rs, hz, hk with
    | [z1, z2], [v1, v2], _, rs, hz, hk =>
      refine ⟨v1, v2, rfl, ?_⟩
      have hbb : ∀ ρ : Env, ∀ z1 z2, bindTo N (.Tuple [.Name x px, .Name y py] j q) (.tup [z1, z2]) ρ = .ok ((ρ.set i1 (some (z1, false))).set i2 (some (z2, false))) := fun ρ z1 z2 => by
        show (match slotOf N x with
          | some i => match slotOf N y with
            | some i' => R.ok ((ρ.set i (some (z1, false))).set i' (some (z2, false)))
            | none => .stuck
          | none => .stuck) = _
        rw [e1, e2]
      have hz : SPost X N W Hd H0 Mu D H own (match (match bindTo N (.Tuple [.Name x px, .Name y py] j q) (.tup [z1, z2]) ρ with | .ok ρ' => unpackOwn N [.Name x px, .Name y py] kk i (.tup [z1, z2]) ρ ρ' | _ => none) with
        | some ρ2 => .nx ρ2
        | none => liftR ρ (bindTo N (.Tuple [.Name x px, .Name y py] j q) (.tup [z1, z2]) (settle false (.tup [z1, z2]) (slotsE N (m + 1) (.Tuple [a, b] j2 q2)) ρ)) .nx) := hz
      rw [hbb, hbb] at hz
      simp only at hz
      cases hu : unpackOwn N [.Name x px, .Name y py] kk i (.tup [z1, z2]) ρ ((ρ.set i1 (some (z1, false))).set i2 (some (z2, false))) with
      | none =>
        rw [hu] at hz
        obtain ⟨own', s', r', st⟩ := pass_settles s s1 rs
        cases r' with
        | cons q1 r' =>
          cases r' with
          | cons q2 _ =>
            have b1 := Bound.one (i := i1) (by rw [s'.lnσ, s'.ln]) q1
            have b2 := Bound.one (σ := σ.set i1 (some v1)) (ρ := (settle false (.tup [z1, z2]) (slotsE N (m + 1) (.Tuple [a, b] j2 _)) ρ).set i1 (some (z1, false))) (i := i2) (by rw [List.length_set, List.length_set, s'.lnσ, s'.ln]) q2
            exact hz _ H1 _ (s'.bound (b1.trans b2)) ((st.more fun _ h => by cases h).trans Step.without)
      | some ρ2 =>
        rw [hu] at hz
        obtain ⟨pa, k1, kend⟩ := own_end (ts := [.Name x px, .Name y py]) (σ := σ) s s1 (Same.refl _) o2 (hk kk o1) hu (by simp)
        have rr : Reps (Rc.own X.K (view X.K Hd own []).S pa) H1 [v1, v2] ([z1, z2].set kk obO) := reps_swap (r := view X.K Hd own (slotsE N (m + 1) (.Tuple [a, b] j2 q2))) (r' := Rc.own X.K (view X.K Hd own []).S pa) ⟨rfl, fun _ _ h _ => h⟩ ownEx rs k1 (unpackOwn_ok hu).1
        have hb0 : bindNames N [.Name x px, .Name y py] [z1, z2] ρ = .ok ((ρ.set i1 (some (z1, false))).set i2 (some (z2, false))) := hbb ρ z1 z2
        have hb1 := bind_swap (z := obO) o2 o3 hb0
        obtain ⟨y1, y2, ey⟩ : ∃ y1 y2, [z1, z2].set kk obO = [y1, y2] := by
          match kk with
          | 0 => exact ⟨_, _, rfl⟩
          | 1 => exact ⟨_, _, rfl⟩
          | _ + 2 => exact ⟨_, _, rfl⟩
        rw [ey] at rr hb1
        have hb1 : bindTo N (.Tuple [.Name x px, .Name y py] j q) (.tup [y1, y2]) ρ = .ok (((ρ.set i1 (some (z1, false))).set i2 (some (z2, false))).set i (some (obO, false))) := hb1
        rw [hbb] at hb1
        have hb1 := R.ok.inj hb1
        cases rr with
        | cons q1 rr =>
          cases rr with
          | cons q2 _ =>
            have b1 := Bound.one (σ := σ) (ρ := ρ) (i := i1) (by rw [s.lnσ, s.ln]) q1
            have b2 := Bound.one (σ := σ.set i1 (some v1)) (ρ := ρ.set i1 (some (y1, false))) (i := i2) (by rw [List.length_set, List.length_set, s.lnσ, s.ln]) q2
            have b3 := b1.trans b2
            rw [hb1] at b3
            have et : ([.Name x px, .Name y py] : List Expr).flatMap (tslots1 N) = [i1] ++ [i2] := by
              show (slotOf N x).toList ++ ((slotOf N y).toList ++ []) = _
              rw [e1, e2]; rfl
            obtain ⟨own2, g1, g2⟩ := kend _ (by rw [et]; exact b3)
            exact hz _ H1 own2 g1 (g2.more fun _ h => by cases h)
    | [z1, z2], [], _, rs, _, _ => cases rs
    | [z1, z2], [_], _, rs, _, _ => cases rs with | cons _ t => cases t
    | [z1, z2], _ :: _ :: _ :: _, _, rs, _, _ => cases rs with | cons _ t => cases t with | cons _ t => cases t
theorem t_par3O (cx : Ctx P call N X k) (cs : CtxS P X) (tk : Takes X W) {x y z : Str} {px py pz q q2 p : Pos} {j j2 : Nat} {a b c : Expr} {i1 i2 i3 : Nat} {ki : Nat × Nat} (ho : ownTgt N [.Name x px, .Name y py, .Name z pz] (.Tuple [a, b, c] j2 q2) = some ki) (e1 : slotOf N x = some i1) (e2 : slotOf N y = some i2) (e3 : slotOf N z = some i3) (hij : i1 ≠ i2) (hik : i1 ≠ i3) (hjk : i2 ≠ i3)
    (hx : X.env.scope.names.lookup x = some .local) (hy : X.env.scope.names.lookup y = some .local) (hz0 : X.env.scope.names.lookup z = some .local) (he : wfE P N n X.env.scope (slotsE N n (.Tuple [a, b, c] j2 q2)) (.Tuple [a, b, c] j2 q2) = true)
    (hw : swappedStores [.Tuple [.Name x px, .Name y py, .Name z pz] j q] (.Tuple [a, b, c] j2 q2) X.env = pure (some [x, y, z])) :
    PS X (.Assign [.Tuple [.Name x px, .Name y py, .Name z pz] j q] (.Tuple [a, b, c] j2 q2) p) (SJ X N W Hd H0 Mu (denS P call N M (n + 1) (.Assign [.Tuple [.Name x px, .Name y py, .Name z pz] j q] (.Tuple [a, b, c] j2 q2) p))) := by
  obtain ⟨kk, i⟩ := ki
  obtain ⟨o1, o2, o3⟩ := ownTgt_ok ho
  cases n with
  | zero => cases he
  | succ m =>
    obtain ⟨he1, _⟩ := and_split he
    refine (ps_par3 cx.calm cx.nd (by rw [cx.n]; exact slotOf_get e1) (by rw [cx.n]; exact slotOf_get e2) (by rw [cx.n]; exact slotOf_get e3) hij hik hjk hx hy hz0 (pa_own cx tk [a, b, c] m he1) hw).imp fun D σ H q' => ?_
    obtain ⟨ρ, own, s, h⟩ := q'
    have h : SPost X N W Hd H0 Mu D H own (liftR ρ (R.bind (denA P call N m [a, b, c] ρ) fun vs => .ok (.tup vs)) fun v => match (ownTgt N [.Name x px, .Name y py, .Name z pz] (.Tuple [a, b, c] j2 q2)).bind fun ki => match bindTo N (.Tuple [.Name x px, .Name y py, .Name z pz] j q) v ρ with | .ok ρ' => unpackOwn N [.Name x px, .Name y py, .Name z pz] ki.1 ki.2 v ρ ρ' | _ => none with
      | some ρ2 => .nx ρ2
      | none => liftR ρ (bindTo N (.Tuple [.Name x px, .Name y py, .Name z pz] j q) v (settle false v (slotsE N (m + 1) (.Tuple [a, b, c] j2 q2)) ρ)) .nx) := h
    rw [ho] at h
    refine ⟨_, ρ, s.at _, (SPost.lift s h).bind.monoOk fun zs ez hz vs H1 s1 rs hk => ?_⟩
    have hl := denA_len m _ _ _ ez
    match zs, vs, hl, rs, hz, hk with
    | [z1, z2, z3], [v1, v2, v3], _, rs, hz, hk =>
      refine ⟨v1, v2, v3, rfl, ?_⟩
      have hbb : ∀ ρ : Env, ∀ z1 z2 z3, bindTo N (.Tuple [.Name x px, .Name y py, .Name z pz] j q) (.tup [z1, z2, z3]) ρ = .ok (((ρ.set i1 (some (z1, false))).set i2 (some (z2, false))).set i3 (some (z3, false))) := fun ρ z1 z2 z3 => by
        show (match slotOf N x with
          | some i => match slotOf N y with
            | some i' => match slotOf N z with
              | some i'' => R.ok (((ρ.set i (some (z1, false))).set i' (some (z2, false))).set i'' (some (z3, false)))
              | none => .stuck
            | none => .stuck
          | none => .stuck) = _
        rw [e1, e2, e3]
      have hz : SPost X N W Hd H0 Mu D H own (match (match bindTo N (.Tuple [.Name x px, .Name y py, .Name z pz] j q) (.tup [z1, z2, z3]) ρ with | .ok ρ' => unpackOwn N [.Name x px, .Name y py, .Name z pz] kk i (.tup [z1, z2, z3]) ρ ρ' | _ => none) with
        | some ρ2 => .nx ρ2
        | none => liftR ρ (bindTo N (.Tuple [.Name x px, .Name y py, .Name z pz] j q) (.tup [z1, z2, z3]) (settle false (.tup [z1, z2, z3]) (slotsE N (m + 1) (.Tuple [a, b, c] j2 q2)) ρ)) .nx) := hz
      rw [hbb, hbb] at hz
      simp only at hz
      cases hu : unpackOwn N [.Name x px, .Name y py, .Name z pz] kk i (.tup [z1, z2, z3]) ρ (((ρ.set i1 (some (z1, false))).set i2 (some (z2, false))).set i3 (some (z3, false))) with
      | none =>
        rw [hu] at hz
        obtain ⟨own', s', r', st⟩ := pass_settles s s1 rs
        cases r' with
        | cons q1 r' =>
          cases r' with
          | cons q2 r' =>
            cases r' with
            | cons q3 _ =>
              have b1 := Bound.one (i := i1) (by rw [s'.lnσ, s'.ln]) q1
              have b2 := Bound.one (σ := σ.set i1 (some v1)) (ρ := (settle false (.tup [z1, z2, z3]) (slotsE N (m + 1) (.Tuple [a, b, c] j2 _)) ρ).set i1 (some (z1, false))) (i := i2) (by rw [List.length_set, List.length_set, s'.lnσ, s'.ln]) q2
              have b3 := Bound.one (σ := (σ.set i1 (some v1)).set i2 (some v2)) (ρ := ((settle false (.tup [z1, z2, z3]) (slotsE N (m + 1) (.Tuple [a, b, c] j2 _)) ρ).set i1 (some (z1, false))).set i2 (some (z2, false))) (i := i3) (by rw [List.length_set, List.length_set, List.length_set, List.length_set, s'.lnσ, s'.ln]) q3
              exact hz _ H1 _ (s'.bound ((b1.trans b2).trans b3)) ((st.more fun _ h => by cases h).trans Step.without)
      | some ρ2 =>
        rw [hu] at hz
        obtain ⟨pa, k1, kend⟩ := own_end (ts := [.Name x px, .Name y py, .Name z pz]) (σ := σ) s s1 (Same.refl _) o2 (hk kk o1) hu (by simp)
        have rr : Reps (Rc.own X.K (view X.K Hd own []).S pa) H1 [v1, v2, v3] ([z1, z2, z3].set kk obO) := reps_swap (r := view X.K Hd own (slotsE N (m + 1) (.Tuple [a, b, c] j2 q2))) (r' := Rc.own X.K (view X.K Hd own []).S pa) ⟨rfl, fun _ _ h _ => h⟩ ownEx rs k1 (unpackOwn_ok hu).1
        have hb0 : bindNames N [.Name x px, .Name y py, .Name z pz] [z1, z2, z3] ρ = .ok (((ρ.set i1 (some (z1, false))).set i2 (some (z2, false))).set i3 (some (z3, false))) := hbb ρ z1 z2 z3
        have hb1 := bind_swap (z := obO) o2 o3 hb0
        obtain ⟨y1, y2, y3, ey⟩ : ∃ y1 y2 y3, [z1, z2, z3].set kk obO = [y1, y2, y3] := by
          match kk with
          | 0 => exact ⟨_, _, _, rfl⟩
          | 1 => exact ⟨_, _, _, rfl⟩
          | 2 => exact ⟨_, _, _, rfl⟩
          | _ + 3 => exact ⟨_, _, _, rfl⟩
        rw [ey] at rr hb1
        have hb1 : bindTo N (.Tuple [.Name x px, .Name y py, .Name z pz] j q) (.tup [y1, y2, y3]) ρ = .ok ((((ρ.set i1 (some (z1, false))).set i2 (some (z2, false))).set i3 (some (z3, false))).set i (some (obO, false))) := hb1
        rw [hbb] at hb1
        have hb1 := R.ok.inj hb1
        cases rr with
        | cons q1 rr =>
          cases rr with
          | cons q2 rr =>
            cases rr with
            | cons q3 _ =>
              have b1 := Bound.one (σ := σ) (ρ := ρ) (i := i1) (by rw [s.lnσ, s.ln]) q1
              have b2 := Bound.one (σ := σ.set i1 (some v1)) (ρ := ρ.set i1 (some (y1, false))) (i := i2) (by rw [List.length_set, List.length_set, s.lnσ, s.ln]) q2
              have b2' := Bound.one (σ := (σ.set i1 (some v1)).set i2 (some v2)) (ρ := (ρ.set i1 (some (y1, false))).set i2 (some (y2, false))) (i := i3) (by rw [List.length_set, List.length_set, List.length_set, List.length_set, s.lnσ, s.ln]) q3
              have b3 := (b1.trans b2).trans b2'
              rw [hb1] at b3
              have et : ([.Name x px, .Name y py, .Name z pz] : List Expr).flatMap (tslots1 N) = [i1] ++ [i2] ++ [i3] := by
                show (slotOf N x).toList ++ ((slotOf N y).toList ++ ((slotOf N z).toList ++ [])) = _
                rw [e1, e2, e3]; rfl
              obtain ⟨own2, g1, g2⟩ := kend _ (by rw [et]; exact b3)
              exact hz _ H1 own2 g1 (g2.more fun _ h => by cases h)
    | [z1, z2, z3], [], _, rs, _, _ => cases rs
    | [z1, z2, z3], [_], _, rs, _, _ => cases rs with | cons _ t => cases t
    | [z1, z2, z3], [_, _], _, rs, _, _ => cases rs with | cons _ t => cases t with | cons _ t => cases t
    | [z1, z2, z3], _ :: _ :: _ :: _ :: _, _, rs, _, _ => cases rs with | cons _ t => cases t with | cons _ t => cases t with | cons _ t => cases t
end
end PyV
set_option Elab.async false
set_option linter.all false
set_option maxRecDepth 100000
set_option maxHeartbeats 1000000
/-! Layer PyV, part 9: statements that change objects, loops, raise. -/
namespace PySem
open Sem (wp)
open AutoSeq1
theorem list_extend_tup_any (l : Addr) (items : Array Value) (n : Nat) (b : Addr) (items2 : Array Value) (n2 : Nat) (dd : Option Addr) (sl : Array (Option Value)) (hs0 : ¬(!items.isEmpty && Builtin.List.listTooLong (items.size + items2.size)) = true) (hs1 : items.size ≤ sizeLine) (hs2 : items.size + items2.size ≤ sizeLine + 1) :
    Meets (Builtin.«list.extend» ⟨[.ref l, .ref b], []⟩) (fun _ R s => s.heap.get? l = some { cls := .type "list", dict := none, data := .seq items n, slots := #[] } ∧ s.heap.get? b = some { cls := .type "tuple", dict := dd, data := .seq items2 n2, slots := sl } ∧ R (.ok (.ret Value.none)) { s with heap := s.heap.update l (Obj.mapSeq fun x => x ++ items2), toks := s.toks }) :=
  .of_wp fun prog w A R s h => by
    obtain ⟨hp, g, d, tk, os⟩ := s; obtain ⟨hl, hb, h⟩ := h; have f1 := idx_int; have f2 := sub_tuple_tuple; have f3 := sub_list_list; have f4 := sub_tuple_list; have f5 := sub_list_tuple;
    have hz' : (items ++ items2).size ≤ sizeLine + 1 := by rw [Array.size_append]; exact hs2
    wp_walk using (wpAny_updateSeq hl rfl (hz := hs1) (_hz' := hz')), wpAny_loadPart' hl, wpAny_loadPart' hb; exact ⟨_, rfl, h⟩
end PySem
namespace PyV
open PySem PySem.Spec PyProof.Rows L2
section
variable {P : Prog} {call : Str → List PV → R PV} {N : List Str} {M : Nat} {X : Cx} {k : Nat} {W : WX} {Hd : Addr → Prop} {H0 H H1 : Hp} {Mu Mu' : List Nat} {D : Ends} {own own1 : Nat → Option Addr} {σ : L2.St} {ρ : Env} {n : Nat}
theorem augop_exc {op : Operator} {p q : PV} : ∀ c fs, augop op p q ≠ .exc c fs := by
  intro c fs h
  unfold augop at h
  split at h <;> first | cases h | (unfold need at h; split at h <;> cases h)
theorem augop_ok (op : Operator) : OpR X (inplaceOp op) (okR2 X.K (augop op)) := by
  refine OpR.by fun x y H Q h => ?_
  obtain ⟨r, p, q, z, hK, hA, rx, ry, e, o⟩ := h
  revert e
  unfold augop
  split
  · intro e; cases e; cases rx; cases ry
    exact ⟨_, iop_add, _, _, rfl, rfl, o.at (.int _) rfl⟩
  · intro e; cases e; cases rx; cases ry
    exact ⟨_, iop_sub, _, _, rfl, rfl, o.at (.int _) rfl⟩
  · intro e; obtain ⟨c, e⟩ := need_ok e; cases e; cases rx; cases ry
    exact ⟨_, iop_mul, _, _, rfl, rfl, c, o.at (.int _) rfl⟩
  · intro e; obtain ⟨c, e⟩ := need_ok e; cases e; cases rx; cases ry
    exact ⟨_, iop_fdiv, _, _, rfl, rfl, c, o.at (.int _) rfl⟩
  · intro e; obtain ⟨c, e⟩ := need_ok e; cases e
    cases rx with
    | str x g =>
      cases ry with
      | str y g' =>
        refine ⟨_, iop_add_str, _, _, rfl, rfl, by rw [str_len, str_len, ← line_eq]; exact c, ?_⟩
        rw [str_app]
        exact o.at (.str _ (g.app g' c)) rfl
  · intro e; cases e
theorem augop_pure {op : Operator} {p q z : PV} (h : augop op p q = .ok z) : isPure z = true := by
  unfold augop at h
  split at h <;> first | (cases h; rfl) | (obtain ⟨_, h⟩ := need_ok h; cases h; rfl) | cases h
theorem t_aug (cx : Ctx P call N X k) (cs : CtxS P X) (tk : Takes X W) {x : Str} {px p : Pos} {op : Operator} {e : Expr} (hx : nameB N X.env.scope x = true) (he : wfE P N n X.env.scope (slotsE N n e) e = true) :
    PS X (.AugAssign (.Name x px) op e p) (SJ X N W Hd H0 Mu (denS P call N M (n + 1) (.AugAssign (.Name x px) op e p))) := by
  obtain ⟨i, e1, e2, e3, e4⟩ := nameB_ok cx.n hx
  refine (ps_aug cx.nd e3 e4 ((sound n).e X k W cx tk (slotsE N n e) e he) (ti := okR2 X.K (augop op)) (augop_ok op) (.inl (cs.fn x))).imp fun D σ H q => ?_
  obtain ⟨ρ, own, s, h⟩ := q
  have h : SPost X N W Hd H0 Mu D H own (match slotOf N x with
      | some i => match ρ[i]? with
        | some (some v) => liftR ρ (denE P call N n e ρ) fun w => liftR ρ (augop op v.1 w) fun z => .nx (ρ.set i (some (z, false)))
        | _ => .stuck
      | none => .stuck) := h
  simp only [e1] at h
  cases ei : ρ[i]? with
  | none => simp only [ei] at h; exact h.elim
  | some o =>
    cases o with
    | none => simp only [ei] at h; exact h.elim
    | some v =>
      simp only [ei] at h
      -- the slot's value, leant on by I and i
      obtain ⟨w0, f1, f2⟩ := (s.at (i :: slotsE N n e)).vis i v (by simp) ei
      refine ⟨w0, f1, ?_⟩
      refine tE.of (s.at _) (SPost.lift s h) fun z hz w H1 s1 r f => ?_
      have hz' := SPost.lift s hz
      obtain ⟨u, e5, q⟩ := hz'.pure augop_exc
      have hI : At X.K N (view X.K Hd own (i :: slotsE N n e)) H σ ρ (i :: slotsE N n e) := s.at _
      have kp : Keeps (view X.K Hd own (slotsE N n e)) H1 (view X.K Hd own (i :: slotsE N n e)) H1 := ⟨rfl, fun _ _ h _ => h, fun b o _ n z => n (z.imp (fun h => h) fun ⟨j, h, hn⟩ => ⟨j, h, fun z => hn (List.mem_cons_of_mem _ z)⟩), fun _ _ h => h⟩
      refine ⟨view X.K Hd own (i :: slotsE N n e), v.1, z, u, rfl, hI.al.same s1, f2.same s1, Rep.keep kp _ _ r, e5, fun y H2 s2 r2 _ => ?_⟩
      have sg := (s.grow s1).grow s2
      have := sg.put e2 (Rep.pure (stills (Same.refl _) _ _ _ _) _ _ (augop_pure e5) r2)
      exact q _ _ _ this ((Step.same (s1.trans s2)).trans Step.without)
/-! ### methods that change a slot's own list -/
theorem arePure_append : ∀ (xs ys : List PV), arePure (xs ++ ys) = (arePure xs && arePure ys)
  | [], ys => by simp [arePure]
  | x :: xs, ys => by
    show (isPure x && arePure (xs ++ ys)) = (isPure x && arePure xs && arePure ys)
    rw [arePure_append xs ys, Bool.and_assoc]
theorem still_of {r r' : Rc} {H : Hp} {a : Addr} {u u' : HO} (hr : r'.K = r.K) (hu : H a = some u) (hs : still u = false) : Stills r H r' (upd H a u') := ⟨hr, fun b o h hb => by
  have : b ≠ a := by rintro rfl; rw [hu] at h; cases h; rw [hs] at hb; cases hb
  rw [upd_ne this]; exact h⟩
theorem mutate_exc {m : String} {o : PV} {vs : List PV} : ∀ c fs, mutate m o vs ≠ .exc c fs := by
  intro c fs h
  unfold mutate at h
  split at h <;> first | cases h | (unfold need at h; split at h <;> cases h)
theorem isTup_obj {h : Heap} {a : Addr} {its : Array Value} (t : IsTup h a its) : ∃ (dd : Option Addr) (n : Nat) (sl : Array (Option Value)), h.get? a = some { cls := .type "tuple", dict := dd, data := .seq its n, slots := sl } := by
  obtain ⟨⟨c, d, dt, sl⟩, e, hc, n, hd⟩ := t
  cases hc; cases hd
  exact ⟨d, n, sl, e⟩
def rExtendT (K : PySem.W.Frag) : V → List V → Hp → VK → Prop := fun x vs H Q => ∃ l b xs zs, x = .ref l ∧ vs = [.ref b] ∧ H l = some (.lst xs) ∧ SqT K H b zs ∧ xs.length + zs.length ≤ sizeLine ∧ Q .non (upd H l (.lst (xs ++ zs)))
theorem mt_extendT {X : Cx} : MtM X "list.extend" (rExtendT X.K) := by
  intro pins s σ H x vs v us Q I rx rv h
  obtain ⟨l, b, xs, zs, rfl, rfl, hH, hB, hz, q⟩ := h
  cases rx
  obtain ⟨u, rfl, ru⟩ := rv.one
  cases ru
  obtain ⟨z, its, n, r, hl, e⟩ := I.lstM hH
  obtain ⟨its2, r2, ht, _⟩ := I.tuple hB
  obtain ⟨dd, n2, sl, e2⟩ := isTup_obj ht
  have hl2 := r2.length
  have hsz : its.toArray.size + its2.toArray.size ≤ sizeLine := by rw [List.size_toArray, List.size_toArray]; omega
  have hlong : ¬ (!its.toArray.isEmpty && Builtin.List.listTooLong (its.toArray.size + its2.toArray.size)) = true := by
    rw [notLongL hsz, Bool.and_false]
    exact Bool.false_ne_true
  refine call_meets F.slot_list_extend ⟨_, e, rfl⟩ F.entry_list_extend (F.args_list_extend_2 _ _)
    (PySem.list_extend_tup_any l its.toArray n b its2.toArray n2 dd sl hlong (by rw [List.size_toArray]; omega) (by omega)) ⟨e, e2, ?_⟩
  refine ⟨.non, _, I.lset (its' := its ++ its2) hH e (by simp) (r.append r2) ?_, rfl, q⟩
  rw [List.length_append]
  omega
theorem mt_extend2 {X : Cx} : MtR X "list.extend" (fun x vs H Q => rExtend x vs H Q ∨ rExtendT X.K x vs H Q) := fun pins s σ H x vs v us Q I rx rv h => h.elim (fun h => mt_extend pins s σ H x vs v us Q I rx rv h) fun h => mt_extendT pins s σ H x vs v us Q I rx rv h
theorem mut_rule {r0 : Rc} {a : Addr} {o : PV} {m : String} (mm : m ∈ mutNames) (o4 : Own r0 H a o) (hK0 : r0.K = X.K) (hm : mutRecv m o = true) :
    ∃ (T id : String) (rr : V → List V → Hp → VK → Prop), PlainAttrs T ∧ Slot T (Str.ofString m) id ∧ typeOf (.builtin id) = pure (.type "method_descriptor") ∧ MtR X id rr ∧ tyV X.K T (.ref a) H ∧
      ∀ (H2 : Hp) (Q : VK) (us : List V) (vs : List PV) (o' : PV) (r2 : Rc), Same H H2 → r2.K = X.K → Reps r2 H2 us vs → mutate m o vs = .ok o' →
        (∀ u', (heldPure o' = true → ∀ r : Rc, r.K = X.K → Own r (upd H2 a u') a o') → (∀ r : Rc, Keeps r0 H2 r (upd H2 a u') → Keeps r2 H2 r (upd H2 a u') → Own r (upd H2 a u') a o') → Q .non (upd H2 a u')) → rr (.ref a) us H2 Q := by
  revert hm
  unfold mutRecv
  split
  · intro _
    cases o4 with
    | @lst vs xs hv rs =>
    refine ⟨"list", "list.append", _, PySem.F.plainAttrs_list, PySem.F.slot_list_append, PySem.F.type_list_append, mt_append, .inl ⟨rfl, _, SqL.of hv⟩, fun H2 Q us zs o' r2 s2 hK2 rz e q => ?_⟩
    unfold mutate at e
    split at e
    · rename_i q1 q2 q3
      cases q3
      obtain ⟨hlt, e⟩ := need_ok e
      cases e
      obtain ⟨u, rfl, ru⟩ := reps1 rz
      refine ⟨a, vs, u, rfl, rfl, s2 _ _ hv, by rw [rs.length, ← line_eq]; exact hlt, q _ (fun hp r hr => ?_) fun r k0 k2 => .lst upd_same ((Reps.keep k0 _ _ (rs.same s2)).append (.cons (Rep.keep k2 _ _ ru) .nil))⟩
      have hp : arePure _ = true := hp
      rw [arePure_append] at hp
      obtain ⟨h1, h2⟩ := and_split hp
      exact .lst upd_same ((Reps.pure (still_of (hr.trans hK0.symm) (s2 _ _ hv) rfl) _ _ h1 (rs.same s2)).append (.cons (Rep.pure (still_of (hr.trans hK2.symm) (s2 _ _ hv) rfl) _ _ (by simpa [arePure] using h2) ru) .nil))
    · exact absurd ‹("append" : String) = "extend"› (by decide)
    · exact absurd ‹("append" : String) = "extend"› (by decide)
    · cases e
  · intro _
    cases o4 with
    | @lst vs xs hv rs =>
    refine ⟨"list", "list.extend", _, PySem.F.plainAttrs_list, PySem.F.slot_list_extend, PySem.F.type_list_extend, mt_extend2, .inl ⟨rfl, _, SqL.of hv⟩, fun H2 Q us zs o' r2 s2 hK2 rz e q => ?_⟩
    unfold mutate at e
    split at e
    · exact absurd ‹("extend" : String) = "append"› (by decide)
    · rename_i q1 q2 q3
      cases q3
      obtain ⟨hlt, e⟩ := need_ok e
      cases e
      obtain ⟨u, rfl, ru⟩ := reps1 rz
      cases ru with
      | @lst b ws ys n2 e2 rs2 =>
      refine .inl ⟨a, b, vs, ws, rfl, rfl, s2 _ _ hv, e2, by rw [rs.length, rs2.length, ← line_eq]; exact hlt, q _ (fun hp r hr => ?_) fun r k0 k2 => .lst upd_same ((Reps.keep k0 _ _ (rs.same s2)).append (Reps.keep k2 _ _ rs2))⟩
      have hp : arePure _ = true := hp
      rw [arePure_append] at hp
      obtain ⟨h1, h2⟩ := and_split hp
      exact .lst upd_same ((Reps.pure (still_of (hr.trans hK0.symm) (s2 _ _ hv) rfl) _ _ h1 (rs.same s2)).append (Reps.pure (still_of (hr.trans hK2.symm) (s2 _ _ hv) rfl) _ _ h2 rs2))
    · rename_i q1 q2 q3
      cases q3
      obtain ⟨hlt, e⟩ := need_ok e
      cases e
      obtain ⟨u, rfl, ru⟩ := reps1 rz
      cases ru with
      | tup e2 rs2 =>
      refine .inr ⟨a, _, vs, _, rfl, rfl, s2 _ _ hv, hK2 ▸ e2, by rw [rs.length, rs2.length, ← line_eq]; exact hlt, q _ (fun hp r hr => ?_) fun r k0 k2 => .lst upd_same ((Reps.keep k0 _ _ (rs.same s2)).append (Reps.keep k2 _ _ rs2))⟩
      have hp : arePure _ = true := hp
      rw [arePure_append] at hp
      obtain ⟨h1, h2⟩ := and_split hp
      exact .lst upd_same ((Reps.pure (still_of (hr.trans hK0.symm) (s2 _ _ hv) rfl) _ _ h1 (rs.same s2)).append (Reps.pure (still_of (hr.trans hK2.symm) (s2 _ _ hv) rfl) _ _ h2 rs2))
    · cases e
  · intro h; cases h
theorem t_mut (cx : Ctx P call N X k) (cs : CtxS P X) (tk : Takes X W) {x m : Str} {px pa p pp : Pos} {e : Expr} {es : List Expr} (hx : nameB N X.env.scope x = true) (hpl : plainB x = true) (ha : wfA P N n X.env.scope (slotsE N n (.Tuple (e :: es) 0 p)) (e :: es) = true) (hl : pa.endLine = p.line) (hlen : (e :: es).length < 30)
    (hm : (mutNames.find? fun t => m == Str.ofString t).isSome = true) (hMu : ∀ i, slotOf N x = some i → i ∈ Mu) :
    PS X (.Expr (.Call (.Attribute (.Name x px) m pa) (e :: es) [] p) pp) (SJ X N W Hd H0 Mu (denS P call N M (n + 1) (.Expr (.Call (.Attribute (.Name x px) m pa) (e :: es) [] p) pp))) := by
  obtain ⟨i, e1, e2, e3, e4⟩ := nameB_ok cx.n hx
  obtain ⟨p1, p2, p3⟩ := plainB_ok hpl
  have hst := wfA_star n ha
  have hst' : noStar e = true ∧ es.all noStar = true := by simpa using hst
  cases y : mutNames.find? (fun t => m == Str.ofString t) with
  | none => rw [y] at hm; cases hm
  | some t0 =>
    obtain ⟨mm, rfl⟩ := find_str y
    refine (ps_expr (pe_mt (pe_var (i := i) e3 (e4.elim .inl fun z => .inr (.inl z)) p1 p2) ((sound n).a X k W cx tk _ _ ha) (attr_base rfl) ?_ (by rw [hl]; exact beq_self_eq_true _) (starEach_cons hst'.1) (starEach_none hst'.2)) rfl).imp fun D σ H q => ?_
    · rw [starEach_all hst]
      show (true && true && decide ((e :: es).length + 0 + 0 < 30)) = true
      simpa using hlen
    · obtain ⟨ρ, own, s, h⟩ := q
      have h : SPost X N W Hd H0 Mu D H own (match slotOf N x, mutNames.find? fun t => Str.ofString t0 == Str.ofString t with
        | some i, some t => match ownAt ρ i with
          | some o => if mutRecv t o = true then liftR ρ (denA P call N n (e :: es) ρ) fun vs => liftR ρ (mutate t o vs) fun o' => if heldPure o' = true then .nx (ρ.set i (some (o', true))) else if (ownB o' && !(slotsE N n (.Tuple (e :: es) 0 ⟨0, 0, 0, 0⟩)).contains i) = true then .nx ((freeze (slotsE N n (.Tuple (e :: es) 0 ⟨0, 0, 0, 0⟩)) ρ).set i (some (o', true))) else .stuck else .stuck
          | none => .stuck
        | _, _ => .stuck) := h
      simp only [e1, y] at h
      cases eo : ownAt ρ i with
      | none => simp only [eo] at h; exact h.elim
      | some o =>
        simp only [eo] at h
        obtain ⟨a, o1, o2, o3, o4⟩ := ownAt_some s eo
        by_cases hr : mutRecv t0 o = true
        · rw [if_pos hr] at h
          obtain ⟨T, id, rr, a1, a2, a3, a4, a5, a6⟩ := mut_rule mm o4 rfl hr
          refine ⟨.ref a, o3, T, id, rr, a1, a2, a3, a4, a5, tA.of (s.at _) (SPost.lift s h) fun zs hz us H1 s1 rz => ?_⟩
          obtain ⟨o', e5, hz⟩ := (SPost.lift s hz).pure mutate_exc
          refine a6 H1 _ us zs o' _ s1 rfl rz e5 fun u' ho hq => ?_
          by_cases hp : heldPure o' = true
          · rw [if_pos hp] at hz
            obtain ⟨u, hu, hs⟩ := o4.there
            obtain ⟨s', st⟩ := (s.grow s1).mut o1 (s1 _ _ hu) hs (ho hp _ rfl)
            exact hz _ _ _ s' ((Step.same s1).trans (st Mu (hMu i e1)))
          · rw [if_neg hp] at hz
            generalize hI : slotsE N n (.Tuple (e :: es) 0 ⟨0, 0, 0, 0⟩) = I0 at hz
            have hI : slotsE N n (.Tuple (e :: es) 0 p) = I0 := by
              rw [← hI]
              cases n <;> rfl
            by_cases hw : (ownB o' && !I0.contains i) = true
            · rw [if_pos hw] at hz
              obtain ⟨_, hni⟩ := and_split hw
              have hni : i ∉ I0 := by simpa using hni
              obtain ⟨u, hu, hs⟩ := o4.there
              have hu1 := s1 _ _ hu
              have oi : without own I0 i = some a := by
                unfold without
                rw [if_neg (by simpa using hni)]
                exact o1
              have nb : ∀ {S : Addr → Prop}, S a → ∀ b x, H1 b = some x → (¬ S b ∨ still x = true) → upd H1 a u' b = some x := fun {S} hSa b x hb hn => by
                have : b ≠ a := by
                  rintro rfl
                  rcases hn with hn | hn
                  · exact hn hSa
                  · rw [hu1] at hb; cases hb; rw [hs] at hn; cases hn
                rw [upd_ne this]; exact hb
              have k0 : Keeps (view X.K Hd own []) H1 (view X.K Hd (without own I0) []) (upd H1 a u') :=
                ⟨rfl, nb (.inr ⟨i, o1, fun z => by cases z⟩), fun b o _ n z => n (z.imp (fun h => h) fun ⟨j, h, _⟩ => ⟨j, (without_some h).1, fun z => by cases z⟩), fun _ _ h => h⟩
              have k2 : Keeps (view X.K Hd own I0) H1 (view X.K Hd (without own I0) []) (upd H1 a u') :=
                ⟨rfl, nb (.inr ⟨i, o1, hni⟩), fun b o _ n z => n ((view_free s I0).mp z), fun _ _ h => h⟩
              obtain ⟨s', st⟩ := ((s.grow s1).freeze I0).mut oi hu1 hs (hq _ k0 (by rw [hI]; exact k2))
              exact hz _ _ _ s' (((Step.same s1).trans Step.without).trans (st Mu (hMu i e1)))
            · rw [if_neg hw] at hz; exact hz.elim
        · rw [if_neg hr] at h; exact h.elim
/-! ### x[i] = e -/
theorem place_ix (n : Nat) (i : Int) : place n i = ixN n i := rfl
theorem store_exc {o i v : PV} : ∀ c fs, store o i v ≠ .exc c fs := by
  intro c fs h
  unfold store at h
  split at h <;> first | cases h | exact ofOpt_exc _ _ h
theorem arePure_set : ∀ {xs : List PV} {v : PV} (j : Nat), arePure xs = true → isPure v = true → arePure (xs.set j v) = true
  | [], _, _, _, _ => rfl
  | x :: xs, v, 0, h, hv => by
    have h' : isPure x = true ∧ arePure xs = true := by simpa [arePure] using h
    show (isPure v && arePure xs) = true
    rw [hv, h'.2]; rfl
  | x :: xs, v, j + 1, h, hv => by
    have h' : isPure x = true ∧ arePure xs = true := by simpa [arePure] using h
    show (isPure x && arePure (xs.set j v)) = true
    rw [h'.1, arePure_set j h'.2 hv]; rfl
/-- by values: the store's rule and what it leaves -/
theorem store_rule {r0 : Rc} {a : Addr} {o i v o' : PV} {H2 : Hp} {Q : Hp → Prop} {iw w : V} {r1 r2 : Rc} (hK0 : r0.K = X.K) (o4 : Own r0 H2 a o) (ri : Rep r1 H2 iw i) (rv : Rep r2 H2 w v) (hv : isPure v = true) (e : store o i v = .ok o')
    (q : ∀ u', (∀ r : Rc, r.K = X.K → Keeps r0 H2 r (upd H2 a u') → Stills r2 H2 r (upd H2 a u') → Own r (upd H2 a u') a o') → Q (upd H2 a u')) : rSetL (.ref a) iw w H2 Q := by
  unfold store at e
  split at e
  · rename_i xs k
    have e := ofOpt_ok e
    cases ri
    cases o4 with
    | @lst vs _ hu rs =>
      cases ep : place xs.length k with
      | none => rw [ep] at e; cases e
      | some j =>
        rw [ep] at e
        cases e
        refine ⟨a, vs, k, j, rfl, rfl, hu, by rw [rs.length, ← place_ix]; exact ep, q _ fun r hr kp st => ?_⟩
        exact .lst upd_same (Reps.set (Rep.pure st _ _ hv rv) j (Reps.keep kp _ _ rs))
  · cases e
theorem t_store (cx : Ctx P call N X k) (cs : CtxS P X) (tk : Takes X W) {x : Str} {px p pq : Pos} {ix e : Expr} (hx : nameB N X.env.scope x = true) (hpl : plainB x = true) (he : wfE P N n X.env.scope (slotsE N n e) e = true) (hi : wfE P N n X.env.scope (slotsE N n ix) ix = true)
    (hs : noSlice ix = true) (hMu : ∀ i, slotOf N x = some i → i ∈ Mu) :
    PS X (.Assign [.Subscript (.Name x px) ix pq] e p) (SJ X N W Hd H0 Mu (denS P call N M (n + 1) (.Assign [.Subscript (.Name x px) ix pq] e p))) := by
  obtain ⟨i, e1, e2, e3, e4⟩ := nameB_ok cx.n hx
  obtain ⟨p1, p2, p3⟩ := plainB_ok hpl
  refine (ps_asg ((sound n).e X k W cx tk (slotsE N n e) e he) (pg_sub (pe_var (i := i) e3 (e4.elim .inl fun z => .inr (.inl z)) p1 p2) ((sound n).e X k W cx tk (slotsE N n ix) ix hi) set_list (by intro v; cases ix <;> first | rfl | cases hs)) (swap_other (X := X) (e := e) (a := .Name x px) (b := ix) (p := pq) (l := p.line)) rfl rfl).imp fun D σ H q => ?_
  obtain ⟨ρ, own, s, h⟩ := q
  have h : SPost X N W Hd H0 Mu D H own (match slotOf N x with
      | some i => match ownAt ρ i with
        | some o => liftR ρ (denE P call N n e ρ) fun v => liftR ρ (denE P call N n ix ρ) fun w => if isPure v = true then liftR ρ (store o w v) fun o' => .nx (ρ.set i (some (o', true))) else .stuck
        | none => .stuck
      | none => .stuck) := h
  simp only [e1] at h
  cases eo : ownAt ρ i with
  | none => simp only [eo] at h; exact h.elim
  | some o =>
  simp only [eo] at h
  obtain ⟨a, o1, o2, o3, o4⟩ := ownAt_some s eo
  refine tE.of (s.at _) (SPost.lift s h) fun z hz w H1 s1 r1 f1 => ?_
  have hz := SPost.lift s hz
  refine ⟨.ref a, o3, tE.of ((s.at _).same s1) (hz.same s1) fun z2 hz2 w2 H2 s2 r2 f2 => ?_⟩
  by_cases hp : isPure z = true
  · rw [if_pos hp] at hz2
    obtain ⟨o', e5, hz3⟩ := (SPost.lift s hz2).pure store_exc
    obtain ⟨u, hu, hst⟩ := o4.there
    have ss := s1.trans s2
    refine store_rule (r0 := view X.K Hd own []) rfl (o4.keep (Keeps.same ss) fun u h => ss _ _ h) r2 (r1.same s2) hp e5 fun u' ho => ?_
    have kp : Keeps (view X.K Hd own []) H2 (view X.K Hd own []) (upd H2 a u') := by
      refine ⟨rfl, fun b o' h hb => ?_, fun _ _ _ h => h, fun _ _ h => h⟩
      have : b ≠ a := by
        rintro rfl
        rcases hb with hb | hb
        · exact hb (.inr ⟨i, o1, fun z => by cases z⟩)
        · rw [ss _ _ hu] at h; cases h; rw [hst] at hb; cases hb
      rw [upd_ne this]; exact h
    obtain ⟨s', st⟩ := (s.grow ss).mut o1 (ss _ _ hu) hst (ho _ rfl kp (still_of rfl (ss _ _ hu) hst))
    exact hz3 _ _ _ s' ((Step.same ss).trans (st Mu (hMu i e1)))
  · rw [if_neg hp] at hz2; exact hz2.elim
/-! ### a call whose value is dropped -/
theorem t_call (cx : Ctx P call N X k) (tk : Takes X W) {f : Str} {pf p pp : Pos} {es : List Expr} (he : wfE P N n X.env.scope (slotsE N n (.Call (.Name f pf) es [] p)) (.Call (.Name f pf) es [] p) = true) :
    PS X (.Expr (.Call (.Name f pf) es [] p) pp) (SJ X N W Hd H0 Mu (denS P call N M (n + 1) (.Expr (.Call (.Name f pf) es [] p) pp))) := by
  refine (ps_expr ((sound n).e X k W cx tk _ _ he) rfl).imp fun D σ H q => ?_
  obtain ⟨ρ, own, s, h⟩ := q
  have h : SPost X N W Hd H0 Mu D H own (liftR ρ (denE P call N n (.Call (.Name f pf) es [] p) ρ) fun _ => .nx ρ) := h
  exact tE.of (s.at _) (SPost.lift s h) fun z hz w H1 s1 r f => hz σ H1 own (s.grow s1) (Step.same s1)
/-! ### for -/
/-- the loop's iterator against the evaluator's items -/
def LoopIt (X : Cx) (Hd : Addr → Prop) (Mu : List Nat) (H1 : Hp) (own1 : Nat → Option Addr) (xs : List PV) (J : It) : Prop := ∀ i H' own', Step Mu H1 own1 H' own' → (i < xs.length → J.go i H') ∧ (i = xs.length → J.stop i H') ∧
  ∀ v H'', J.yld i H' v H'' → Same H' H'' ∧ ∀ x, xs[i]? = some x → Rep (view X.K Hd own' []) H'' v x
theorem for_core {tg : Expr} {body : List Stmt} {xs : List PV} {J : It} (s : SI X.K N Hd H0 H1 σ ρ own1) (hJ : LoopIt X Hd Mu H1 own1 xs J)
    (h : SPost X N W Hd H0 Mu D H1 own1 (forLoop (fun x ρ => liftR ρ (bindTg N tg x ρ) fun ρ' => denSs P call N M n body ρ') xs ρ)) :
    ∃ W' : Nat → Nat → L2.St → Hp → Prop, (∃ m, W' 0 m σ H1) ∧ ∀ i m σ H, W' i m σ H →
      (J.stop i H ∧ D.nx σ H) ∨ (J.go i H ∧ ∃ Nx : L2.St → Hp → Prop, (∀ σ' H', Nx σ' H' → ∃ m', m' < m ∧ W' (i + 1) m' σ' H') ∧ ∀ x H', J.yld i H x H' → gTg N tg X.K x σ H' fun σ2 H2 => SJ X N W Hd H0 Mu (denSs P call N M n body) { D with nx := Nx, ct := Nx, bk := D.nx } σ2 H2) := by
  generalize hst : (fun x ρ => liftR ρ (bindTg N tg x ρ) fun ρ' => denSs P call N M n body ρ') = step at h
  refine ⟨fun i m σ' H' => m = xs.length - i ∧ i ≤ xs.length ∧ ∃ ρ' own', SI X.K N Hd H0 H' σ' ρ' own' ∧ Step Mu H1 own1 H' own' ∧ SPost X N W Hd H0 Mu D H' own' (forLoop step (xs.drop i) ρ'),
    ⟨xs.length, by omega, Nat.zero_le _, ρ, own1, s, Step.refl, by rw [List.drop_zero]; exact h⟩, ?_⟩
  rintro i m σ' H' ⟨rfl, hi, ρ', own', s', st', h'⟩
  obtain ⟨j1, j2, j3⟩ := hJ i H' own' st'
  by_cases hlt : i < xs.length
  · refine .inr ⟨j1 hlt, fun σ2 H2 => ∃ ρ2 own2, SI X.K N Hd H0 H2 σ2 ρ2 own2 ∧ Step Mu H1 own1 H2 own2 ∧ SPost X N W Hd H0 Mu D H2 own2 (forLoop step (xs.drop (i + 1)) ρ2),
      fun σ2 H2 q => ⟨xs.length - (i + 1), by omega, rfl, hlt, q⟩, fun v H'' y => ?_⟩
    obtain ⟨s3, y⟩ := j3 v H'' y
    have rv := y _ (List.getElem?_eq_getElem hlt)
    rw [List.drop_eq_getElem_cons hlt] at h'
    have h' : SPost X N W Hd H0 Mu D H' own' (match step xs[i] ρ' with
      | .nx ρ2 => forLoop step (xs.drop (i + 1)) ρ2
      | .ct ρ2 => forLoop step (xs.drop (i + 1)) ρ2
      | .bk ρ2 => .nx ρ2
      | o => o) := h'
    have hsi : step xs[i] ρ' = liftR ρ' (bindTg N tg xs[i] ρ') fun ρ' => denSs P call N M n body ρ' := by rw [← hst]
    rw [hsi] at h'
    have sg := s'.grow s3
    have stg : Step Mu H1 own1 H'' own' := st'.trans (Step.same s3)
    cases hb : bindTg N tg xs[i] ρ' with
    | exc c fs => exact absurd hb (bindTg_exc _ _)
    | stuck => simp only [hb, liftR] at h'; exact h'.elim
    | ok ρ2 =>
      simp only [hb, liftR] at h'
      refine ⟨_, xs[i], ρ', ρ2, rfl, rv, s'.ln, hb, fun σ2 b => ⟨ρ2, _, sg.bound b, ?_⟩⟩
      have st0 : Step Mu H' own' H'' (without own' (tslotsG N tg)) := (Step.same s3).trans Step.without
      have stA : Step Mu H1 own1 H'' (without own' (tslotsG N tg)) := st'.trans st0
      cases hd : denSs P call N M n body ρ2 with
      | nx ρ3 =>
        rw [hd] at h'
        exact fun σ4 H4 own4 s4 t4 => ⟨ρ3, own4, s4, stA.trans t4, SPost.step h' (st0.trans t4)⟩
      | ct ρ3 =>
        rw [hd] at h'
        exact fun σ4 H4 own4 s4 t4 => ⟨ρ3, own4, s4, stA.trans t4, SPost.step h' (st0.trans t4)⟩
      | bk ρ3 =>
        rw [hd] at h'
        exact fun σ4 H4 own4 s4 t4 => h' σ4 H4 own4 s4 (st0.trans t4)
      | ret v fl => rw [hd] at h'; exact h'
      | exc c fs ρ3 =>
        rw [hd] at h'
        exact fun cls d σ4 H4 own4 s4 t4 er => h' cls d σ4 H4 own4 s4 (st0.trans t4) er
      | stuck => rw [hd] at h'; exact h'.elim
  · have ei : i = xs.length := by omega
    subst ei
    rw [List.drop_length] at h'
    exact .inl ⟨j2 rfl, h' σ' H' own' s' Step.refl⟩
/-- what the loop's view sees stays -/
theorem Step.keeps (s : SI X.K N Hd H0 H1 σ ρ own1) {H' : Hp} {own' : Nat → Option Addr} {I : List Nat} (st : Step Mu H1 own1 H' own') (hd : ∀ i ∈ I, i ∉ Mu) : Keeps (view X.K Hd own1 I) H1 (view X.K Hd own' I) H' := by
  refine ⟨rfl, fun b o h hb => st.keep b o h fun i hi hm => ?_, fun b o h n z => n (z.imp (fun h => h) fun ⟨i, hi, hn⟩ => ?_), fun _ _ h => h⟩
  · rcases hb with hb | hb
    · by_cases hI : i ∈ I
      · exact hd i hI hm
      · exact hb (.inr ⟨i, hi, hI⟩)
    · obtain ⟨_, _, _, _, o'⟩ := s.own1 i b hi
      obtain ⟨u, hu, hs⟩ := o'.there
      rw [hu] at h; cases h; rw [hs] at hb; cases hb
  · rcases st.mono i b hi with z | z
    · exact ⟨i, z, hn⟩
    · rw [h] at z; cases z
/-- items seen under I: pure ones are seen by all -/
theorem loopIt_of (s : SI X.K N Hd H0 H1 σ ρ own1) {I : List Nat} {xs : List PV} {J : It} (hJ : ItFor (view X.K Hd own1 I) H1 xs J) (hd : ∀ i ∈ I, i ∉ Mu) (hp : I = [] ∨ arePure xs = true) : LoopIt X Hd Mu H1 own1 xs J := by
  intro i H' own' st
  obtain ⟨j1, j2, j3⟩ := hJ (view X.K Hd own' I) i H' (st.keeps s hd)
  refine ⟨j1, j2, fun v H'' y => ?_⟩
  obtain ⟨s3, y⟩ := j3 v H'' y
  refine ⟨s3, fun x hx => ?_⟩
  have q := y x hx
  rcases hp with rfl | hp
  · exact q
  · have hm : isPure x = true := by
      have := List.mem_of_getElem? hx
      clear hx y q hJ j1 j2 j3
      induction xs with
      | nil => cases this
      | cons a l ih =>
        have h' : isPure a = true ∧ arePure l = true := by simpa [arePure] using hp
        rcases List.mem_cons.mp this with rfl | h
        · exact h'.1
        · exact ih h'.2 h
    exact Rep.pure (stills (Same.refl _) _ _ _ _) x v hm q
theorem wf_tg {own : List Nat} {tg : Expr} {fb : Str → Bool} (cx : Ctx P call N X k) (cs : CtxS P X) (h : targetsG N X.env.scope (fun _ => true) own tg = true) : PG X tg (gTg N tg X.K) := pg_tg (fb := fun _ => true) cx.calm cx.n cx.nd (fun x _ => cs.fn x) h
/-- for .. in range(..) -/
theorem t_for1 (cx : Ctx P call N X k) (cs : CtxS P X) (tk : Takes X W) (po : PassesOwn (model X.prog X.w) X.A X.env X.xe) {tg it : Expr} {body : List Stmt} {p : Pos} (hr : isRange it = true) (hi : wfI P N n X.env.scope (slotsE N n it) tg it = true)
    (ht : targetsG N X.env.scope (fun _ => true) (List.range N.length) tg = true) (hb : PSs X body (SJ X N W Hd H0 Mu (denSs P call N M n body))) (hs : noSet it = true) :
    PS X (.For tg it body [] p) (SJ X N W Hd H0 Mu (denS P call N M (n + 1) (.For tg it body [] p))) := by
  cases it with
  | Call fe es kws pc =>
    cases fe with
    | Name f pf =>
      cases kws with
      | cons _ _ => cases n <;> first | (cases hi; done) | (rename_i m; cases m <;> cases hi)
      | nil =>
      cases n with
      | zero => cases hi
      | succ m =>
      have hr' : nameIs f "range" = true := hr
      change (if nameIs f "range" = true then _ else _) = true at hi
      rw [if_pos hr'] at hi
      obtain ⟨hi, a4⟩ := and_split hi
      obtain ⟨hi, a3⟩ := and_split hi
      obtain ⟨a1, a2⟩ := and_split hi
      obtain ⟨hg, hm⟩ := blt_of cx a1 a2
      have e1 := nameIs_eq hr'
      have hst := wfA_star m a3
      have rd : ∀ (D : Ends) (H : Hp) (σ : L2.St), SJ X N W Hd H0 Mu (denS P call N M (m + 2) (.For tg (.Call (.Name f pf) es [] pc) body [] p)) D σ H → ∃ ρ own, SI X.K N Hd H0 H σ ρ own ∧
          Post X W σ H (denA P call N m es ρ) fun vs => SPost X N W Hd H0 Mu D H own (liftR ρ (rangeOf vs) fun xs => forLoop (fun x ρ => liftR ρ (bindTg N tg x ρ) fun ρ' => denSs P call N M (m + 1) body ρ') xs ρ) := by
        intro D H σ q
        obtain ⟨ρ, own, s, h⟩ := q
        refine ⟨ρ, own, s, ?_⟩
        change SPost X N W Hd H0 Mu D H own (if isRange (.Call (.Name f pf) es [] pc) = true then _ else _) at h
        rw [if_pos hr] at h
        have h2 : denI P call N (m + 1) (.Call (.Name f pf) es [] pc) ρ = R.bind (denA P call N m es ρ) rangeOf := by
          show (if nameIs f "range" = true then R.bind (denA P call N m es ρ) rangeOf
            else if nameIs f "enumerate" = true then R.bind (denA P call N m es ρ) enumOf
            else if nameIs f "zip" = true then R.bind (denA P call N m es ρ) zipOf
            else R.bind (denE P call N m (.Call (.Name f pf) es [] pc) ρ) items) = _
          rw [if_pos hr']
        rw [h2] at h
        cases ea : denA P call N m es ρ with
        | ok vs => rw [ea] at h; exact h
        | exc c fs =>
          rw [ea] at h
          exact fun cls d H' g e => h cls d σ H' own (s.grow g) (Step.same g) e
        | stuck => rw [ea] at h; exact h.elim
      have anyR : ∀ {lo : Int} {q : Nat} {H1 : Hp} {own1 : Nat → Option Addr} {σ : L2.St} {ρ : Env}, SI X.K N Hd H0 H1 σ ρ own1 → LoopIt X Hd Mu H1 own1 (rangeL lo q) (Itr lo q) :=
        fun s => loopIt_of s (I := []) (it_range _ _) (fun i h => by cases h) (.inl rfl)
      have anyC : ∀ {lo c : Int} {q : Nat} {H1 : Hp} {own1 : Nat → Option Addr} {σ : L2.St} {ρ : Env}, SI X.K N Hd H0 H1 σ ρ own1 → LoopIt X Hd Mu H1 own1 (rangeC lo c q) (Itc lo c q) :=
        fun s => loopIt_of s (I := []) (it_rangeC _ _ _) (fun i h => by cases h) (.inl rfl)
      subst e1
      match es, a4, a3, hst, rd with
      | [a], _, a3, hst, rd =>
        have hst' : noStar a = true := by simpa using hst
        refine (ps_for po cx.calm (pi_range1 hg hm ((sound m).a X k W cx tk _ [a] a3) (starEach_cons hst')) (wf_tg (fb := fun _ => true) cx cs ht) hb).imp fun D σ H q => ?_
        obtain ⟨ρ, own, s, h⟩ := rd _ _ _ q
        refine ⟨_, ρ, s.at _, h.monoOk fun zs ez hz vs H1 s1 rs => ?_⟩
        unfold rangeOf at hz
        split at hz
        · rename_i j
          obtain ⟨v, rfl, h⟩ := reps1 rs
          cases h
          by_cases hs : small j
          · simp only [need, if_pos hs, liftR] at hz
            refine ⟨j, rfl, hs.1, hs.2, ?_⟩
            exact for_core (s.grow s1) (anyR (s.grow s1)) (SPost.step hz (Step.same s1))
          · simp only [need, if_neg hs, liftR] at hz; exact hz.elim
        · have l := denA_len m _ _ _ ez
          cases l
        · have l := denA_len m _ _ _ ez
          cases l
        · exact hz.elim
      | [a, b], _, a3, hst, rd =>
        have hst' : noStar a = true ∧ noStar b = true := by simpa using hst
        refine (ps_for po cx.calm (pi_range2 hg hm ((sound m).a X k W cx tk _ [a, b] a3) (by rw [starEach_cons hst'.1, starEach_cons hst'.2]; rfl) (by rw [starEach_cons hst'.2]; rfl)) (wf_tg (fb := fun _ => true) cx cs ht) hb).imp fun D σ H q => ?_
        obtain ⟨ρ, own, s, h⟩ := rd _ _ _ q
        refine ⟨_, ρ, s.at _, h.monoOk fun zs ez hz vs H1 s1 rs => ?_⟩
        unfold rangeOf at hz
        split at hz
        · have l := denA_len m _ _ _ ez
          cases l
        · rename_i i j
          obtain ⟨v, w', rfl, h1, h2⟩ := reps2 rs
          cases h1; cases h2
          by_cases hs : small i ∧ small j
          · simp only [need, if_pos hs, liftR] at hz
            refine ⟨i, j, rfl, ⟨hs.1.1, hs.1.2, hs.2.1, hs.2.2⟩, ?_⟩
            exact for_core (s.grow s1) (anyR (s.grow s1)) (SPost.step hz (Step.same s1))
          · simp only [need, if_neg hs, liftR] at hz; exact hz.elim
        · have l := denA_len m _ _ _ ez
          cases l
        · exact hz.elim
      | [a, b, c], _, a3, hst, rd =>
        have hst' : noStar a = true ∧ noStar b = true ∧ noStar c = true := by simpa using hst
        refine (ps_for po cx.calm (pi_range3 hg hm ((sound m).a X k W cx tk _ [a, b, c] a3) (starEach_cons hst'.1) (by rw [starEach_cons hst'.2.1, starEach_cons hst'.2.2]; rfl)) (wf_tg (fb := fun _ => true) cx cs ht) hb).imp fun D σ H q => ?_
        obtain ⟨ρ, own, s, h⟩ := rd _ _ _ q
        refine ⟨_, ρ, s.at _, h.monoOk fun zs ez hz vs H1 s1 rs => ?_⟩
        unfold rangeOf at hz
        split at hz
        · have l := denA_len m _ _ _ ez
          cases l
        · have l := denA_len m _ _ _ ez
          cases l
        · rename_i i j c
          obtain ⟨v, w', u', rfl, h1, h2, h3⟩ := reps3 rs
          cases h1; cases h2; cases h3
          by_cases hs : small i ∧ small j ∧ (c = -1 ∨ (0 < c ∧ c < 1073741824))
          · simp only [need, if_pos hs, liftR] at hz
            refine ⟨i, j, c, stepN i j c, rfl, rgC_ok hs.1 hs.2.1 hs.2.2, ?_⟩
            exact for_core (s.grow s1) (anyC (s.grow s1)) (SPost.step hz (Step.same s1))
          · simp only [need, if_neg hs, liftR] at hz; exact hz.elim
        · exact hz.elim
    | _ => cases hr
  | _ => cases hr
theorem disjoint_ok {a b : List Nat} (h : disjoint a b = true) (hb : ∀ i ∈ b, i ∈ b) : ∀ i ∈ a, i ∉ b := by
  intro i hi
  have := List.all_eq_true.mp h i hi
  simpa using this
/-- what is behind the evaluation of what a loop walks -/
theorem loop_env (s : SI X.K N Hd H0 H σ ρ own) (g : Same H H1) {I : List Nat} {xs : List PV} {J : It} (hJ : ItFor (view X.K Hd own I) H1 xs J) (hd : ∀ i ∈ I, i ∉ Mu) :
    ∃ own1, SI X.K N Hd H0 H1 σ (if arePure xs = true then ρ else freeze I ρ) own1 ∧ Step Mu H own H1 own1 ∧ LoopIt X Hd Mu H1 own1 xs J := by
  by_cases hp : arePure xs = true
  · rw [if_pos hp]
    exact ⟨own, s.grow g, Step.same g, loopIt_of (s.grow g) hJ hd (.inr hp)⟩
  · rw [if_neg hp]
    have sf := (s.grow g).freeze I
    refine ⟨_, sf, (Step.same g).trans Step.without, loopIt_of sf (I := []) (fun r' i H kp => hJ r' i H ?_) (fun i h => by cases h) (.inl rfl)⟩
    exact ⟨kp.k, fun b o h hb => kp.obj b o h (hb.imp (fun n z => n ((view_free s I).mp z)) fun h => h), fun b o h n => kp.hid b o h fun z => n ((view_free s I).mp z), kp.ex⟩
theorem arePure_signs : ∀ ys : List Nat, arePure (ys.map fun c => PV.str [c]) = true
  | [] => rfl
  | y :: ys => by show (true && arePure _) = true; rw [arePure_signs ys]; rfl
/-- enumerate, zip -/
theorem t_for2 (cx : Ctx P call N X k) (cs : CtxS P X) (tk : Takes X W) (po : PassesOwn (model X.prog X.w) X.A X.env X.xe) {tg it : Expr} {body : List Stmt} {p : Pos} (hr : isRange it = false) (hw : isWalk it = true) (hi : wfI P N n X.env.scope (slotsE N n it) tg it = true)
    (ht : targetsG N X.env.scope (fun _ => true) (List.range N.length) tg = true) (hb : PSs X body (SJ X N W Hd H0 Mu (denSs P call N M n body))) (hs : noSet it = true) (hMu : ∀ i ∈ Mu, i ∈ mutSs N body) :
    PS X (.For tg it body [] p) (SJ X N W Hd H0 Mu (denS P call N M (n + 1) (.For tg it body [] p))) := by
  refine (ps_for po cx.calm ((sound n).i X k W cx tk _ tg it hi) (wf_tg (fb := fun _ => true) cx cs ht) hb (fun x => by cases it <;> first | rfl | (cases hs))).imp fun D σ H q => ?_
  obtain ⟨ρ, own, s, h⟩ := q
  have h : SPost X N W Hd H0 Mu D H own (if isRange it = true then
        liftR ρ (denI P call N n it ρ) fun xs => forLoop (fun x ρ => liftR ρ (bindTg N tg x ρ) fun ρ' => denSs P call N M n body ρ') xs ρ
      else if isWalk it = true then
        if disjoint (slotsE N n it) (mutSs N body) = true then
          liftR ρ (denI P call N n it ρ) fun xs => forLoop (fun x ρ => liftR ρ (bindTg N tg x ρ) fun ρ' => denSs P call N M n body ρ') xs (if arePure xs = true then ρ else freeze (slotsE N n it) ρ)
        else .stuck
      else liftR ρ (denE P call N n it ρ) fun v => liftR ρ (items v) fun xs =>
        if (isPure v || (freshE P it && heldPure v) || disjoint (slotsE N n it) (mutSs N body)) = true then
          forLoop (fun x ρ => liftR ρ (bindTg N tg x ρ) fun ρ' => denSs P call N M n body ρ') xs (if arePure xs = true then ρ else freeze (slotsE N n it) ρ)
        else .stuck) := h
  rw [hr, if_neg (by decide), if_pos hw] at h
  by_cases hd : disjoint (slotsE N n it) (mutSs N body) = true
  · rw [if_pos hd] at h
    refine ⟨_, ρ, s.at _, (SPost.lift s h).mono fun xs hxs J H1 s1 hJ _ => ?_⟩
    obtain ⟨own1, s', st, hL⟩ := loop_env (Mu := Mu) s s1 hJ fun i hi hm => disjoint_ok hd (fun _ h => h) i hi (hMu i hm)
    exact for_core s' hL (SPost.step hxs st)
  · rw [if_neg hd] at h; exact h.elim
/-- the rest -/
theorem t_for3 (cx : Ctx P call N X k) (cs : CtxS P X) (tk : Takes X W) (po : PassesOwn (model X.prog X.w) X.A X.env X.xe) {tg it : Expr} {body : List Stmt} {p : Pos} (hr : isRange it = false) (hw : isWalk it = false) (hi : wfE P N n X.env.scope (slotsE N n it) it = true)
    (ht : targetsG N X.env.scope (fun _ => true) (List.range N.length) tg = true) (hb : PSs X body (SJ X N W Hd H0 Mu (denSs P call N M n body))) (hs : noSet it = true) (hMu : ∀ i ∈ Mu, i ∈ mutSs N body) :
    PS X (.For tg it body [] p) (SJ X N W Hd H0 Mu (denS P call N M (n + 1) (.For tg it body [] p))) := by
  refine (ps_for po cx.calm (pi_any ((sound n).e X k W cx tk _ it hi)) (wf_tg (fb := fun _ => true) cx cs ht) hb (fun x => by cases it <;> first | rfl | (cases hs))).imp fun D σ H q => ?_
  obtain ⟨ρ, own, s, h⟩ := q
  have h : SPost X N W Hd H0 Mu D H own (if isRange it = true then
        liftR ρ (denI P call N n it ρ) fun xs => forLoop (fun x ρ => liftR ρ (bindTg N tg x ρ) fun ρ' => denSs P call N M n body ρ') xs ρ
      else if isWalk it = true then
        if disjoint (slotsE N n it) (mutSs N body) = true then
          liftR ρ (denI P call N n it ρ) fun xs => forLoop (fun x ρ => liftR ρ (bindTg N tg x ρ) fun ρ' => denSs P call N M n body ρ') xs (if arePure xs = true then ρ else freeze (slotsE N n it) ρ)
        else .stuck
      else liftR ρ (denE P call N n it ρ) fun v => liftR ρ (items v) fun xs =>
        if (isPure v || (freshE P it && heldPure v) || disjoint (slotsE N n it) (mutSs N body)) = true then
          forLoop (fun x ρ => liftR ρ (bindTg N tg x ρ) fun ρ' => denSs P call N M n body ρ') xs (if arePure xs = true then ρ else freeze (slotsE N n it) ρ)
        else .stuck) := h
  rw [hr, if_neg (by decide), hw, if_neg (by decide)] at h
  refine tE.of (s.at _) (SPost.lift s h) fun v hv w H1 s1 r f => ?_
  have hx : ∀ c fs, items v ≠ .exc c fs := by intro c fs e; unfold items at e; split at e <;> cases e
  obtain ⟨xs, e1, q⟩ := (SPost.lift s hv).pure hx
  by_cases hp : (isPure v || (freshE P it && heldPure v)) = true
  · rw [hp, Bool.true_or, if_pos rfl] at q
    have r2 : Rep (view X.K Hd own []) H1 w v := by
      obtain ⟨own', s', r', m⟩ := s.settle s1 r f
      have hs' : PyV.settle (freshE P it) v (slotsE N n it) ρ = ρ := by unfold PyV.settle; rw [if_pos hp]
      rw [hs'] at s'
      have : ∀ b, (view X.K Hd own []).S b → (view X.K Hd own' []).S b := by
        rintro b (z | ⟨i, z, hn⟩)
        · exact .inl z
        · obtain ⟨_, x, e, _⟩ := s.own1 i b z
          cases ho : own' i with
          | none => exact absurd ho (s'.flag i x e)
          | some b' =>
            have := m i b' ho
            rw [z] at this; cases this
            exact .inr ⟨i, ho, hn⟩
      have kp : Keeps (view X.K Hd own' []) H1 (view X.K Hd own []) H1 := ⟨rfl, fun _ _ h _ => h, fun b o _ n z => n (this b z), fun _ _ h => h⟩
      exact Rep.keep kp _ _ r'
    have pure_xs : arePure xs = true := by
      rcases Bool.or_eq_true_iff.mp hp with hp | hp
      · cases v with
        | tup ys => cases e1; simpa [isPure] using hp
        | str ys =>
          cases e1
          exact arePure_signs ys
        | lst => simp [isPure] at hp
        | dic => simp [isPure] at hp
        | scr => simp [isPure] at hp
        | ob => simp [isPure] at hp
        | non => cases e1
        | bl => cases e1
        | int => cases e1
      · obtain ⟨_, hp⟩ := and_split hp
        cases v with
        | lst ys => cases e1; exact hp
        | dic => cases e1
        | _ => cases hp
    rw [if_pos pure_xs] at q
    refine ⟨_, v, xs, rfl, r2, e1, fun J hJ _ => ?_⟩
    exact for_core (s.grow s1) (loopIt_of (s.grow s1) hJ (fun i h => by cases h) (.inl rfl)) (SPost.step q (Step.same s1))
  · have hp : (isPure v || (freshE P it && heldPure v)) = false := by simpa using hp
    rw [hp, Bool.false_or] at q
    by_cases hd : disjoint (slotsE N n it) (mutSs N body) = true
    · rw [if_pos hd] at q
      refine ⟨_, v, xs, rfl, r, e1, fun J hJ _ => ?_⟩
      obtain ⟨own1, s', st, hL⟩ := loop_env (Mu := Mu) s s1 hJ fun i hi hm => disjoint_ok hd (fun _ h => h) i hi (hMu i hm)
      exact for_core s' hL (SPost.step q st)
    · rw [if_neg hd] at q; exact q.elim
/-! ### while -/
theorem t_while (cx : Ctx P call N X k) (tk : Takes X W) (po : PassesOwn (model X.prog X.w) X.A X.env X.xe) {c : Expr} {body : List Stmt} {p : Pos} (hc : wfT P N n X.env.scope (slotsE N n c) c = true) (hb : PSs X body (SJ X N W Hd H0 Mu (denSs P call N M n body))) :
    PS X (.While c body [] p) (SJ X N W Hd H0 Mu (denS P call N M (n + 1) (.While c body [] p))) := by
  refine (ps_while po ((sound n).t X k W cx tk (slotsE N n c) c hc) hb).imp fun D σ H q => ?_
  obtain ⟨ρ, own, s, h⟩ := q
  have h : SPost X N W Hd H0 Mu D H own (whileLoop (fun ρ => denT P call N n c ρ) (fun ρ => denSs P call N M n body ρ) M ρ) := h
  refine ⟨fun m σ' H' => ∃ ρ' own', SI X.K N Hd H0 H' σ' ρ' own' ∧ Step Mu H own H' own' ∧ SPost X N W Hd H0 Mu D H' own' (whileLoop (fun ρ => denT P call N n c ρ) (fun ρ => denSs P call N M n body ρ) m ρ'), ⟨M, ρ, own, s, Step.refl, h⟩, ?_⟩
  rintro m σ' H' ⟨ρ', own', s', st, h'⟩
  cases m with
  | zero => exact h'.elim
  | succ m =>
    have h' : SPost X N W Hd H0 Mu D H' own' (liftR ρ' (denT P call N n c ρ') fun k => if k = true then
      match denSs P call N M n body ρ' with
      | .nx ρ' => whileLoop (fun ρ => denT P call N n c ρ) (fun ρ => denSs P call N M n body ρ) m ρ'
      | .ct ρ' => whileLoop (fun ρ => denT P call N n c ρ) (fun ρ => denSs P call N M n body ρ) m ρ'
      | .bk ρ' => .nx ρ'
      | o => o
    else .nx ρ') := h'
    refine tT.of (s'.at _) (SPost.lift s' h') fun z hz H1 s1 => ?_
    cases z with
    | false => exact hz σ' H1 own' (s'.grow s1) (Step.same s1)
    | true =>
      simp only [if_true] at hz ⊢
      refine ⟨fun σ2 H2 => ∃ ρ2 own2, SI X.K N Hd H0 H2 σ2 ρ2 own2 ∧ Step Mu H own H2 own2 ∧ SPost X N W Hd H0 Mu D H2 own2 (whileLoop (fun ρ => denT P call N n c ρ) (fun ρ => denSs P call N M n body ρ) m ρ2), fun σ2 H2 q => ⟨m, Nat.lt_succ_self m, q⟩, ρ', own', s'.grow s1, ?_⟩
      have st1 : Step Mu H' own' H1 own' := Step.same s1
      cases hd : denSs P call N M n body ρ' with
      | nx ρ3 =>
        rw [hd] at hz
        exact fun σ4 H4 own4 s4 t4 => ⟨ρ3, own4, s4, (st.trans st1).trans t4, SPost.step hz (st1.trans t4)⟩
      | ct ρ3 =>
        rw [hd] at hz
        exact fun σ4 H4 own4 s4 t4 => ⟨ρ3, own4, s4, (st.trans st1).trans t4, SPost.step hz (st1.trans t4)⟩
      | bk ρ3 =>
        rw [hd] at hz
        exact fun σ4 H4 own4 s4 t4 => hz σ4 H4 own4 s4 (st1.trans t4)
      | ret v fl => rw [hd] at hz; exact hz
      | exc c fs ρ3 =>
        rw [hd] at hz
        exact fun cls d σ4 H4 own4 s4 t4 er => hz cls d σ4 H4 own4 s4 (st1.trans t4) er
      | stuck => rw [hd] at hz; exact hz.elim
/-! ### raise -/
theorem t_raise (cx : Ctx P call N X k) (cs : CtxS P X) (tk : Takes X W) {c m : Str} {pc pm p pp : Pos} {j : Nat} (hg : glB X.env.scope c = true) (hp : plainB c = true) :
    PS X (.Raise (some (.Call (.Name c pc) [.Constant (.str m) j pm] [] p)) none pp) (SJ X N W Hd H0 Mu (denS P call N M (n + 1) (.Raise (some (.Call (.Name c pc) [.Constant (.str m) j pm] [] p)) none pp))) := by
  obtain ⟨p1, p2, p3⟩ := plainB_ok hp
  refine ⟨fun pins s0 σ H D I q => ?_⟩
  obtain ⟨ρ, own, s, h⟩ := q
  have h : SPost X N W Hd H0 Mu D H own (match P.excs.lookup c with
      | some d => if d.fields.isEmpty = true then .exc c [] ρ else .stuck
      | none => .stuck) := h
  cases e : P.excs.lookup c with
  | none => simp only [e] at h; exact h.elim
  | some d =>
    simp only [e] at h
    by_cases hf : d.fields.isEmpty = true
    · rw [if_pos hf] at h
      obtain ⟨C, m1, m2, m3, m4, m5, _⟩ := cs.exc.cls c d e
      obtain ⟨x1, _⟩ := m5 (by simpa using hf)
      refine (ps_raise cx.calm tk (pmk_own PySem.F.excBase_ValueError x1 m1 m2 (raises_own m3 m4) (glB_ok hg) p1)).run pins s0 σ H D I ?_
      exact h (.ref C) none σ H own s Step.refl ⟨C, m1, rfl, .inl ⟨rfl, rfl⟩⟩
    · rw [if_neg hf] at h; exact h.elim
end
end PyV
set_option Elab.async false
set_option linter.all false
set_option maxRecDepth 100000
set_option maxHeartbeats 1000000
/-! Layer PyV, part 10: try. -/
namespace L2
open PySem PySem.Spec PyProof.Rows
abbrev Cl := Value × Option Nat × (Addr → Value → Option Addr → TS)
/-- what the clauses wish of an exception of the body, one after the other; a clause may name it -/
def wMix (K : PySem.W.Frag) (Wout : WX) (D : Ends) : List Cl → WX
  | [] => Wout
  | (c, o, ts) :: r => fun cls d σ H => ∃ b, PySem.W.exmOne K cls c = some b ∧
    (b = true → ∀ a, H a = none → match o with
      | none => ts a cls d D σ H
      | some i => ts a cls d { nx := fun σ' H' => D.nx (σ'.set i none) H', rt := D.rt, bk := fun σ' H' => D.bk (σ'.set i none) H', ct := fun σ' H' => D.ct (σ'.set i none) H' } (σ.set i (some (.ref a))) H) ∧
    (b = false → wMix K Wout D r cls d σ H)
inductive HdsMix (X : Cx) : List ExceptHandler → List Cl → Prop
  | nil : HdsMix X [] []
  | cons {x : Str} {c : Value} {ts : Addr → Value → Option Addr → TS} {b₀ : Stmt} {suite : List Stmt} {np pos' : Pos} {nm : Option Str} {o : Option Nat} {hds : List ExceptHandler} {l : List Cl} (hc : Names X x c)
      (ho : (nm = none ∧ o = none) ∨ ∃ n i, nm = some n ∧ o = some i ∧ X.N[i]? = some n ∧ X.env.kindOf n = some .local)
      (hsu : ∀ (a : Addr) (oe : Obj) (cls : Value) (d : Option Addr) (pn : List (Addr × Obj)), Zc cls d oe → (∃ vs, oe.data = .fields vs) → PSs (X.suite a ((a, oe) :: pn)) (b₀ :: suite) (ts a cls d)) (r : HdsMix X hds l) :
      HdsMix X (.ExceptHandler (some (.Name x np)) nm (b₀ :: suite) pos' :: hds) ((c, o, ts) :: l)
section
variable {X : Cx} {body : List Stmt} {h₀ : ExceptHandler} {hds : List ExceptHandler} {l : List Cl} {pos : Pos} {tb : WX → TS} {Wout : WX}
theorem ps_try_mix (hs : X.stack = X.env :: X.outer) (hf : X.env.frame = some X.env.locals) (hN : X.N.Nodup) (tk : Takes X Wout)
    (hb : ∀ (W : WX) (pn : List (Addr × Obj)) (xe : Value → Shared → Prop), Takes (X.tr pn xe) W → PassesOwn (model X.prog X.w) X.A X.env xe → PSs (X.tr pn xe) body (tb W))
    (hh : HdsMix X (h₀ :: hds) l) : PS X (.Try body (h₀ :: hds) [] [] pos) (fun D σ H => tb (wMix X.K Wout D l) D σ H) := by
  refine ⟨fun pins s σ H D I h => ?_⟩
  have ok := I.ok
  have hfr : X.A.frames = some (X.env :: X.outer) := by rw [ok.frames, hs]
  refine wpAny_Try_except ?_
  refine wpAny_mono ((hb (wMix X.K Wout D l) (X.pn ++ pins) (fun e s₁ => wpAny (model X.prog X.w) X.A (noteFrame e X.env) (fun _ s₂ => wpAny (model X.prog X.w) X.A (setFlight e none) (fun _ s₃ =>
    wpAny (model X.prog X.w) X.A (handleBy e X.env (h₀ :: hds)) (SP X pins D) X.xe s₃) X.xe s₂) X.xe s₁) (fun u s' xx => ?_) PassesOwn.looking).run [] s σ H D (I.toTry _) h) (fun f s1 hsp => ?_) (fun e s1 he => he)
  · obtain ⟨a, B, sI, pins', σ', H', cls, d, rfl, J', nb, up, sky, na, os, ag, w⟩ := xx
    have J : Inv X pins σ' H' sI := J'.ofTry ok
    have sky' : Sky B (X.env :: X.outer) a (Zc cls d) X.env.locals s'.heap := by rw [← hs]; exact sky
    show wpAny (model X.prog X.w) X.A (noteFrame (.ref a) X.env) _ _ _
    refine Sky.land Zc.steady hfr hf sky' fun h3 fl3 up3 => ?_
    have J3 : Inv X pins σ' H' { s' with heap := h3 } := J.landed nb fl3.1 (up.trans up3) os ag
    obtain ⟨oe3, vs3, he3, hz3, hd3⟩ := fl3.there
    have notFr : ∀ {h : Heap} {o : Obj} {vs : Array Value}, h.FunFrames B (X.env :: X.outer) → h.get? a = some o → o.data = .fields vs → a ∉ frs (X.env :: X.outer) := fun {h o vs} ff e dd hm => by
      obtain ⟨_, o', e', hnf⟩ := ff.mem hm
      rw [e] at e'; cases e'
      exact hnf _ dd
    have nfr := notFr fl3.2.2.1 he3 hd3
    have nL : a ≠ X.env.locals := fun z => nfr (List.mem_filterMap.mpr ⟨X.env, List.mem_cons_self, by rw [hf, z]⟩)
    have nF : a ∉ X.fs := fun hm => by
      obtain ⟨e, he, q⟩ := List.mem_filterMap.mp hm
      exact nfr (List.mem_filterMap.mpr ⟨e, List.mem_cons_of_mem _ he, q⟩)
    have S3 := J3.suite he3 hd3 na nL nF
    have go : ∀ {hds' : List ExceptHandler} {l' : List Cl}, HdsMix X hds' l' → wMix X.K Wout D l' cls d σ' H' →
        wpAny (model X.prog X.w) X.A (handleBy (.ref a) X.env hds') (SP X pins D) X.xe { s' with heap := h3 } := by
      intro hds' l' hk
      induction hk with
      | nil =>
        intro w
        refine wpAny_handleBy_nil ?_
        obtain ⟨k1, k2, k3, oe, vs, T, oT, ts', he, hz, hd, h1, hr⟩ := _root_.id fl3
        unfold PySem.passOn
        refine wpAny_bind (wpAny_field he hd h1 ?_)
        rw [if_neg (show ¬ ((Value.ref T == Value.none) = true) from by simp)]
        have fin : wpAny (model X.prog X.w) X.A (setFlight (.ref a) X.env.frame) (fun _ s4 => wpAny (model X.prog X.w) X.A (throw (.ref a) : Sem Flow) (SP X pins D) X.xe s4) X.xe { s' with heap := h3 } := by
          rw [hf]
          refine HandSPX.setFlight_upZ fl3 fun h4 hh4 up4 => wpAny_throw (tk _ _ ?_)
          exact ⟨a, B, sI, pins, σ', H', cls, d, rfl, J, nb, (up.trans up3).trans up4, .inr (.inr (by rw [hs]; exact hh4)), na, os, ag, w⟩
        first
          | exact wpAny_bind (wpAny_pure (wpAny_bind fin))
          | exact wpAny_bind fin
      | @cons x c ts b₀ suite np pos' nm o hds2 l2 hc ho hsu r ih =>
        intro w
        obtain ⟨b, hb1, hyes, hno⟩ := w
        refine wpAny_handleBy_cons (codeAny_handlers_test ?_) (by intro q; cases q)
        have LT : PySem.W.Looks (model X.prog X.w) h3 (typeOf (.ref a)) cls := fun A Q E s k q => wpAny_typeOf_ref (k _ _ he3) (by rw [hz3.1]; exact q)
        have LM := PySem.W.exm_one (M := model X.prog X.w) (J3.kIn) LT hb1
        have test : ∀ {Q : Value → Shared → Prop} {E : Value → Shared → Prop}, Q c { s' with heap := h3 } → wpAny (model X.prog X.w) (X.A.mark (some (.ref a))) (eval (.Name x np) X.env) Q E { s' with heap := h3 } := fun {Q E} q => by
          obtain ⟨hg, hdbg, hm | ⟨hm, hv, hnn⟩⟩ := hc
          · exact ld_glob (X := X.suite a ((a, oe3) :: (X.pn ++ pins))) S3 hg hm q hdbg
          · exact ld_blt (X := X.suite a ((a, oe3) :: (X.pn ++ pins))) S3 hg hm hv q hnn hdbg
        refine test (LM.here ?_)
        cases b with
        | true =>
          rcases ho with ⟨rfl, rfl⟩ | ⟨n, i, rfl, rfl, hi, hln⟩
          · refine codeAny_handlers_suite ?_
            refine HandSPX.lands_againZ fl3 fun h4 fl4 up4 => ?_
            have J4 : Inv X pins σ' H' { s' with heap := h4 } := J.landed nb fl4.1 ((up.trans up3).trans up4) os ag
            obtain ⟨oe4, vs4, he4, hz4, hd4⟩ := fl4.there
            have S4 := J4.suite he4 hd4 na nL nF
            refine wpAny_mono ((hsu a oe4 cls d (X.pn ++ pins) hz4 ⟨_, hd4⟩).run [] _ _ H' _ S4 (hyes rfl a na)) (fun f s6 hsp => ?_) (fun _ _ z => False.elim z)
            cases f with
            | next =>
              obtain ⟨σ6, H6, S6, q6⟩ := hsp
              exact ⟨_, _, S6.unsuite ok, q6⟩
            | brk =>
              obtain ⟨σ6, H6, S6, q6⟩ := hsp
              exact ⟨_, _, S6.unsuite ok, q6⟩
            | cont =>
              obtain ⟨σ6, H6, S6, q6⟩ := hsp
              exact ⟨_, _, S6.unsuite ok, q6⟩
            | ret u =>
              obtain ⟨v6, σ6, H6, S6, r6, q6⟩ := hsp
              exact ⟨_, _, _, S6.unsuite ok, r6, q6⟩
          · refine codeAny_handlers_suite_as ?_
            refine HandSPX.lands_againZ fl3 fun h4 fl4 up4 => ?_
            have J4 : Inv X pins σ' H' { s' with heap := h4 } := J.landed nb fl4.1 ((up.trans up3).trans up4) os ag
            obtain ⟨oe4, vs4, he4, hz4, hd4⟩ := fl4.there
            have S4 := J4.suite he4 hd4 na nL nF
            refine store_ok (X := X.suite a ((a, oe4) :: (X.pn ++ pins))) (v := .ref a) S4 hN hi (.inl hln) rfl (fun s5 S5 => ?_) (.inr hln)
            refine wpAny_mono ((hsu a oe4 cls d (X.pn ++ pins) hz4 ⟨_, hd4⟩).run [] s5 _ H' _ S5 (hyes rfl a na)) (fun f s6 hsp => ?_) (fun _ _ z => False.elim z)
            have end_ : ∀ {σ6 : St} {H6 : Hp} {Q : Shared → Prop}, Inv (X.suite a ((a, oe4) :: (X.pn ++ pins))) [] σ6 H6 s6 → (∀ s7, Inv X pins (σ6.set i none) H6 s7 → Q s7) →
                wpAny (model X.prog X.w) X.A (do bindName X.env n .none; unbindBehindTheSuite X.env n pos') (fun _ s7 => Q s7) X.xe s6 := fun {σ6 H6 Q} S6 hq => gone_ok (S6.unsuite ok) hN hi hln hq
            cases f with
            | next =>
              obtain ⟨σ6, H6, S6, q6⟩ := hsp
              exact end_ S6 fun s7 J7 => ⟨_, _, J7, q6⟩
            | brk =>
              obtain ⟨σ6, H6, S6, q6⟩ := hsp
              exact end_ S6 fun s7 J7 => ⟨_, _, J7, q6⟩
            | cont =>
              obtain ⟨σ6, H6, S6, q6⟩ := hsp
              exact end_ S6 fun s7 J7 => ⟨_, _, J7, q6⟩
            | ret u =>
              obtain ⟨v6, σ6, H6, S6, r6, q6⟩ := hsp
              exact end_ S6 fun s7 J7 => ⟨_, _, _, J7, r6, q6⟩
        | false =>
          show wpAny _ X.A (handleBy (.ref a) X.env hds2) _ _ _
          exact ih (hno rfl)
    exact go hh w
  · cases f with
    | next =>
      obtain ⟨σ', H', J', q⟩ := hsp
      exact wpAny_execs_nil ⟨σ', H', J'.ofTry ok, q⟩
    | brk =>
      obtain ⟨σ', H', J', q⟩ := hsp
      exact ⟨σ', H', J'.ofTry ok, q⟩
    | cont =>
      obtain ⟨σ', H', J', q⟩ := hsp
      exact ⟨σ', H', J'.ofTry ok, q⟩
    | ret u =>
      obtain ⟨v, σ', H', J', r, q⟩ := hsp
      exact ⟨v, σ', H', J'.ofTry ok, r, q⟩
end
end L2
set_option Elab.async false
set_option linter.all false
set_option maxRecDepth 100000
set_option maxHeartbeats 1000000
/-! Layer PyV, part 11: except suites, all statements. -/
namespace PyV
open PySem PySem.Spec PyProof.Rows L2

def wfV (P : Prog) (sc : Scope) : Nat → Expr → Bool
  | 0, _ => false
  | n + 1, e => match e with
    | .Constant k _ _ => goodB k
    | .Tuple [a, b] _ _ => wfV P sc n a && wfV P sc n b && noStar a && noStar b
    | .Tuple [a] _ _ => wfV P sc n a && noStar a
    | .Attribute (.Name x _) f _ => plainB x && visB sc x
    | .Call (.Name g _) [.Name x _, .Name y _] [] _ => plainB x && visB sc x && callee P sc g && (P.fns.lookup g).isNone && plainB y && glB sc y
    | .IfExp (.Call (.Name g _) [.Name x _, .Name y _] [] _) a b _ => plainB x && visB sc x && callee P sc g && (P.fns.lookup g).isNone && plainB y && glB sc y && wfV P sc n a && wfV P sc n b
    | _ => false
/-- an except suite: a plain return, continue or pass -/
def suiteB (P : Prog) (sc : Scope) (n : Nat) (nm : Option Str) : List Stmt → Bool
  | [.Return (some e) _] => wfV P sc n e
  | [.Continue _] => nm.isNone
  | [.Pass _] => nm.isNone
  | _ => false
def wfH (P : Prog) (N : List Str) (sc : Scope) (n : Nat) : List ExceptHandler → Bool
  | [] => true
  | .ExceptHandler (some (.Name x _)) nm (b :: suite) _ :: r => glB sc x && plainB x && (P.excs.lookup x).isSome && (match nm with | none => true | some y => sc.names.lookup y == some .local && (slotOf N y).isSome) && suiteB P sc n nm (b :: suite) && wfH P N sc n r
  | _ => false
section
variable {P : Prog} {call : Str → List PV → R PV} {N : List Str} {M : Nat} {X : Cx} {k : Nat} {W : WX} {Hd : Addr → Prop} {H0 H H1 : Hp} {Mu Mu' : List Nat} {D : Ends} {own own1 : Nat → Option Addr} {σ : L2.St} {ρ : Env} {n : Nat}
structure SuiteAt (K : PySem.W.Frag) (mg : Str → Option Value) (N : List Str) (c : Str) (fs : List (Str × PV)) (nm : Option Str) (a : Addr) (cls : Value) (d : Option Addr) (σ : L2.St) (H : Hp) : Prop where
  ex : ExRep K mg c fs cls d H
  slot : ∀ x, nm = some x → ∃ i, slotOf N x = some i ∧ σ[i]? = some (some (.ref a))
theorem RepF.same {K : PySem.W.Frag} {H H' : Hp} (g : Same H H') : ∀ {vs : List (Str × V)} {xs : List (Str × PV)}, RepF K H vs xs → RepF K H' vs xs
  | _, _, .nil => .nil
  | _, _, .cons h1 h2 t => .cons h1 (fun r hr => (h2 r hr).same g) (RepF.same g t)
theorem ExRep.same {K : PySem.W.Frag} {mg : Str → Option Value} {c : Str} {fs : List (Str × PV)} {cls : Value} {d : Option Addr} {H H' : Hp} (g : Same H H') (h : ExRep K mg c fs cls d H) : ExRep K mg c fs cls d H' := by
  obtain ⟨C, h1, h2, h3⟩ := h
  refine ⟨C, h1, h2, h3.imp (fun h => h) fun ⟨h, dx, vs, e1, e2, e3⟩ => ⟨h, dx, vs, e1, g _ _ e2, e3.same g⟩⟩
theorem SuiteAt.same {K : PySem.W.Frag} {mg : Str → Option Value} {c : Str} {fs : List (Str × PV)} {nm : Option Str} {a : Addr} {cls : Value} {d : Option Addr} {H H' : Hp} (g : Same H H') (h : SuiteAt K mg N c fs nm a cls d σ H) : SuiteAt K mg N c fs nm a cls d σ H' := ⟨h.ex.same g, h.slot⟩
theorem RepF.get {K : PySem.W.Frag} {H : Hp} {f : Str} {x : PV} : ∀ {vs : List (Str × V)} {xs : List (Str × PV)}, RepF K H vs xs → xs.lookup f = some x → ∃ v, vs.lookup f = some v ∧ isPure x = true ∧ ∀ r : Rc, r.K = K → Rep r H v x
  | _, _, .nil, h => by cases h
  | _, _, .cons (f := g) (v := v) (x := y) h1 h2 t, h => by
    rw [List.lookup_cons] at h
    rw [List.lookup_cons]
    cases e : f == g with
    | true => rw [e] at h; cases h; exact ⟨v, rfl, h1, h2⟩
    | false => rw [e] at h; exact RepF.get t h
def svR (X : Cx) (P : Prog) (N : List Str) (c : Str) (fs : List (Str × PV)) (nm : Option Str) (a : Addr) (cls : Value) (d : Option Addr) (n : Nat) (e : Expr) : TE := fun σ H Q => SuiteAt X.K X.mg N c fs nm a cls d σ H ∧ ∃ v, suiteV P c fs nm n e = .ok v ∧
  ∀ w H', Same H H' → (∀ r : Rc, r.K = X.K → Rep r H' w v) → Q w H'
theorem sv_pe (cx : Ctx P call N X k) (cs : CtxS P X) {c : Str} {fs : List (Str × PV)} {nm : Option Str} {a : Addr} {oe : Obj} {cls : Value} {d : Option Addr} {pn : List (Addr × Obj)} (hz : Zc cls d oe) (hf : ∃ vs, oe.data = .fields vs) :
    ∀ (n : Nat) (e : Expr), wfV P X.env.scope n e = true → PE (X.suite a ((a, oe) :: pn)) e (svR X P N c fs nm a cls d n e)
  | 0, _, h => by cases h
  | n + 1, e, h => by
    have test : ∀ {g x y : Str} {p1 p2 p3 p4 : Pos}, (plainB x && visB X.env.scope x && callee P X.env.scope g && (P.fns.lookup g).isNone && plainB y && glB X.env.scope y) = true →
        ∀ {σ : L2.St} {H : Hp} {b : Bool}, SuiteAt X.K X.mg N c fs nm a cls d σ H → nameIs g "isinstance" = true → nm = some x → fs = [] → plainExc P c = true → excMatch P c y = some b →
        ∃ t : TE, PE (X.suite a ((a, oe) :: pn)) (.Call (.Name g p1) [.Name x p2, .Name y p3] [] p4) t ∧ ∀ Q : VK, Q (.bl b) H → t σ H Q := by
      intro g x y p1 p2 p3 p4 hw σ H b sa hg hn hfs hpl hm
      obtain ⟨hw, w6⟩ := and_split hw
      obtain ⟨hw, w5⟩ := and_split hw
      obtain ⟨hw, w4⟩ := and_split hw
      obtain ⟨hw, w3⟩ := and_split hw
      obtain ⟨w1, w2⟩ := and_split hw
      obtain ⟨q1, q2, q3⟩ := plainB_ok w1
      obtain ⟨r1, r2, r3⟩ := plainB_ok w5
      obtain ⟨gG, gM⟩ := blt_of cx w3 w4
      have w3' := w3
      simp only [callee, Bool.and_eq_true] at w3'
      obtain ⟨s1, s2, s3⟩ := plainB_ok w3'.1.2
      obtain ⟨i, i1, i2⟩ := sa.slot x hn
      obtain ⟨C, m1, rfl, m3⟩ := sa.ex
      have hd : d = none := by
        rcases m3 with m3 | m3
        · exact m3.2
        · exact absurd hfs m3.1
      subst hd
      have hexc := hm
      unfold excMatch at hexc
      cases ec : P.excs.lookup c with
      | none => rw [ec] at hexc; cases hexc
      | some dc =>
        cases ey : P.excs.lookup y with
        | none => rw [ec, ey] at hexc; cases hexc
        | some dy =>
          obtain ⟨C', c1, c2, c3, c4, c5, _⟩ := cs.exc.cls c dc ec
          rw [m1] at c1; cases c1
          obtain ⟨Cy, y1, _⟩ := cs.exc.cls y dy ey
          have hfl : dc.fields = [] := by
            unfold plainExc at hpl
            rw [ec] at hpl
            simpa using hpl
          obtain ⟨_, exC⟩ := c5 hfl
          obtain ⟨_, kit⟩ := cs.exc.exm c y b C Cy hm m1 y1
          have e1 := nameIs_eq hg
          have iN : (X.suite a ((a, oe) :: pn)).N[i]? = some x := by
            show X.N[i]? = some x
            rw [cx.n]; exact slotOf_get i1
          refine ⟨_, pe_callB (X := X.suite a ((a, oe) :: pn)) (call_isE exC hz hf) gG gM (by rw [e1]; exact boot_isinstance) (pa_cons (pe_var (i := i) iN (visB_ok w2) q1 q2) (pa_cons (pe_glob (v := .ref Cy) (glB_ok (X := X) w6) y1 rfl r1) pa_nil)) s3 s1, fun Q hQ => ?_⟩
          exact ⟨_, i2, .ref Cy, .ref Cy, b, rfl, fun u hu => hu, kit, hQ⟩
    have kit : ∀ {e : Expr} {t : TE}, PE (X.suite a ((a, oe) :: pn)) e t → (∀ σ H Q, svR X P N c fs nm a cls d (n + 1) e σ H Q → t σ H Q) → PE (X.suite a ((a, oe) :: pn)) e (svR X P N c fs nm a cls d (n + 1) e) := fun h i => h.imp i
    unfold wfV at h
    split at h
    · rename_i kc j p
      refine PE.imp (s_const (P := P) (call := call) (N := N) (W := fun _ _ _ _ => False) (I := []) (n := 0) (X := X.suite a ((a, oe) :: pn)) h) fun σ H Q q => ?_
      obtain ⟨sa, v, e1, q⟩ := q
      refine ⟨hv X.K fun _ => False, List.replicate N.length none, ⟨rfl, by simp, fun b hb => hb.elim, fun i v hi => by simp at hi, fun _ _ h => h⟩, ?_⟩
      have e1 : constPV kc = .ok v := e1
      show Post (X.suite a ((a, oe) :: pn)) _ σ H (constPV kc) _
      rw [e1]
      intro w H' g r _
      refine q w H' g fun r' hr => Rep.pure ⟨hr, fun _ _ h _ => h⟩ v w ?_ r
      unfold constPV at e1
      split at e1 <;> first | (cases e1; rfl) | cases e1
    · rename_i e1 e2 j p
      obtain ⟨h, w4⟩ := and_split h
      obtain ⟨h, w3⟩ := and_split h
      obtain ⟨w1, w2⟩ := and_split h
      refine PE.imp (pe_tup (pa_cons (sv_pe (c := c) (fs := fs) (nm := nm) cx cs hz hf n e1 w1) (pa_cons (sv_pe (c := c) (fs := fs) (nm := nm) cx cs hz hf n e2 w2) pa_nil (starEach_cons w4)) (starEach_cons w3))) fun σ H Q q => ?_
      obtain ⟨sa, v, ev, q⟩ := q
      obtain ⟨v1, ev1, ev⟩ := bind_ok (show R.bind (suiteV P c fs nm n e1) (fun v => R.bind (suiteV P c fs nm n e2) fun w => .ok (.tup [v, w])) = .ok v from ev)
      obtain ⟨v2, ev2, ev⟩ := bind_ok ev
      cases ev
      refine ⟨sa, v1, ev1, fun x H1 g1 r1 => ⟨sa.same g1, v2, ev2, fun y H2 g2 r2 => ⟨by show 2 ≤ sizeLine; decide, fun pp np => q _ _ ((g1.trans g2).trans (same_upd np)) fun r hr => ?_⟩⟩⟩
      exact .tup (SqT.of upd_same) (.cons (((r1 r hr).same g2).same (same_upd np)) (.cons ((r2 r hr).same (same_upd np)) .nil))
    · rename_i e1 j p
      obtain ⟨w1, w3⟩ := and_split h
      refine PE.imp (pe_tup (pa_cons (sv_pe (c := c) (fs := fs) (nm := nm) cx cs hz hf n e1 w1) pa_nil (starEach_cons w3))) fun σ H Q q => ?_
      obtain ⟨sa, v, ev, q⟩ := q
      obtain ⟨v1, ev1, ev⟩ := bind_ok (show R.bind (suiteV P c fs nm n e1) (fun v => .ok (.tup [v])) = .ok v from ev)
      cases ev
      refine ⟨sa, v1, ev1, fun x H1 g1 r1 => ⟨by show 1 ≤ sizeLine; decide, fun pp np => q _ _ (g1.trans (same_upd np)) fun r hr => ?_⟩⟩
      exact .tup (SqT.of upd_same) (.cons ((r1 r hr).same (same_upd np)) .nil)
    · rename_i x px f p
      obtain ⟨w1, w2⟩ := and_split h
      obtain ⟨q1, q2, q3⟩ := plainB_ok w1
      refine ⟨fun pins s0 σ H Q I q => ?_⟩
      obtain ⟨sa, v, ev, q⟩ := q
      have ev : (if nm = some x ∧ (P.excs.lookup c).any (fun d => d.fields.contains f) = true ∧ fs ≠ [] then ofOpt (fs.lookup f) else .stuck) = .ok v := ev
      by_cases hc : nm = some x ∧ (P.excs.lookup c).any (fun d => d.fields.contains f) = true ∧ fs ≠ []
      · rw [if_pos hc] at ev
        have ev := ofOpt_ok ev
        obtain ⟨i, i1, i2⟩ := sa.slot x hc.1
        obtain ⟨C, m1, rfl, m3⟩ := sa.ex
        rcases m3 with m3 | ⟨_, dx, vs, rfl, hd, rf⟩
        · exact absurd m3.1 hc.2.2
        · cases ec : P.excs.lookup c with
          | none => rw [ec] at hc; exact absurd hc.2.1 (by simp)
          | some dc =>
            obtain ⟨C', c1, c2, c3, c4, _, c6⟩ := cs.exc.cls c dc ec
            rw [m1] at c1; cases c1
            have hin : f ∈ dc.fields := by
              have := hc.2.1
              rw [ec] at this
              simpa using this
            obtain ⟨xf, hno⟩ := c6 (fun z => by rw [z] at hin; cases hin)
            obtain ⟨w', l1, l2, l3⟩ := rf.get ev
            have iN : (X.suite a ((a, oe) :: pn)).N[i]? = some x := by
              show X.N[i]? = some x
              rw [cx.n]; exact slotOf_get i1
            refine (pe_xf xf (hno f hin) hz hf (pe_var (X := X.suite a ((a, oe) :: pn)) (i := i) iN (visB_ok w2) q1 q2) rfl).run pins s0 σ H Q I ?_
            exact ⟨_, i2, rfl, rfl, dx, vs, w', rfl, hd, l1, q w' H (Same.refl H) l3⟩
      · rw [if_neg hc] at ev; cases ev
    · rename_i g pg x px y py p
      refine ⟨fun pins s0 σ H Q I q => ?_⟩
      obtain ⟨sa, v, ev, q⟩ := q
      have ev : (if nameIs g "isinstance" = true ∧ nm = some x ∧ fs = [] ∧ plainExc P c = true then ofOpt ((excMatch P c y).map PV.bl) else .stuck) = .ok v := ev
      by_cases hc : nameIs g "isinstance" = true ∧ nm = some x ∧ fs = [] ∧ plainExc P c = true
      · rw [if_pos hc] at ev
        have ev := ofOpt_ok ev
        cases em : excMatch P c y with
        | none => rw [em] at ev; cases ev
        | some b =>
          rw [em] at ev; cases ev
          obtain ⟨t, t1, t2⟩ := test (p1 := pg) (p2 := px) (p3 := py) (p4 := p) h sa hc.1 hc.2.1 hc.2.2.1 hc.2.2.2 em
          exact t1.run pins s0 σ H Q I (t2 Q (q _ _ (Same.refl H) fun r _ => .bl b))
      · rw [if_neg hc] at ev; cases ev
    · rename_i g pg x px y py pc e1 e2 p
      obtain ⟨h, w8⟩ := and_split h
      obtain ⟨h, w7⟩ := and_split h
      refine ⟨fun pins s0 σ H Q I q => ?_⟩
      obtain ⟨sa, v, ev, q⟩ := q
      have ev : (if nameIs g "isinstance" = true ∧ nm = some x ∧ fs = [] ∧ plainExc P c = true then
          match excMatch P c y with
          | some true => suiteV P c fs nm n e1
          | some false => suiteV P c fs nm n e2
          | none => .stuck
        else .stuck) = .ok v := ev
      by_cases hc : nameIs g "isinstance" = true ∧ nm = some x ∧ fs = [] ∧ plainExc P c = true
      · rw [if_pos hc] at ev
        cases em : excMatch P c y with
        | none => rw [em] at ev; cases ev
        | some b =>
          rw [em] at ev
          obtain ⟨t, t1, t2⟩ := test (p1 := pg) (p2 := px) (p3 := py) (p4 := pc) h sa hc.1 hc.2.1 hc.2.2.1 hc.2.2.2 em
          refine (pe_ifExp (pt_val t1) (sv_pe (c := c) (fs := fs) (nm := nm) cx cs hz hf n e1 w7) (sv_pe (c := c) (fs := fs) (nm := nm) cx cs hz hf n e2 w8)).run pins s0 σ H Q I ?_
          refine t2 _ ⟨b, rfl, ?_⟩
          cases b with
          | true => exact ⟨sa, v, ev, q⟩
          | false => exact ⟨sa, v, ev, q⟩
      · rw [if_neg hc] at ev; cases ev
    · cases h
def tsR (X : Cx) (P : Prog) (N : List Str) (H0 : Hp) (n : Nat) (nm : Option Str) (suite : List Stmt) (a : Addr) (cls : Value) (d : Option Addr) : TS := fun D σ H => ∃ c fs, SuiteAt X.K X.mg N c fs nm a cls d σ H ∧ Same H0 H ∧
  match suite with
  | [.Return (some e) _] => ∃ v, suiteV P c fs nm n e = .ok v ∧ ∀ w H', Same H0 H' → (∀ r : Rc, r.K = X.K → Rep r H' w v) → D.rt w H'
  | [.Continue _] => D.ct σ H
  | [.Pass _] => D.nx σ H
  | _ => False
theorem suite_ok (cx : Ctx P call N X k) (cs : CtxS P X) {nm : Option Str} {b : Stmt} {suite : List Stmt} (h : suiteB P X.env.scope n nm (b :: suite) = true) (a : Addr) (oe : Obj) (cls : Value) (d : Option Addr) (pn : List (Addr × Obj)) (hz : Zc cls d oe) (hf : ∃ vs, oe.data = .fields vs) :
    PSs (X.suite a ((a, oe) :: pn)) (b :: suite) (tsR X P N H0 n nm (b :: suite) a cls d) := by
  unfold suiteB at h
  split at h
  · rename_i e p heq
    cases heq
    refine ⟨fun pins s0 σ H D I q => ?_⟩
    obtain ⟨c, fs, sa, g, v, ev, q⟩ := q
    refine (pss_one (ps_ret (sv_pe (c := c) (fs := fs) (nm := nm) cx cs hz hf n e h))).run pins s0 σ H D I ?_
    exact ⟨sa, v, ev, fun w H' g' r => q w H' (g.trans g') r⟩
  · rename_i p heq
    cases heq
    refine ⟨fun pins s0 σ H D I q => ?_⟩
    obtain ⟨c, fs, sa, g, q⟩ := q
    exact (pss_one ps_continue).run pins s0 σ H D I q
  · rename_i p heq
    cases heq
    refine ⟨fun pins s0 σ H D I q => ?_⟩
    obtain ⟨c, fs, sa, g, q⟩ := q
    exact (pss_one ps_pass).run pins s0 σ H D I q
  · cases h
theorem fresh_pure {r : Rc} {H0 H1 : Hp} {w : V} {v : PV} (hp : isPure v = true) : Fresh r H0 H1 w v := by
  cases v <;> first | (simp [isPure] at hp; done) | (intro z; simp [mutTop] at z; done)
theorem hds_ok (cx : Ctx P call N X k) (cs : CtxS P X) : ∀ (hs : List ExceptHandler), wfH P N X.env.scope n hs = true → ∃ l, HdsMix X hs l ∧ ∀ (W : WX) (D : Ends) c fs ρ' cls d σ' H' own', SI X.K N Hd H0 H' σ' ρ' own' → ExRep X.K X.mg c fs cls d H' →
    SPost X N W Hd H0 Mu D H' own' (handle P c fs n ρ' hs) → wMix X.K W D l cls d σ' H'
  | [], _ => ⟨[], .nil, fun W D c fs ρ' cls d σ' H' own' s er h => h cls d σ' H' own' s Step.refl er⟩
  | .ExceptHandler none nm suite p :: r, h => by cases h
  | .ExceptHandler (some t) nm [] p :: r, h => by cases t <;> cases h
  | .ExceptHandler (some t) nm (b :: suite) p :: r, h => by
    cases t with
    | Name x px =>
      obtain ⟨h, w6⟩ := and_split h
      obtain ⟨h, w5⟩ := and_split h
      obtain ⟨h, w4⟩ := and_split h
      obtain ⟨h, w3⟩ := and_split h
      obtain ⟨w1, w2⟩ := and_split h
      obtain ⟨p1, p2, p3⟩ := plainB_ok w2
      obtain ⟨l, hl, hq⟩ := hds_ok cx cs r w6
      cases ex : P.excs.lookup x with
      | none => rw [ex] at w3; cases w3
      | some dx =>
        obtain ⟨Cx, x1, _⟩ := cs.exc.cls x dx ex
        have hnm : ∃ o : Option Nat, ((nm = none ∧ o = none) ∨ ∃ y i, nm = some y ∧ o = some i ∧ X.N[i]? = some y ∧ X.env.kindOf y = some .local ∧ slotOf N y = some i ∧ i < N.length) := by
          cases nm with
          | none => exact ⟨none, .inl ⟨rfl, rfl⟩⟩
          | some y =>
            obtain ⟨z1, z2⟩ := and_split w4
            cases ey : slotOf N y with
            | none => rw [ey] at z2; cases z2
            | some i => exact ⟨some i, .inr ⟨y, i, rfl, rfl, by rw [cx.n]; exact slotOf_get ey, eq_of_beq z1, ey, (List.getElem?_eq_some_iff.mp (slotOf_get ey)).1⟩⟩
        obtain ⟨o, ho⟩ := hnm
        refine ⟨(.ref Cx, o, tsR X P N H0 n nm (b :: suite)) :: l, .cons ⟨glB_ok w1, p1, .inl x1⟩ (ho.imp (fun h => h) fun ⟨y, i, a1, a2, a3, a4, _⟩ => ⟨y, i, a1, a2, a3, a4⟩) (suite_ok cx cs w5) hl, fun W D c fs ρ' cls d σ' H' own' s er h => ?_⟩
        have h : SPost X N W Hd H0 Mu D H' own' (match excMatch P c x with
          | some true => suiteS P c fs nm n ρ' (b :: suite)
          | some false => handle P c fs n ρ' r
          | none => .stuck) := h
        cases em : excMatch P c x with
        | none => rw [em] at h; exact h.elim
        | some bb =>
          rw [em] at h
          obtain ⟨C, m1, rfl, m3⟩ := _root_.id er
          obtain ⟨ex1, _⟩ := cs.exc.exm c x bb C Cx em m1 x1
          refine ⟨bb, ex1, fun hb a ha => ?_, fun hb => ?_⟩
          · subst hb
            have h : SPost X N W Hd H0 Mu D H' own' (suiteS P c fs nm n ρ' (b :: suite)) := h
            have main : ∀ (D' : Ends) (σ2 : L2.St), SuiteAt X.K X.mg N c fs nm a (.ref C) d σ2 H' → (∀ w H, D'.rt w H = D.rt w H) → (nm = none → D' = D ∧ σ2 = σ') → tsR X P N H0 n nm (b :: suite) a (.ref C) d D' σ2 H' := by
              intro D' σ2 sa hrt hnn
              refine ⟨c, fs, sa, s.same, ?_⟩
              unfold suiteB at w5
              split at w5
              · rename_i e pe heq
                cases heq
                have h : SPost X N W Hd H0 Mu D H' own' (match suiteV P c fs nm n e with
                  | .ok v => if isPure v = true then .ret v true else .stuck
                  | _ => .stuck) := h
                cases ev : suiteV P c fs nm n e with
                | ok v =>
                  rw [ev] at h
                  by_cases hp : isPure v = true
                  · simp only [hp, if_true] at h
                    exact ⟨v, rfl, fun w H2 g r => by rw [hrt]; exact h w H2 g (r _ rfl) fun _ => fresh_pure hp⟩
                  · simp only [hp] at h; exact h.elim
                | exc _ _ => rw [ev] at h; exact h.elim
                | stuck => rw [ev] at h; exact h.elim
              · rename_i pe heq
                cases heq
                have hn : nm = none := by simpa using w5
                obtain ⟨rfl, rfl⟩ := hnn hn
                have h : SPost X N W Hd H0 Mu D' H' own' (if nm = none then .ct ρ' else .stuck) := h
                rw [if_pos hn] at h
                exact h σ2 H' own' s Step.refl
              · rename_i pe heq
                cases heq
                have hn : nm = none := by simpa using w5
                obtain ⟨rfl, rfl⟩ := hnn hn
                have h : SPost X N W Hd H0 Mu D' H' own' (if nm = none then .nx ρ' else .stuck) := h
                rw [if_pos hn] at h
                exact h σ2 H' own' s Step.refl
              · cases w5
            rcases ho with ⟨rfl, rfl⟩ | ⟨y, i, rfl, rfl, i1, i2, i3, i4⟩
            · exact main D σ' ⟨er, fun x h => by cases h⟩ (fun _ _ => rfl) fun _ => ⟨rfl, rfl⟩
            · exact main _ _ ⟨er, fun x h => by cases h; exact ⟨i, i3, List.getElem?_set_self (by rw [s.lnσ]; exact i4)⟩⟩ (fun _ _ => rfl) fun h => by cases h
          · subst hb
            exact hq W D c fs ρ' _ d σ' H' own' s er h
    | _ => cases h
theorem t_try (cx : Ctx P call N X k) (cs : CtxS P X) (tk : Takes X W) {body : List Stmt} {h0 : ExceptHandler} {hs : List ExceptHandler} {p : Pos} (hh : wfH P N X.env.scope n (h0 :: hs) = true)
    (hb : ∀ (W : WX) (pn : List (Addr × Obj)) (xe : Value → Shared → Prop), Takes (X.tr pn xe) W → PassesOwn (model X.prog X.w) X.A X.env xe → PSs (X.tr pn xe) body (SJ X N W Hd H0 Mu (denSs P call N M n body))) :
    PS X (.Try body (h0 :: hs) [] [] p) (SJ X N W Hd H0 Mu (denS P call N M (n + 1) (.Try body (h0 :: hs) [] [] p))) := by
  obtain ⟨l, hl, hq⟩ := hds_ok (n := n) (Hd := Hd) (H0 := H0) (Mu := Mu) cx cs (h0 :: hs) hh
  refine (ps_try_mix cs.stk cs.frm cx.nd tk hb hl).imp fun D σ H q => ?_
  obtain ⟨ρ, own, s, h⟩ := q
  refine ⟨ρ, own, s, ?_⟩
  have h : SPost X N W Hd H0 Mu D H own (match denSs P call N M n body ρ with
      | .exc c fs ρ' => handle P c fs n ρ' (h0 :: hs)
      | o => o) := h
  cases e : denSs P call N M n body ρ with
  | nx ρ' => rw [e] at h; exact h
  | bk ρ' => rw [e] at h; exact h
  | ct ρ' => rw [e] at h; exact h
  | ret v fl => rw [e] at h; exact h
  | stuck => rw [e] at h; exact h.elim
  | exc c fs ρ' =>
    rw [e] at h
    exact fun cls d σ' H' own' s' st er => hq W D c fs ρ' cls d σ' H' own' s' er (SPost.step h st)
end
end PyV
set_option Elab.async false
set_option linter.all false
set_option maxRecDepth 100000
set_option maxHeartbeats 1000000
/-! Layer PyV, part 12: all statements. -/
namespace PyV
open PySem PySem.Spec PyProof.Rows L2

def slotNe (N : List Str) (x y : Str) : Bool := match slotOf N x, slotOf N y with
  | some i, some j => i != j
  | _, _ => false
def parB (N : List Str) (sc : Scope) (ts vs : List Expr) : Bool := match swRes sc ts vs with
  | some none => true
  | some (some names) => (match ts, vs with
    | [.Name x _, .Name y _], [_, _] => names == [x, y] && sc.names.lookup x == some .local && sc.names.lookup y == some .local && slotNe N x y
    | [.Name x _, .Name y _, .Name z _], [_, _, _] => names == [x, y, z] && sc.names.lookup x == some .local && sc.names.lookup y == some .local && sc.names.lookup z == some .local && slotNe N x y && slotNe N x z && slotNe N y z
    | _, _ => false)
  | none => false
mutual
def wfS (P : Prog) (N : List Str) : Nat → Scope → Stmt → Bool
  | 0, _, _ => false
  | n + 1, sc, st => match st with
    | .Pass _ => true
    | .Break _ => true
    | .Continue _ => true
    | .Return none _ => true
    | .Return (some e) _ => wfE P N n sc (slotsE N n e) e
    | .If c a b _ => wfT P N n sc (slotsE N n c) c && wfSs P N n sc a && wfSs P N n sc b
    | .Assign [.Name x px] e _ => nameB N sc x && wfE P N n sc (slotsE N n e) e && (!isComp e || compB sc x px e || !(sc.names.lookup x == some .local))
    | .Assign [.Tuple ts j q] (.Tuple vs j2 q2) _ => targetsB N sc (fun _ => true) (List.range N.length) (.Tuple ts j q) && wfE P N n sc (slotsE N n (.Tuple vs j2 q2)) (.Tuple vs j2 q2) && parB N sc ts vs
    | .Assign [.Tuple ts j q] e _ => targetsB N sc (fun _ => true) (List.range N.length) (.Tuple ts j q) && wfE P N n sc (slotsE N n e) e
    | .Assign [.Subscript (.Name x _) ix _] e _ => nameB N sc x && plainB x && wfE P N n sc (slotsE N n e) e && wfE P N n sc (slotsE N n ix) ix && noSlice ix
    | .AugAssign (.Name x _) _ e _ => nameB N sc x && wfE P N n sc (slotsE N n e) e
    | .Expr (.Call (.Attribute (.Name x _) m pa) (e :: es) [] p) _ => nameB N sc x && plainB x && wfA P N n sc (slotsE N n (.Tuple (e :: es) 0 p)) (e :: es) && decide (pa.endLine = p.line) && decide ((e :: es).length < 30) && (mutNames.find? fun t => m == Str.ofString t).isSome
    | .Expr (.Call (.Name f pf) es [] p) _ => wfE P N n sc (slotsE N n (.Call (.Name f pf) es [] p)) (.Call (.Name f pf) es [] p)
    | .For tg it body [] _ => (if isRange it = true then wfI P N n sc (slotsE N n it) tg it else if isWalk it = true then wfI P N n sc (slotsE N n it) tg it else wfE P N n sc (slotsE N n it) it) && targetsG N sc (fun _ => true) (List.range N.length) tg && wfSs P N n sc body && noSet it
    | .While c body [] _ => wfT P N n sc (slotsE N n c) c && wfSs P N n sc body
    | .Raise (some (.Call (.Name c _) [.Constant (.str _) _ _] [] _)) none _ => glB sc c && plainB c
    | .Try body (h0 :: hs) [] [] _ => wfH P N sc n (h0 :: hs) && wfSs P N n sc body
    | _ => false
def wfSs (P : Prog) (N : List Str) : Nat → Scope → List Stmt → Bool
  | 0, _, _ => false
  | n + 1, sc, sts => match sts with
    | [] => true
    | st :: r => match zpair (st :: r) with
      | some z => wfZ P N n sc z
      | none => (hardB P st || wfS P N n sc st) && wfSs P N n sc r
end

theorem slotNe_ok {N : List Str} {x y : Str} (h : slotNe N x y = true) : ∃ i j, slotOf N x = some i ∧ slotOf N y = some j ∧ i ≠ j := by
  unfold slotNe at h
  split at h
  · rename_i i j e1 e2; exact ⟨i, j, e1, e2, by simpa using h⟩
  · cases h
theorem swap_none {ts : List Expr} {j : Nat} {q : Pos} {e : Expr} {env : PySem.Env} (h : isTupT e = false) : swappedStores [.Tuple ts j q] e env = pure none := by
  cases e <;> first | rfl | cases h
theorem SJ.less {X : Cx} {N : List Str} {W : WX} {Hd : Addr → Prop} {H0 : Hp} {Mu Mu' : List Nat} {den : Env → SR} (i : ∀ j ∈ Mu, j ∈ Mu') {D : Ends} {σ : L2.St} {H : Hp} (q : SJ X N W Hd H0 Mu' den D σ H) : SJ X N W Hd H0 Mu den D σ H :=
  let ⟨ρ, own, s, h⟩ := q; ⟨ρ, own, s, h.less i⟩
structure SoundS (P : Prog) (call : Str → List PV → R PV) (N : List Str) (M n : Nat) (Hd : Addr → Prop) (H0 : Hp) : Prop where
  s : ∀ (X : Cx) (k : Nat) (W : WX), Ctx P call N X k → CtxS P X → Takes X W → PassesOwn (model X.prog X.w) X.A X.env X.xe → ∀ st, wfS P N n X.env.scope st = true → PS X st (SJ X N W Hd H0 (mutS N st) (denS P call N M n st))
  ss : ∀ (X : Cx) (k : Nat) (W : WX), Ctx P call N X k → CtxS P X → Takes X W → PassesOwn (model X.prog X.w) X.A X.env X.xe → ∀ st, wfSs P N n X.env.scope st = true → PSs X st (SJ X N W Hd H0 (mutSs N st) (denSs P call N M n st))
section
variable {P : Prog} {call : Str → List PV → R PV} {N : List Str} {M : Nat} {X : Cx} {k : Nat} {W : WX} {Hd : Addr → Prop} {H0 : Hp} {n : Nat}
theorem pars_ok (cx : Ctx P call N X k) (cs : CtxS P X) (tk : Takes X W) {ts vs : List Expr} {j j2 : Nat} {q q2 p : Pos} (h1 : targetsB N X.env.scope (fun _ => true) (List.range N.length) (.Tuple ts j q) = true)
    (h2 : wfE P N n X.env.scope (slotsE N n (.Tuple vs j2 q2)) (.Tuple vs j2 q2) = true) (h3 : parB N X.env.scope ts vs = true) {Mu : List Nat} :
    PS X (.Assign [.Tuple ts j q] (.Tuple vs j2 q2) p) (SJ X N W Hd H0 Mu (denS P call N M (n + 1) (.Assign [.Tuple ts j q] (.Tuple vs j2 q2) p))) := by
  unfold parB at h3
  cases e : swRes X.env.scope ts vs with
  | none => rw [e] at h3; cases h3
  | some o =>
    rw [e] at h3
    have sw := swRes_ok (j := j) (k2 := j2) (p := q) (p2 := q2) (env := X.env) cs.kind rfl e
    cases o with
    | none =>
      cases ho : ownTgt N ts (.Tuple vs j2 q2) with
      | none => exact t_unpack cx cs tk h1 h2 ho sw rfl
      | some ki => exact t_unpackO cx cs tk ho h1 h2 sw rfl
    | some names =>
      simp only at h3
      split at h3
      · obtain ⟨h3, w4⟩ := and_split h3
        obtain ⟨h3, w3⟩ := and_split h3
        obtain ⟨w1, w2⟩ := and_split h3
        obtain ⟨i1, i2, e1, e2, d⟩ := slotNe_ok w4
        rw [eq_of_beq w1] at sw
        cases ho : ownTgt N _ (.Tuple _ j2 q2) with
        | none => exact t_par2 cx cs tk e1 e2 d (eq_of_beq w2) (eq_of_beq w3) h2 ho sw
        | some ki => exact t_par2O cx cs tk ho e1 e2 d (eq_of_beq w2) (eq_of_beq w3) h2 sw
      · obtain ⟨h3, w7⟩ := and_split h3
        obtain ⟨h3, w6⟩ := and_split h3
        obtain ⟨h3, w5⟩ := and_split h3
        obtain ⟨h3, w4⟩ := and_split h3
        obtain ⟨h3, w3⟩ := and_split h3
        obtain ⟨w1, w2⟩ := and_split h3
        obtain ⟨i1, i2, e1, e2, d1⟩ := slotNe_ok w5
        obtain ⟨i1', i3, e1', e3, d2⟩ := slotNe_ok w6
        obtain ⟨i2', i3', e2', e3', d3⟩ := slotNe_ok w7
        rw [e1] at e1'; rw [e2] at e2'; rw [e3] at e3'
        cases e1'; cases e2'; cases e3'
        rw [eq_of_beq w1] at sw
        cases ho : ownTgt N _ (.Tuple _ j2 q2) with
        | none => exact t_par3 cx cs tk e1 e2 e3 d1 d2 d3 (eq_of_beq w2) (eq_of_beq w3) (eq_of_beq w4) h2 ho sw
        | some ki => exact t_par3O cx cs tk ho e1 e2 e3 d1 d2 d3 (eq_of_beq w2) (eq_of_beq w3) (eq_of_beq w4) h2 sw
      · cases h3
theorem Ctx.tr (cx : Ctx P call N X k) (pn : List (Addr × Obj)) (xe : Value → Shared → Prop) : Ctx P call N (X.tr pn xe) k := ⟨cx.n, cx.nd, cx.calm, cx.room, cx.fns, cx.consts, cx.free, cx.dcts⟩
theorem CtxS.tr (cs : CtxS P X) (pn : List (Addr × Obj)) (xe : Value → Shared → Prop) : CtxS P (X.tr pn xe) := ⟨cs.fn, cs.kind, cs.stk, cs.frm, cs.exc⟩
theorem mem_mutX {x : Str} {i : Nat} (h : slotOf N x = some i) : i ∈ (slotOf N x).toList := by rw [h]; exact List.mem_singleton.mpr rfl
theorem soundS : ∀ n, SoundS P call N M n Hd H0 := by
  intro n
  induction n with
  | zero => exact ⟨fun X k W cx cs tk po st h => (by unfold wfS at h; cases h), fun X k W cx cs tk po st h => (by unfold wfSs at h; cases h)⟩
  | succ n ih =>
    refine ⟨fun X k W cx cs tk po st h => ?_, fun X k W cx cs tk po st h => ?_⟩
    · unfold wfS at h
      split at h
      · exact t_pass
      · exact t_break
      · exact t_cont
      · exact t_retN
      · exact t_ret cx tk h
      · rename_i c a b p
        obtain ⟨h, w3⟩ := and_split h
        obtain ⟨w1, w2⟩ := and_split h
        exact t_if cx tk w1 ((ih.ss X k W cx cs tk po a w2).imp fun D σ H q => SJ.less (fun j hj => List.mem_append_left (mutSs N b) hj) q)
          ((ih.ss X k W cx cs tk po b w3).imp fun D σ H q => SJ.less (fun j hj => List.mem_append_right (mutSs N a) hj) q)
      · obtain ⟨h, w3⟩ := and_split h
        obtain ⟨w1, w2⟩ := and_split h
        refine t_set cx cs tk w1 w2 ?_
        simp only [Bool.or_eq_true, Bool.not_eq_true'] at w3
        rcases w3 with (w | w) | w
        · exact .inl w
        · exact .inr (.inl w)
        · exact .inr (.inr w)
      · obtain ⟨h, w3⟩ := and_split h
        obtain ⟨w1, w2⟩ := and_split h
        exact pars_ok cx cs tk w1 w2 w3
      · rename_i e _ hne
        obtain ⟨w1, w2⟩ := and_split h
        refine t_unpack cx cs tk w1 w2 ?_ (swap_none ?_) rfl
        · cases e <;> first | rfl | exact (hne _ _ _ rfl).elim
        cases e <;> first | rfl | exact (hne _ _ _ rfl).elim
      · obtain ⟨h, w5⟩ := and_split h
        obtain ⟨h, w4⟩ := and_split h
        obtain ⟨h, w3⟩ := and_split h
        obtain ⟨w1, w2⟩ := and_split h
        exact t_store cx cs tk w1 w2 w3 w4 w5 fun i hi => by
          unfold mutS
          exact List.mem_append_left _ (mem_mutX hi)
      · obtain ⟨w1, w2⟩ := and_split h
        exact t_aug cx cs tk w1 w2
      · obtain ⟨h, w6⟩ := and_split h
        obtain ⟨h, w5⟩ := and_split h
        obtain ⟨h, w4⟩ := and_split h
        obtain ⟨h, w3⟩ := and_split h
        obtain ⟨w1, w2⟩ := and_split h
        exact t_mut cx cs tk w1 w2 w3 (of_decide_eq_true w4) (of_decide_eq_true w5) w6 fun i hi => by
          unfold mutS
          exact mem_mutX hi
      · exact t_call cx tk h
      · rename_i tg it body p
        obtain ⟨h, w4⟩ := and_split h
        obtain ⟨h, w3⟩ := and_split h
        obtain ⟨w1, w2⟩ := and_split h
        have hb := ih.ss X k W cx cs tk po body w3
        have main : PS X (.For tg it body [] p) (SJ X N W Hd H0 (mutSs N body) (denS P call N M (n + 1) (.For tg it body [] p))) := by
          by_cases hr : isRange it = true
          · rw [if_pos hr] at w1
            exact t_for1 cx cs tk po hr w1 w2 hb w4
          · rw [if_neg hr] at w1
            have hr : isRange it = false := by simpa using hr
            by_cases hw : isWalk it = true
            · rw [if_pos hw] at w1
              exact t_for2 cx cs tk po hr hw w1 w2 hb w4 fun i h => h
            · rw [if_neg hw] at w1
              exact t_for3 cx cs tk po hr (by simpa using hw) w1 w2 hb w4 fun i h => h
        exact main.imp fun D σ H q => SJ.less (fun j h => h) q
      · obtain ⟨w1, w2⟩ := and_split h
        rename_i c body p
        exact (t_while cx tk po w1 (ih.ss X k W cx cs tk po body w2)).imp fun D σ H q => SJ.less (fun j h => h) q
      · obtain ⟨w1, w2⟩ := and_split h
        exact t_raise cx cs tk w1 w2
      · obtain ⟨w1, w2⟩ := and_split h
        rename_i body h0 hs p
        exact (t_try cx cs tk w1 fun W' pn xe tk' po' => ih.ss (X.tr pn xe) k W' (cx.tr pn xe) (cs.tr pn xe) tk' po' body w2).imp fun D σ H q => SJ.less (fun j h => h) q
      · cases h
    · unfold wfSs at h
      split at h
      · exact t_nil
      · rename_i st r
        cases hzp : zpair (st :: r) with
        | some z =>
          simp only [hzp] at h
          exact t_zpair cx cs tk hzp h
        | none =>
        simp only [hzp] at h
        obtain ⟨w1, w2⟩ := and_split h
        by_cases hh : hardB P st = true
        · exact t_seqH hh
        have w1 : wfS P N n X.env.scope st = true := by
          rcases Bool.or_eq_true _ _ |>.mp w1 with z | z
          · exact (hh z).elim
          · exact z
        exact t_seq hzp ((ih.s X k W cx cs tk po st w1).imp fun D σ H q => SJ.less (fun j hj => List.mem_append_left (mutSs N r) hj) q)
          ((ih.ss X k W cx cs tk po r w2).imp fun D σ H q => SJ.less (fun j hj => List.mem_append_right (mutS N st) hj) q)
end
end PyV
set_option Elab.async false
set_option linter.all false
set_option maxRecDepth 100000
set_option maxHeartbeats 1000000
/-! Layer PyV, part 13: defs. -/
namespace PyV
open PySem PySem.Spec PyProof.Rows L2

structure ProgOk (P : Prog) (D : Nat) (K : PySem.W.Frag) (mg : Str → Option Value) (w : World) : Prop where
  fns : ∀ f fd, P.fns.lookup f = some fd → ∃ (st : Stmt) (fa : Addr) (fdata : FuncData), mg f = some (.ref fa) ∧ L2.Fun K f f st fa fdata ∧ L2.FnScope fd.N fd.ps (defScope st) ∧ defBody st = fd.body ∧ wfSs P fd.N D (defScope st) fd.body = true ∧ Binds K fdata fd.ps [] ∧ ∀ (s : Shared) (us : List Value), us.length = fd.ps.length → BindsTo s fdata ⟨us, []⟩ (fd.ps.zip us)
  consts : ∀ x pv, P.consts.lookup x = some pv → ∃ u v, mg x = some u ∧ RelV v u ∧ ∀ (r : Rc) (H : Hp), r.K = K → Rep r H v pv
  free : ∀ x, P.blt.contains x = true → mg x = none
  exc : ExcFacts P K mg
  dcts : ∀ x ps, P.dcts.lookup x = some ps → ∃ a, mg x = some (.ref a) ∧ KD K w a ∧ (∀ s : List Nat, dget ps (.str s) = none → KMiss K w a ⟨s.toArray⟩) ∧ ∀ p z, dget ps p = some z → ∃ s v, p = .str s ∧ KDct K w a ⟨s.toArray⟩ v ∧ ∀ (r : Rc) (H : Hp), r.K = K → Rep r H v z
theorem hv_rep {K : PySem.W.Frag} {r : Rc} {H : Hp} (hK : r.K = K) (v : V) (x : PV) (h : Rep (hv K r.S) H v x) : Rep r H v x :=
  Rep.keep (r := hv K r.S) ⟨hK, fun _ _ h _ => h, fun _ _ _ n => n, fun _ _ z => z.elim⟩ x v h
theorem rep_hv {K : PySem.W.Frag} {r : Rc} {H : Hp} (hK : r.K = K) (nx : ∀ b x, ¬ r.Ex b x) (v : V) (x : PV) (h : Rep r H v x) : Rep (hv K r.S) H v x :=
  Rep.keep (r := r) (r' := hv K r.S) ⟨hK.symm, fun _ _ h _ => h, fun _ _ _ n => n, fun b x z => (nx b x z).elim⟩ x v h
theorem si_start {K : PySem.W.Frag} {N : List Str} {r : Rc} {H : Hp} {vs : List V} {ps : List PV} (hK : r.K = K) (al : r.Al H) (nx : ∀ b x, ¬ r.Ex b x) (h : Reps r H vs ps) (hl : vs.length ≤ N.length) : SI K N r.S H H (L2.start N vs) (start0 N ps) (fun _ => none) := by
  have hlp : ps.length = vs.length := h.length.symm
  refine ⟨?_, ?_, al, Same.refl H, fun i a h => (by cases h), fun i j a h => (by cases h), fun i x fl e _ => ?_, fun i x e => ?_⟩
  · unfold start0; simp; omega
  · unfold L2.start; simp; omega
  · unfold start0 at e
    by_cases hi : i < ps.length
    · rw [List.getElem?_append_left (by simpa using hi), List.getElem?_map] at e
      cases ep : ps[i]? with
      | none => rw [ep] at e; cases e
      | some p =>
        rw [ep] at e
        cases e
        obtain ⟨w, hw, rw_⟩ := h.get ep
        refine ⟨w, ?_, ?_⟩
        · unfold L2.start
          have : i < vs.length := by omega
          rw [List.getElem?_append_left (by simpa using this), List.getElem?_map, hw]
          rfl
        · have q := rep_hv hK nx w _ rw_
          have kk : Keeps (hv K r.S) H (view K r.S (fun _ => none) []) H := by
            refine ⟨rfl, fun _ _ h _ => h, fun b o _ n z => ?_, fun _ _ z => z⟩
            rcases z with z | ⟨_, z, _⟩
            · exact n z
            · cases z
          exact Rep.keep kk _ _ q
    · rw [List.getElem?_append_right (by simpa using hi), List.getElem?_replicate] at e
      split at e <;> cases e
  · unfold start0 at e
    by_cases hi : i < ps.length
    · rw [List.getElem?_append_left (by simpa using hi), List.getElem?_map] at e
      cases ep : ps[i]? with
      | none => rw [ep] at e; cases e
      | some p => rw [ep] at e; cases e
    · rw [List.getElem?_append_right (by simpa using hi), List.getElem?_replicate] at e
      split at e <;> cases e
section
variable {P : Prog} {M D : Nat} {p : Program} {w : World} {K : PySem.W.Frag} {mg : Str → Option Value} {base : Heap}
theorem fn_len {call : Str → List PV → R PV} {fd : FD} {f : Str} : ∀ vs H Q E, spOf call K mg fd f vs H Q E → vs.length = fd.ps.length := fun vs H Q E h => let ⟨_, _, _, _, _, _, h, _⟩ := h; h
theorem fn_zero {f : Str} {fd : FD} {k : Nat} {fa : Addr} {fdata : FuncData} : FnOk p w K mg base (L2.CX p w) k fa fdata fd.ps (spOf (callN P M D 0) K mg fd f) :=
  ⟨fn_len, fun _ _ _ _ _ _ _ _ _ _ _ _ _ h => by obtain ⟨_, _, _, _, _, _, _, z⟩ := h; exact z.elim⟩
theorem fn_succ (F : ProgOk P D K mg w) {j : Nat}
    (ih : ∀ f fd, P.fns.lookup f = some fd → ∃ fa fdata, mg f = some (.ref fa) ∧ PySem.W.keepIn K (.ref fa) = true ∧ FnOk p w K mg base (L2.CX p w) j fa fdata fd.ps (spOf (callN P M D j) K mg fd f) ∧ Binds K fdata fd.ps [])
    {f : Str} {fd : FD} (hf : P.fns.lookup f = some fd) {st : Stmt} {fa : Addr} {fdata : FuncData} (hF : L2.Fun K f f st fa fdata) (S : L2.FnScope fd.N fd.ps (defScope st)) (hb : defBody st = fd.body) (hw : wfSs P fd.N D (defScope st) fd.body = true) :
    FnOk p w K mg base (L2.CX p w) (j + 1) fa fdata fd.ps (spOf (callN P M D (j + 1)) K mg fd f) := by
  refine L2.Fun.okX hF S fn_len fun cdv A outer s H vs Q E hr hsp => ?_
  obtain ⟨r, ps, hK, al, nx, rs, hl, h⟩ := hsp
  have hpl : fd.ps.length ≤ fd.N.length := by have := congrArg List.length S.pre; rw [List.length_take] at this; omega
  have cx : Ctx P (callN P M D j) fd.N (cxOf (L2.CX p w) p w K mg base fd.N f (defScope st) fa cdv A outer s H E) j := ⟨rfl, S.nd, rfl, hr, ih, F.consts, F.free, F.dcts⟩
  have cs : CtxS P (cxOf (L2.CX p w) p w K mg base fd.N f (defScope st) fa cdv A outer s H E) := ⟨fun _ => rfl, S.kind, rfl, rfl, F.exc⟩
  have tk : Takes (cxOf (L2.CX p w) p w K mg base fd.N f (defScope st) fa cdv A outer s H E) (fun cls d _ H => E cls d H) := L2.takes_of rfl rfl rfl rfl
  have po := L2.passes_of (X := cxOf (L2.CX p w) p w K mg base fd.N f (defScope st) fa cdv A outer s H E) rfl
  rw [hb]
  refine ⟨_, (soundS (Hd := r.S) (H0 := H) (M := M) D).ss _ j _ cx cs tk po fd.body hw, start0 fd.N ps, fun _ => none, si_start hK al nx rs (by omega), ?_⟩
  have h : match callN P M D (j + 1) f ps with
    | .ok z => OutF fd.fresh r H z Q
    | .exc c fs => ∀ cls d H', Same H H' → ExRep K mg c fs cls d H' → E cls d H'
    | .stuck => False := h
  simp only [callN, hf, denFn] at h
  cases e : denSs P (callN P M D j) fd.N M D fd.body (start0 fd.N ps) with
  | nx ρ' =>
    rw [e] at h
    exact fun σ' H' own' s' _ => h .non H' s'.same .non fun _ z => by simp [mutTop] at z
  | ret v fl =>
    rw [e] at h
    by_cases hc : fd.fresh = true → fl = true ∨ mutTop v = false
    · simp only [need, if_pos hc] at h
      exact fun u H' sm rp fr => h u H' sm (hv_rep hK u v rp) fun z => by
        rcases hc z with q | q
        · intro z
          obtain ⟨p, e1, e2, l⟩ := fr q z
          refine ⟨p, e1, e2, fun xs ex => ?_⟩
          obtain ⟨vs, h1, rs⟩ := l xs ex
          exact ⟨vs, h1, Reps.keep (r := (hv K r.S).plus p) (r' := r.plus p) ⟨hK, fun _ _ h _ => h, fun _ _ _ n => n, fun _ _ z => z.elim⟩ _ _ rs⟩
        · intro z; rw [q] at z; cases z
    · simp only [need, if_neg hc] at h
  | exc c fs ρ' =>
    rw [e] at h
    exact fun cls d σ' H' own' s' _ er => h cls d H' s'.same er
  | bk ρ' => rw [e] at h; exact h.elim
  | ct ρ' => rw [e] at h; exact h.elim
  | stuck => rw [e] at h; exact h.elim
theorem fns_ok (F : ProgOk P D K mg w) : ∀ (j : Nat) f fd, P.fns.lookup f = some fd → ∃ fa fdata, mg f = some (.ref fa) ∧ PySem.W.keepIn K (.ref fa) = true ∧ FnOk p w K mg base (L2.CX p w) j fa fdata fd.ps (spOf (callN P M D j) K mg fd f) ∧ Binds K fdata fd.ps [] := by
  intro j
  induction j with
  | zero =>
    intro f fd hf
    obtain ⟨st, fa, fdata, m, hF, _, _, _, hb, _⟩ := F.fns f fd hf
    exact ⟨fa, fdata, m, hF.kp, fn_zero, hb⟩
  | succ j ih =>
    intro f fd hf
    obtain ⟨st, fa, fdata, m, hF, S, hbd, hw, hb, _⟩ := F.fns f fd hf
    exact ⟨fa, fdata, m, hF.kp, fn_succ F ih hf hF S hbd hw, hb⟩
end
end PyV
set_option Elab.async false
set_option linter.all false
set_option maxRecDepth 100000
set_option maxHeartbeats 1000000
/-! Layer PyV, part 14: the head. -/
namespace PyV
open PySem PySem.Spec PyProof.Rows L2

/-! ### a def of the text -/
def argNames (a : Arguments) : List Str := a.args.map (·.arg)
def plainArgs (a : Arguments) : Bool := a.posonlyargs.isEmpty && a.vararg.isNone && a.kwonlyargs.isEmpty && a.kw_defaults.isEmpty && a.kwarg.isNone && a.defaults.isEmpty && decide (argNames a).Nodup
def isSlot : NameKind → Bool
  | .local => true
  | .cell => true
  | _ => false
/-- the names that comprehensions bind -/
def ownNames (sc : Scope) : List Str := (sc.names.filter fun q => isSlot q.2).map (·.1)
def cnE : Nat → Expr → List Str
  | 0, _ => []
  | n + 1, e => match e with
    | .BoolOp _ es _ => es.flatMap (cnE n)
    | .BinOp a _ b _ => cnE n a ++ cnE n b
    | .UnaryOp _ a _ => cnE n a
    | .IfExp a b c _ => cnE n a ++ cnE n b ++ cnE n c
    | .Compare a _ bs _ => cnE n a ++ bs.flatMap (cnE n)
    | .Call f es ks _ => cnE n f ++ es.flatMap (cnE n) ++ ks.flatMap fun k => cnE n k.value
    | .Attribute a _ _ => cnE n a
    | .Subscript a b _ => cnE n a ++ cnE n b
    | .List es _ => es.flatMap (cnE n)
    | .Tuple es _ _ => es.flatMap (cnE n)
    | .Dict ks vs _ => ks.flatMap (fun k => match k with | some k => cnE n k | none => []) ++ vs.flatMap (cnE n)
    | .Slice a b c _ => (match a with | some k => cnE n k | none => []) ++ (match b with | some k => cnE n k | none => []) ++ (match c with | some k => cnE n k | none => [])
    | .ListComp e gs sc _ => ownNames sc ++ cnE n e ++ gs.flatMap fun g => cnE n g.iter ++ g.ifs.flatMap (cnE n)
    | .SetComp e gs sc _ => ownNames sc ++ cnE n e ++ gs.flatMap fun g => cnE n g.iter ++ g.ifs.flatMap (cnE n)
    | .DictComp e e2 gs sc _ => ownNames sc ++ cnE n e ++ cnE n e2 ++ gs.flatMap fun g => cnE n g.iter ++ g.ifs.flatMap (cnE n)
    | .GeneratorExp e gs sc _ => ownNames sc ++ cnE n e ++ gs.flatMap fun g => cnE n g.iter ++ g.ifs.flatMap (cnE n)
    | .Lambda _ b sc _ => ownNames sc ++ cnE n b
    | _ => []
def cnO (n : Nat) : Option Expr → List Str
  | some e => cnE n e
  | none => []
def cnS : Nat → Stmt → List Str
  | 0, _ => []
  | n + 1, st => match st with
    | .Return e _ => cnO n e
    | .If c a b _ => cnE n c ++ a.flatMap (cnS n) ++ b.flatMap (cnS n)
    | .Assign ts e _ => ts.flatMap (cnE n) ++ cnE n e
    | .AugAssign t _ e _ => cnE n t ++ cnE n e
    | .Expr e _ => cnE n e
    | .For _ it b _ _ => cnE n it ++ b.flatMap (cnS n)
    | .While c b _ _ => cnE n c ++ b.flatMap (cnS n)
    | .Raise e _ _ => cnO n e
    | .Try b hs _ _ _ => b.flatMap (cnS n) ++ hs.flatMap fun h => match h with | .ExceptHandler _ _ s _ => s.flatMap (cnS n)
    | _ => []
def slotsOf (ps : List Str) (sc : Scope) (b : List Stmt) : List Str := (ps ++ ownNames sc ++ b.flatMap (cnS 40)).eraseDups
def fdOf (fr : List Str) (x : Str) (a : Arguments) (b : List Stmt) (sc : Scope) : FD := ⟨argNames a, slotsOf (argNames a) sc b, b, sc, fr.contains x⟩
def defsOf (fr : List Str) : List Stmt → List (Str × FD)
  | [] => []
  | .FunctionDef x a b _ _ _ sc _ _ _ :: r => (x, fdOf fr x a b sc) :: defsOf fr r
  | _ :: r => defsOf fr r
def datOf : List Stmt → List He.DefD
  | [] => []
  | .FunctionDef x a b _ _ _ sc _ _ _ :: r => ⟨(x, none), x, x, a, b, sc, [], []⟩ :: datOf r
  | _ :: r => datOf r
theorem defs_dat {fr : List Str} {f : Str} {fd : FD} : ∀ {l : List Stmt}, (defsOf fr l).lookup f = some fd → ∃ a b sc, ⟨(f, none), f, f, a, b, sc, [], []⟩ ∈ datOf l ∧ fd = fdOf fr f a b sc
  | [], h => by cases h
  | st :: r, h => by
    have go : (defsOf fr r).lookup f = some fd → ∃ a b sc, ⟨(f, none), f, f, a, b, sc, [], []⟩ ∈ datOf r ∧ fd = fdOf fr f a b sc := defs_dat
    cases st with
    | FunctionDef x a b q1 q2 q3 sc q4 q5 q6 =>
      have h : (match f == x with | true => some (fdOf fr x a b sc) | false => (defsOf fr r).lookup f) = some fd := h
      cases e : f == x with
      | true =>
        rw [e] at h
        cases h
        have ex : f = x := eq_of_beq e
        subst ex
        exact ⟨a, b, sc, List.mem_cons_self, rfl⟩
      | false =>
        rw [e] at h
        obtain ⟨a', b', sc', m, e'⟩ := go h
        exact ⟨a', b', sc', List.mem_cons_of_mem _ m, e'⟩
    | _ => exact go h
/-! ### a written value -/
mutual
def wrB (K : PySem.W.Frag) : PV → Value → Bool
  | .non, .none => true
  | .bl b, .bool c => b == c
  | .int i, .int j _ => i == j
  | .str x, .str y _ => decide ((⟨x.toArray⟩ : Str) = y) && decide (x.length ≤ sizeLine) && x.all fun c => decide (c < 0x110000)
  | .tup xs, .ref a => match K.lookup a with
    | some ⟨.type c, _, .seq its _, _⟩ => decide (c = "tuple") && decide (its.size ≤ sizeLine) && wrAll K xs its.toList
    | _ => false
  | _, _ => false
def wrAll (K : PySem.W.Frag) : List PV → List Value → Bool
  | [], [] => true
  | x :: xs, u :: us => wrB K x u && wrAll K xs us
  | _, _ => false
end
mutual
theorem wr_ok {K : PySem.W.Frag} : ∀ (x : PV) (u : Value), wrB K x u = true → ∃ v, RelV v u ∧ ∀ (r : Rc) (H : Hp), r.K = K → Rep r H v x
  | .non, u, h => by
    cases u <;> first | (unfold wrB at h; cases h; done) | exact ⟨.non, rfl, fun r H _ => .non⟩
  | .bl b, u, h => by
    cases u with
    | bool c =>
      unfold wrB at h
      have e : b = c := eq_of_beq h
      subst e
      exact ⟨.bl b, rfl, fun r H _ => .bl b⟩
    | _ => unfold wrB at h; cases h
  | .int i, u, h => by
    cases u with
    | int j t =>
      unfold wrB at h
      have e : i = j := eq_of_beq h
      subst e
      exact ⟨.int i, ⟨t, rfl⟩, fun r H _ => .int i⟩
    | _ => unfold wrB at h; cases h
  | .str x, u, h => by
    cases u with
    | str y t =>
      unfold wrB at h
      obtain ⟨h, h3⟩ := and_split h
      obtain ⟨h1, h2⟩ := and_split h
      have e := of_decide_eq_true h1
      subst e
      exact ⟨.str ⟨x.toArray⟩, ⟨t, rfl⟩, fun r H _ => .str x ⟨of_decide_eq_true h2, fun c hc => of_decide_eq_true (List.all_eq_true.mp h3 c hc)⟩⟩
    | _ => unfold wrB at h; cases h
  | .tup xs, u, h => by
    cases u with
    | ref a =>
      unfold wrB at h
      cases q : K.lookup a with
      | none => rw [q] at h; cases h
      | some o =>
        rw [q] at h
        obtain ⟨oc, od, dt, osl⟩ := o
        cases oc with
        | type c =>
          cases dt with
          | seq its n =>
            obtain ⟨h, h3⟩ := and_split (show (decide (c = "tuple") && decide (its.size ≤ sizeLine) && wrAll K xs its.toList) = true from h)
            obtain ⟨h1, h2⟩ := and_split h
            obtain ⟨vs, rv, rp⟩ := wrs_ok xs its.toList h3
            exact ⟨.ref a, rfl, fun r H hK => .tup (.inr ⟨_, its, n, hK ▸ q, congrArg Value.type (of_decide_eq_true h1), rfl, of_decide_eq_true h2, rv⟩) (rp r H hK)⟩
          | _ => cases h
        | _ => cases dt <;> cases h
    | _ => unfold wrB at h; cases h
  | .lst _, u, h => by cases u <;> (unfold wrB at h; cases h)
  | .dic _, u, h => by cases u <;> (unfold wrB at h; cases h)
  | .scr _, u, h => by cases u <;> (unfold wrB at h; cases h)
  | .ob _ _, u, h => by cases u <;> (unfold wrB at h; cases h)
theorem wrs_ok {K : PySem.W.Frag} : ∀ (xs : List PV) (us : List Value), wrAll K xs us = true → ∃ vs, Vals vs us ∧ ∀ (r : Rc) (H : Hp), r.K = K → Reps r H vs xs
  | [], [], _ => ⟨[], .nil, fun _ _ _ => .nil⟩
  | [], _ :: _, h => by unfold wrAll at h; cases h
  | _ :: _, [], h => by unfold wrAll at h; cases h
  | x :: xs, u :: us, h => by
    unfold wrAll at h
    obtain ⟨h1, h2⟩ := and_split h
    obtain ⟨v, r1, p1⟩ := wr_ok x u h1
    obtain ⟨vs, r2, p2⟩ := wrs_ok xs us h2
    exact ⟨v :: vs, .cons r1 r2, fun r H hK => .cons (p1 r H hK) (p2 r H hK)⟩
end
/-! ### the facts -/
def globB (K : PySem.W.Frag) (x : Str) : Bool := He.eqO (PySem.W.nsIn K mainGlobals x) (some (some (.ref (He.ga K x))))
def freeB (K : PySem.W.Frag) (x : Str) : Bool := He.eqO (PySem.W.nsIn K mainGlobals x) (some none)
def constB (K : PySem.W.Frag) (q : Str × PV) : Bool := match PySem.W.nsIn K mainGlobals q.1 with
  | some (some u) => wrB K q.2 u
  | _ => false
def veL : List Value := [.type "ValueError", .type "Exception", .type "BaseException", .type "object"]
def excCB (K : PySem.W.Frag) (D : Addr) : Bool := decide (PySem.W.findIn K (.ref D) "__getattribute__" = some (some (.builtin "BaseException.__getattribute__"))) && decide (PySem.W.findIn K (.ref D) "__getattr__" = some none) &&
  decide (PySem.W.subIn K (.ref D) (.type "BaseException") = some true) && PySem.W.hasDictIn K D && decide (PySem.W.findIn K (.ref D) "__class__" = some (some (.builtin "object.__class__"))) &&
  decide (PySem.W.specialIn K (.builtin "object.__class__") "__get__" = some (some (.builtin "getset_descriptor.__get__"))) && decide (PySem.W.takesIn K (.builtin "object.__class__") = some true) && decide (PySem.W.mroIn K D (.type "object") = some true)
theorem excCB_ok {K : PySem.W.Frag} {D : Addr} (h : excCB K D = true) : ExcC K D := by
  unfold excCB at h
  obtain ⟨h, h8⟩ := and_split h
  obtain ⟨h, h7⟩ := and_split h
  obtain ⟨h, h6⟩ := and_split h
  obtain ⟨h, h5⟩ := and_split h
  obtain ⟨h, h4⟩ := and_split h
  obtain ⟨h, h3⟩ := and_split h
  obtain ⟨h1, h2⟩ := and_split h
  exact ⟨of_decide_eq_true h1, of_decide_eq_true h2, of_decide_eq_true h3, h4, of_decide_eq_true h5, of_decide_eq_true h6, of_decide_eq_true h7, of_decide_eq_true h8⟩
def exc1B (K : PySem.W.Frag) (q : Str × ExcD) : Bool := globB K q.1 && PySem.W.keepIn K (.ref (He.ga K q.1)) && decide (PySem.W.subIn K (.ref (He.ga K q.1)) (.type "BaseException") = some true) && decide (PySem.W.typeIn K (.ref (He.ga K q.1)) = some (.type "type")) &&
  (match q.2.fields with
    | [] => PySem.W.excIn K (He.ga K q.1) veL "ValueError.__new__" && excCB K (He.ga K q.1)
    | fs => xfB K (He.ga K q.1) && fs.all fun f => decide (PySem.W.findIn K (.ref (He.ga K q.1)) f = some none))
def exmB (P : Prog) (K : PySem.W.Frag) (c x : Str) : Bool := match excMatch P c x with
  | some b => decide (PySem.W.exmOne K (.ref (He.ga K c)) (.ref (He.ga K x)) = some b) && decide (PySem.W.kitOne K (.ref (He.ga K c)) (.ref (He.ga K x)) = some b)
  | none => true
def dctB (K : PySem.W.Frag) (q : Str × List (PV × PV)) : Bool := globB K q.1 && q.2.all fun kv => match kv.1 with
  | .str s => (match PySem.W.nsIn K (He.ga K q.1) ⟨s.toArray⟩ with
    | some (some u) => wrB K kv.2 u
    | _ => false)
  | _ => false
def headB (P : Prog) (K : PySem.W.Frag) : Bool := P.dcts.all (dctB K) && P.fns.all (fun q => globB K q.1) && P.consts.all (constB K) && P.blt.all (freeB K) && P.excs.all (exc1B K) && P.excs.all (fun q => P.excs.all fun q' => exmB P K q.1 q'.1)
theorem lookup_mem {α : Type} {x : Str} {a : α} : ∀ {l : List (Str × α)}, l.lookup x = some a → (x, a) ∈ l
  | [], h => by cases h
  | (y, b) :: r, h => by
    rw [List.lookup_cons] at h
    cases e : x == y with
    | true =>
      rw [e] at h
      cases h
      rw [eq_of_beq e]
      exact List.mem_cons_self
    | false =>
      rw [e] at h
      exact List.mem_cons_of_mem _ (lookup_mem h)
section
variable {P : Prog} {K : PySem.W.Frag} {h : Heap} {mg : Str → Option Value}
theorem glob_ok (X : K.In h) (G : h.Ns mainGlobals mg) {x : Str} (c : globB K x = true) : mg x = some (.ref (He.ga K x)) := PySem.W.mg_of X G (He.eqO_ok c)
theorem free_ok (X : K.In h) (G : h.Ns mainGlobals mg) {x : Str} (c : freeB K x = true) : mg x = none := PySem.W.mg_none_of X G (He.eqO_ok c)
theorem const_ok (X : K.In h) (G : h.Ns mainGlobals mg) {x : Str} {pv : PV} (c : constB K (x, pv) = true) : ∃ u v, mg x = some u ∧ RelV v u ∧ ∀ (r : Rc) (H : Hp), r.K = K → Rep r H v pv := by
  unfold constB at c
  cases e : PySem.W.nsIn K mainGlobals x with
  | none => simp only [e] at c; cases c
  | some o =>
    cases o with
    | none => simp only [e] at c; cases c
    | some u =>
      simp only [e] at c
      obtain ⟨v, h1, h2⟩ := wr_ok pv u c
      exact ⟨u, v, PySem.W.mg_of X G e, h1, h2⟩
theorem exc_ok (X : K.In h) (G : h.Ns mainGlobals mg) (cE : P.excs.all (exc1B K) = true) (c2 : P.excs.all (fun q => P.excs.all fun q' => exmB P K q.1 q'.1) = true) : ExcFacts P K mg := by
  refine ⟨fun x d hx => ?_, fun c x b C Cx hm h1 h2 => ?_⟩
  · have z := List.all_eq_true.mp cE _ (lookup_mem hx)
    unfold exc1B at z
    obtain ⟨z, z5⟩ := and_split z
    obtain ⟨z, z4⟩ := and_split z
    obtain ⟨z, z3⟩ := and_split z
    obtain ⟨z1, z2⟩ := and_split z
    refine ⟨He.ga K x, glob_ok X G z1, z2, of_decide_eq_true z3, of_decide_eq_true z4, fun e => ?_, fun e => ?_⟩
    · simp only [e] at z5
      obtain ⟨y1, y2⟩ := and_split z5
      exact ⟨y1, excCB_ok y2⟩
    · cases ef : d.fields with
      | nil => exact (e ef).elim
      | cons f fs =>
        simp only [ef] at z5
        obtain ⟨y1, y2⟩ := and_split z5
        exact ⟨xfB_ok y1, fun g hg => of_decide_eq_true (List.all_eq_true.mp y2 g hg)⟩
  · have hm' := hm
    unfold excMatch at hm
    split at hm
    · rename_i d d' e1 e2
      have g1 := List.all_eq_true.mp cE _ (lookup_mem e1)
      have g2 := List.all_eq_true.mp cE _ (lookup_mem e2)
      have k1 := glob_ok X G (and_split (and_split (and_split (and_split g1).1).1).1).1
      have k2 := glob_ok X G (and_split (and_split (and_split (and_split g2).1).1).1).1
      rw [k1] at h1; rw [k2] at h2
      cases h1; cases h2
      have z := List.all_eq_true.mp (List.all_eq_true.mp c2 _ (lookup_mem e1)) _ (lookup_mem e2)
      unfold exmB at z
      simp only [hm'] at z
      obtain ⟨y1, y2⟩ := and_split z
      exact ⟨of_decide_eq_true y1, of_decide_eq_true y2⟩
    · cases hm

theorem zip_lookup {ps : List Str} {us : List Value} (hl : us.length = ps.length) {n : Str} (h : n ∈ ps) : ((ps.zip us).lookup n).isSome = true := by
  induction ps generalizing us with
  | nil => cases h
  | cons p r ih =>
    cases us with
    | nil => cases hl
    | cons u us =>
      rw [List.zip_cons_cons, List.lookup_cons]
      cases e : n == p with
      | true => rfl
      | false =>
        rcases List.mem_cons.mp h with q | q
        · subst q; simp at e
        · exact ih (by simpa using hl) q
theorem zip_binds : ∀ {ps : List Str} {us : List Value} (hl : us.length = ps.length) (nd : ps.Nodup), ps.filterMap (fun n => ((ps.zip us).lookup n).map (n, ·)) = ps.zip us := by
  intro ps
  induction ps with
  | nil => intro us _ _; rfl
  | cons p r ih =>
    intro us hl nd
    cases us with
    | nil => cases hl
    | cons u us =>
      obtain ⟨n1, n2⟩ := List.nodup_cons.mp nd
      rw [List.zip_cons_cons, List.filterMap_cons, List.lookup_cons, beq_self_eq_true]
      show (p, u) :: _ = _
      congr 1
      rw [← ih (us := us) (by simpa using hl) n2]
      have e := ih (us := us) (by simpa using hl) n2
      rw [e]
      refine Eq.trans ?_ e
      clear e ih
      have key : ∀ l : List Str, (∀ n ∈ l, (n == p) = false) → l.filterMap (fun n => (((p, u) :: r.zip us).lookup n).map (n, ·)) = l.filterMap (fun n => ((r.zip us).lookup n).map (n, ·)) := by
        intro l
        induction l with
        | nil => intro _; rfl
        | cons n l ih =>
          intro h
          rw [List.filterMap_cons, List.filterMap_cons, List.lookup_cons, h n List.mem_cons_self, ih fun m hm => h m (List.mem_cons_of_mem _ hm)]
      refine key r fun n hn => ?_
      cases q : n == p with
      | false => rfl
      | true => exact (n1 ((eq_of_beq q) ▸ hn)).elim
theorem bind_any {x qual : Str} {as : List Arg} {b : List Stmt} {sc : Scope} (kV doc pm : Value) (an : Option Addr) (cdv ct : Value) (us : List Value) (hl : us.length = (as.map (·.arg)).length) (nd : (as.map (·.arg)).Nodup) :
    bindArgs (PySem.W.fnOf x qual ⟨[], as, none, [], [], none, []⟩ b sc .none kV doc pm an cdv ct) ⟨us, []⟩ = pure ((as.map (·.arg)).zip us) := by
  have h1 : ((as.map (·.arg)).filter fun n => (((as.map (·.arg)).zip us).lookup n).isNone) = [] := by
    rw [List.filter_eq_nil_iff]
    intro n hn
    have := zip_lookup hl hn
    cases e : ((as.map (·.arg)).zip us).lookup n with
    | none => rw [e] at this; cases this
    | some v => simp
  have h2 := zip_binds hl nd
  have h3 : ¬ us.length > (as.map (·.arg)).length := by omega
  unfold bindArgs
  simp only [PySem.W.fnOf, List.map_nil, List.nil_append, List.append_nil]
  show (do
    let d ← seqItems? Value.none
    _) = _
  have e0 : seqItems? Value.none = pure none := rfl
  simp only [e0, pure_bind, Option.getD_none, Option.isNone_none]
  rw [if_neg (by rw [decide_eq_false h3]; exact Bool.false_ne_true)]
  have h4 : ∀ (n : Nat), List.drop n ([] : List Value) = [] := fun n => by cases n <;> rfl
  have h5 : (as.map (·.arg)).take (as.map (·.arg)).length = as.map (·.arg) := List.take_length
  simp only [h4, List.length_nil, Nat.sub_zero, h5, h1, List.isEmpty_nil, Bool.not_true, Bool.false_eq_true, if_false, List.zip_nil_right, List.forIn_nil, pure_bind, h2]
theorem dget_mem {ps : List (PV × PV)} {p z : PV} (h : dget ps p = some z) : ∃ q, (q, z) ∈ ps ∧ sameKey q p = true := by
  unfold dget at h
  cases e : ps.find? fun q => sameKey q.1 p with
  | none => rw [e] at h; cases h
  | some q =>
    rw [e] at h
    cases h
    exact ⟨q.1, List.mem_of_find?_eq_some e, by simpa using List.find?_some e⟩
/-- the written dicts' keys -/
def tabs (P : Prog) : List (Str × List Str) := P.dcts.map fun q => (q.1, q.2.map fun kv => match kv.1 with | .str s => (⟨s.toArray⟩ : Str) | _ => Str.empty)
theorem dct_ok {w : World} (X : K.In h) (G : h.Ns mainGlobals mg) (c : P.dcts.all (dctB K) = true) (t : (tabs P).map (fun t => He.dicW K (He.ga K t.1)) = (tabs P).map fun t => some (He.keysIn w.params t.2)) {x : Str} {ps : List (PV × PV)} (hx : P.dcts.lookup x = some ps) :
    ∃ a, mg x = some (.ref a) ∧ KD K w a ∧ (∀ s : List Nat, dget ps (.str s) = none → KMiss K w a ⟨s.toArray⟩) ∧ ∀ p z, dget ps p = some z → ∃ s v, p = .str s ∧ KDct K w a ⟨s.toArray⟩ v ∧ ∀ (r : Rc) (H : Hp), r.K = K → Rep r H v z := by
  have m := lookup_mem hx
  obtain ⟨c1, c2⟩ := and_split (List.all_eq_true.mp c _ m)
  have mt : (x, ps.map fun kv => match kv.1 with | .str s => (⟨s.toArray⟩ : Str) | _ => Str.empty) ∈ tabs P := List.mem_map.mpr ⟨_, m, rfl⟩
  have t1 : He.dicW K (He.ga K x) = some (He.keysIn w.params _) := List.map_inj_left.mp t _ mt
  obtain ⟨es, n, D⟩ := He.dicW_ok t1
  have tx := fun s : List Nat => fun hs : dget ps (.str s) = none => ns_miss (x := ⟨s.toArray⟩) t1 fun k hk => by
    obtain ⟨kv, hkv, ek⟩ := List.mem_map.mp hk
    have c3 := List.all_eq_true.mp c2 _ hkv
    obtain ⟨p, z⟩ := kv
    cases p with
    | str s' =>
      cases q : (k == (⟨s.toArray⟩ : Str)) with
      | false => rfl
      | true =>
        have e1 := eq_of_beq q
        rw [← ek] at e1
        have e2 : s' = s := by
          have e1 : (⟨s'.toArray⟩ : Str) = ⟨s.toArray⟩ := e1
          injection e1 with e1
          simpa using congrArg Array.toList e1
        subst e2
        unfold dget at hs
        cases w2 : ps.find? fun q => sameKey q.1 (.str s') with
        | some y => rw [w2] at hs; cases hs
        | none =>
          have := List.find?_eq_none.mp w2 _ hkv
          exact absurd (show sameKey (.str s') (.str s') = true by simp [sameKey]) this
    | _ => cases c3
  refine ⟨He.ga K x, glob_ok X G c1, ⟨es, n, D.at_, D.lit, D.low⟩, fun s hs => ⟨es, n, D.at_, D.lit, D.low, tx s hs⟩, fun p z hz => ?_⟩
  obtain ⟨q, hq, hs⟩ := dget_mem hz
  have c3 := List.all_eq_true.mp c2 _ hq
  cases q with
  | str s =>
    cases p with
    | str s' =>
      have e : s = s' := eq_of_beq hs
      subst e
      simp only at c3
      cases e : PySem.W.nsIn K (He.ga K x) ⟨s.toArray⟩ with
      | none => rw [e] at c3; cases c3
      | some o =>
        cases o with
        | none => rw [e] at c3; cases c3
        | some u =>
          rw [e] at c3
          obtain ⟨v, r1, r2⟩ := wr_ok z u c3
          exact ⟨s, v, rfl, ⟨es, n, u, D.1, D.2, e, r1⟩, r2⟩
    | _ => cases hs
  | _ => cases c3
theorem bind_plain {x qual : Str} {a : Arguments} {b : List Stmt} {sc : Scope} (hp : plainArgs a = true) (kV doc pm : Value) (an : Option Addr) (cdv ct : Value) (us : List Value) (hl : us.length = (argNames a).length) :
    bindArgs (PySem.W.fnOf x qual a b sc .none kV doc pm an cdv ct) ⟨us, []⟩ = pure ((argNames a).zip us) := by
  obtain ⟨po, as, va, ko, kd, kw, df⟩ := a
  unfold plainArgs at hp
  obtain ⟨hp, h7⟩ := and_split hp
  obtain ⟨hp, h6⟩ := and_split hp
  obtain ⟨hp, h5⟩ := and_split hp
  obtain ⟨hp, h4⟩ := and_split hp
  obtain ⟨hp, h3⟩ := and_split hp
  obtain ⟨h1, h2⟩ := and_split hp
  cases po <;> cases va <;> cases ko <;> cases kd <;> cases kw <;> cases df <;> first | (cases h1; done) | (cases h2; done) | (cases h3; done) | (cases h4; done) | (cases h5; done) | (cases h6; done) | skip
  exact bind_any kV doc pm an cdv ct us hl (of_decide_eq_true h7)
/-- what is looked at in a def's text -/
def defB (P : Prog) (D : Nat) (fd : FD) : Bool := C8.scC fd.N fd.ps fd.sc && wfSs P fd.N D fd.sc fd.body
theorem fun_of {x : Str} {a : Arguments} {b : List Stmt} {sc : Scope} {f : Addr} {fd : FuncData} (F : FunD K x x a b sc [] [] f fd) :
    L2.Fun K x x (.FunctionDef x a b [] none [] sc none x ⟨0, 0, 0, 0⟩) f fd := by
  obtain ⟨oc, od, dV, kV, doc, pm, an, cdv, ct, osl, e, lk, hcd, hD, hK⟩ := F.ex
  rcases hD with ⟨_, e2⟩ | ⟨z, _⟩
  · subst e2
    exact ⟨⟨oc, od, kV, doc, pm, an, cdv, ct, osl, e, lk, hcd⟩, F.kp⟩
  · exact absurd rfl z
theorem prog_ok {w : World} {fr : List Str} {body : List Stmt} {D : Nat} (t : (tabs P).map (fun t => He.dicW K (He.ga K t.1)) = (tabs P).map fun t => some (He.keysIn w.params t.2)) (X : K.In h) (G : h.Ns mainGlobals mg) (hfn : P.fns = defsOf fr body) (hs : He.SaysD [] (datOf body) K) (hh : headB P K = true)
    (ha : (datOf body).all (fun d => plainArgs d.params) = true) (hd : P.fns.all (fun q => defB P D q.2) = true)   : ProgOk P D K mg w := by
  unfold headB at hh
  obtain ⟨hh, h5⟩ := and_split hh
  obtain ⟨hh, h4⟩ := and_split hh
  obtain ⟨hh, h3⟩ := and_split hh
  obtain ⟨hh, h2⟩ := and_split hh
  obtain ⟨h0, h1⟩ := and_split hh
  refine ⟨fun f fd hf => ?_, fun x pv hx => const_ok X G (List.all_eq_true.mp h2 _ (lookup_mem hx)), fun x hx => ?_, exc_ok X G h4 h5, fun x ps hx => dct_ok X G h0 t hx⟩
  · have g := glob_ok X G (List.all_eq_true.mp h1 _ (lookup_mem hf))
    have w := List.all_eq_true.mp hd _ (lookup_mem hf)
    unfold defB at w
    obtain ⟨w1, w2⟩ := and_split w
    have hf' := hf
    rw [hfn] at hf'
    obtain ⟨a, b, sc, m, rfl⟩ := defs_dat hf'
    have c2 := (He.ba (show (true && (datOf body).all fun d => d.ok K) = true from congrArg (fun z : He.AlD => z.1) hs)).2
    have e : (datOf body).map (fun d => He.fnW K d.at_) = (datOf body).map He.DefD.val := congrArg (fun z : He.AlD => z.2) hs
    obtain ⟨fdata, F⟩ := He.DefD.funD (d := ⟨(f, none), f, f, a, b, sc, [], []⟩) (List.map_inj_left.mp e _ m) (List.all_eq_true.mp c2 _ m)
    have pa := List.all_eq_true.mp ha _ m
    exact ⟨_, _, fdata, g, fun_of F, C8.fnScope_by w1, rfl, w2, FunD.bindsN F fun kV doc pm an cdv ct us hl => bind_plain pa kV doc pm an cdv ct us hl, FunD.bindsA F fun kV doc pm an cdv ct us hl => bind_plain pa kV doc pm an cdv ct us hl⟩
  · exact free_ok X G (List.all_eq_true.mp h3 _ (List.contains_iff_mem.mp hx))
end
/-! ### the Hook -/
abbrev AlP : Type := He.AlD × Bool × List (Option (List (Option (Str × Int))))
def obsP (P : Prog) (fn : List He.DefD) (K : PySem.W.Frag) : AlP := (He.obsD [] fn K, headB P K, (tabs P).map fun t => He.dicW K (He.ga K t.1))
def valP (P : Prog) (fn : List He.DefD) (w : World) : AlP := (He.valD fn, true, (tabs P).map fun t => some (He.keysIn w.params t.2))
def obsPG (n : Nat) (P : Prog) (fn : List He.DefD) (g : Addr → Option Obj) : AlP := obsP P fn (He.frG g (He.asD g n))
def hookP (n : Nat) (P : Prog) (fn : List He.DefD) : PySem.W.Hook where
  α := AlP
  obs := fun s => obsPG n P fn s.heap.get?
  val := fun w => valP P fn w
  says := fun w h => ∃ K : PySem.W.Frag, K.In h ∧ obsP P fn K = valP P fn w
  of := fun _ _ e => ⟨_, He.frG_in, e⟩
  keeps := fun _ _ _ ⟨K, hK, c⟩ k => ⟨K, PySem.W.Frag.In.keeps hK k, c⟩
theorem obsPG_eq {n : Nat} {P : Prog} {fn : List He.DefD} {g : Addr → Option Obj} {s : Shared} (h : ∀ a, g a = s.heap.get? a) : obsPG n P fn g = (hookP n P fn).obs s := by
  have e : g = s.heap.get? := funext h
  rw [e] <;> rfl
/-! ### the end -/
theorem cx_end {p : Program} {w : World} (H : Hp) (s : Shared) (e : Value) (s' : Shared) : L2.CX p w [] H s (fun _ _ _ => False) e s' → False := fun ⟨_, _, _, _, _, _, _, _, _, _, _, _, z⟩ => z
theorem law_sp {K : PySem.W.Frag} {mg : Str → Option Value} {call : Str → List PV → R PV} {fd : FD} {f : Str} (hp : fd.ps.length = 1) (hc : ∀ ns : List Int, ns.length ≤ 63 → call f [.scr ns] = .ok (.bl true)) (H : Hp) (a : Addr) (ns : List Int) (hl : ns.length ≤ 63) (hS : SqL K H a (ns.map V.int)) :
    spOf call K mg fd f [.ref a] H (fun v _ => v = .bl true) fun _ _ _ => False := by
  have rp : Rep (hv K fun _ => False) H (.ref a) (.scr ns) := by
    rcases hS with h | h
    · exact .scr h (fun z => z)
    · exact .scrK h
  refine ⟨hv K fun _ => False, [.scr ns], rfl, fun b z => z.elim, fun _ _ z => z, .cons rp .nil, hp.symm, ?_⟩
  rw [hc ns hl]
  exact fun v H' s r _ => by cases r; rfl
end PyV
set_option Elab.async false
set_option linter.all false
set_option maxRecDepth 100000
set_option maxHeartbeats 1000000
/-! Layer PyV, part 15: a law's end. -/
namespace PyV
open PySem PySem.Spec PyProof.Rows L2
theorem walk_pure {l : PySem.W.OpenLaw} {q : Program} {loose : List Str} {XP : (Str → Option Value) → Heap → Prop} {d : DefRec} {x : Str} {P : Prog} {M D j m : Nat} {fr : List Str} {body : List Stmt} {fd : FD}
    (most : l.most = some 63) (nodef : d.params.defaults = []) (room : Room (j + 1) callerA) (isf : P.fns.lookup d.name = some fd) (one : fd.ps = [x])
    (tab : P.fns = defsOf fr body) (args : (datOf body).all (fun d => plainArgs d.params) = true) (wf : P.fns.all (fun q => defB P D q.2) = true)
    (answer : ∀ ns : List Int, ns.length ≤ 63 → callN P M D (j + 1) d.name [.scr ns] = .ok (.bl true)) :
    PySem.W.WalkO q loose XP (hookP m P (datOf body)).says l.row.toRowW d [] (fun f vs => PySem.call f vs) := by
  refine Att.attach_call most nodef fun w s0 s1 mg mb fa ob pm cd dc ad vs ns Gd Yh h1 h2 h3 hmg h4 h5 len hg => ?_
  obtain ⟨K, KX, e⟩ := Yh
  have F : ProgOk P D K mg w := prog_ok (congrArg (fun z : AlP => z.2.2) e) KX Gd.T.g tab (congrArg (fun z : AlP => z.1) e) (congrArg (fun z : AlP => z.2.1) e) args wf
  obtain ⟨st, fa', fdata, g, hF, S, hb, hw, _, bs⟩ := F.fns _ _ isf
  have same : fa = fa' := by
    have z := hmg.symm.trans g
    cases z; rfl
  subst same
  refine law_call (x := x) (fd := fdata) (CX := L2.CX l.prog w) (sp := spOf (callN P M D (j + 1)) K mg fd d.name) KX Gd.T.g Gd.T.b Gd.T.builtins Gd.T.nolimit hg h4 h5 (Nat.le_trans len (by decide)) room (fun base kb nb => ?_) (fun s u => ?_) (fun H hO hS => ?_) fun H e s' => cx_end H s1 e s'
  · have z := fn_succ (p := l.prog) (base := base) (M := M) F (fns_ok F j) isf hF S hb hw
    rw [one] at z
    exact z
  · have z := bs s [u] (by rw [one]; rfl)
    rw [one] at z
    exact z
  · exact law_sp (by rw [one]; rfl) answer H ad ns len hS
end PyV
set_option Elab.async false
set_option linter.all false
set_option maxRecDepth 100000
set_option maxHeartbeats 1000000
/-! Layer PyV, part 16: the words of mirrors. -/
namespace PyV
open PySem

def slot (i : Nat) (ρ : Env) : R PV := match ρ[i]? with
  | some (some v) => .ok v.1
  | _ => .stuck
def andE (a b : R PV) : R PV := R.bind a fun v => match v with
  | .bl true => b
  | .bl false => .ok (.bl false)
  | _ => .stuck
def orE (a b : R PV) : R PV := R.bind a fun v => match v with
  | .bl true => .ok (.bl true)
  | .bl false => b
  | _ => .stuck
def notE (a : R PV) : R PV := R.bind a fun v => match v with
  | .bl c => .ok (.bl (!c))
  | _ => .stuck
def uopE (op : UnaryOp) (a : R PV) : R PV := R.bind a fun v => unop op v
def bopE (op : Operator) (a b : R PV) : R PV := R.bind a fun v => R.bind b fun w => binop op v w
def cmpE (op : CmpOp) (a b : R PV) : R PV := R.bind a fun v => R.bind b fun w => R.bind (cmpop op v w) fun c => .ok (.bl c)
def cmp2E (op op2 : CmpOp) (a b c : R PV) : R PV := R.bind a fun v => R.bind b fun w => R.bind (cmpop op v w) fun k =>
  if k = true then R.bind c fun z => R.bind (cmpop op2 w z) fun k2 => .ok (.bl k2) else .ok (.bl false)
def ifE (c : R Bool) (a b : R PV) : R PV := R.bind c fun k => if k = true then a else b
def ixE (a b : R PV) : R PV := R.bind a fun v => R.bind b fun w => index v w
def ixD (ps : List (PV × PV)) (b : R PV) : R PV := R.bind b fun w => ofOpt (dget ps w)
def revE (a : R PV) : R PV := R.bind a revPV
def optN : R (Option Int) := .ok none
def optS (e : R PV) : R (Option Int) := R.bind e fun v => match v with
  | .int i => .ok (some i)
  | _ => .stuck
def slE (a : R PV) (lo hi : R (Option Int)) : R PV := R.bind a fun v => R.bind lo fun l => R.bind hi fun h => slice v l h
def seqR : List (R PV) → R (List PV)
  | [] => .ok []
  | a :: r => R.bind a fun v => R.bind (seqR r) fun vs => .ok (v :: vs)
def getD (ps : List (PV × PV)) (es : List (R PV)) : R PV := R.bind (seqR es) (kget ps)
def tupE (es : List (R PV)) : R PV := R.bind (seqR es) fun vs => .ok (.tup vs)
def lstE (es : List (R PV)) : R PV := R.bind (seqR es) fun vs => .ok (.lst vs)
def dicE (es : List (R PV)) : R PV := R.bind (seqR es) fun xs => need (flatD (pairUp xs) = true) (.ok (.dic (dmake (pairUp xs))))
def isiE (t : String) (a : R PV) : R PV := R.bind a fun v => ofOpt ((typeIs t v).map PV.bl)
def ownE (call : Str → List PV → R PV) (f : Str) (n : Nat) (es : List (R PV)) : R PV := R.bind (seqR es) fun vs => need (vs.length = n) (call f vs)
def bltE (f : String) (es : List (R PV)) : R PV := R.bind (seqR es) fun vs => builtin f vs
def bltTE (f : String) (es : List (R PV)) : R PV := R.bind (seqR es) fun vs => builtinT f vs
def mthE (m : String) (o : R PV) (es : List (R PV)) : R PV := R.bind o fun v => need (recvB m v = true) (R.bind (seqR es) fun vs => method m v vs)
def bind1 (i : Nat) (x : PV) (ρ : Env) : R Env := .ok (ρ.set i (some (x, false)))
def bindL : List Nat → List PV → Env → R Env
  | [], [], ρ => .ok ρ
  | i :: is, v :: vs, ρ => bindL is vs (ρ.set i (some (v, false)))
  | _, _, _ => .stuck
def bindN (is : List Nat) (x : PV) (ρ : Env) : R Env := match x with
  | .tup vs => bindL is vs ρ
  | _ => .stuck
def rngI (es : List (R PV)) : R (List PV) := R.bind (seqR es) rangeOf
/-- list(range(..)), tuple(range(..)) -/
def lrgE (f : Str) (es : List (R PV)) : R PV := R.bind (R.bind (seqR es) rangeOf) (seqRng f)
def enmI (es : List (R PV)) : R (List PV) := R.bind (seqR es) enumOf
def zipI (es : List (R PV)) : R (List PV) := R.bind (seqR es) zipOf
def itmI (e : R PV) : R (List PV) := R.bind e items
def compE (rng : Bool) (it : R (List PV)) (bd : PV → R Env) (ifs : Env → R Bool) (elt : Env → R PV) : R PV := R.bind it fun xs => need (rng = true → xs.length ≤ line)
  (R.bind (R.calm (compLoop (fun x => R.bind (bd x) fun ρ' => R.bind (ifs ρ') fun k => if k = true then R.bind (elt ρ') fun y => .ok (some y) else .ok none) xs)) fun ys => .ok (.lst ys))
def noIf : R Bool := .ok true
/-! tests -/
def notT (a : R Bool) : R Bool := R.bind a fun c => .ok (!c)
def andT (a b : R Bool) : R Bool := R.bind a fun c => if c = true then b else .ok false
def orT (a b : R Bool) : R Bool := R.bind a fun c => if c = true then .ok true else b
def cmpT (op : CmpOp) (a b : R PV) : R Bool := R.bind a fun v => R.bind b fun w => cmpop op v w
def cmp2T (op op2 : CmpOp) (a b c : R PV) : R Bool := R.bind a fun v => R.bind b fun w => R.bind (cmpop op v w) fun k => if k = true then R.bind c fun z => cmpop op2 w z else .ok false
def truT (a : R PV) : R Bool := R.bind a fun v => truth v
/-! statements -/
def retS (ρ : Env) (e : R PV) (fl : Bool) : SR := liftR ρ e fun v => .ret v fl
def ifS (ρ : Env) (c : R Bool) (a b : SR) : SR := liftR ρ c fun k => if k = true then a else b
def setS (ρ : Env) (i : Nat) (e : R PV) (fl : Bool) (I : List Nat) : SR := liftR ρ e fun v => .nx ((settle fl v I ρ).set i (some (v, fl && ownB v)))
def unpS (ρ : Env) (is : List Nat) (e : R PV) (I : List Nat) : SR := liftR ρ e fun v => liftR ρ (bindN is v (settle false v I ρ)) .nx
def unpOwn (is : List Nat) (k i : Nat) (v : PV) (ρ ρ' : Env) : Option Env := match v with
  | .tup vs => match vs[k]? with
    | some (.lst xs) => if (arePure (vs.eraseIdx k) && arePure xs && ((is.map some).all fun j => j == some i || (j.map (pureAt ρ')).getD true) && decide (i < ρ.length)) = true then some (ρ'.set i (some (.lst xs, true))) else none
    | _ => none
  | _ => none
/-- a target with tuples of names in it -/
def bindS : List (Nat ⊕ List Nat) → List PV → Env → R Env
  | [], [], ρ => .ok ρ
  | .inl i :: is, v :: vs, ρ => bindS is vs (ρ.set i (some (v, false)))
  | .inr js :: is, .tup us :: vs, ρ => R.bind (bindL js us ρ) fun ρ' => bindS is vs ρ'
  | _, _, _ => .stuck
def bindT (is : List (Nat ⊕ List Nat)) (x : PV) (ρ : Env) : R Env := match x with
  | .tup vs => bindS is vs ρ
  | _ => .stuck
/-- a, b = x, []: slot i (part k) comes to own the new list -/
def unpO (ρ : Env) (is : List Nat) (k i : Nat) (e : R PV) (I : List Nat) : SR := liftR ρ e fun v => match (match bindN is v ρ with | .ok ρ' => unpOwn is k i v ρ ρ' | _ => none) with
  | some ρ2 => .nx ρ2
  | none => liftR ρ (bindN is v (settle false v I ρ)) .nx
def stoS (ρ : Env) (i : Nat) (ix e : R PV) : SR := match ownAt ρ i with
  | some o => liftR ρ e fun v => liftR ρ ix fun w => if isPure v = true then liftR ρ (store o w v) fun o' => .nx (ρ.set i (some (o', true))) else .stuck
  | none => .stuck
def augS (ρ : Env) (i : Nat) (op : Operator) (e : R PV) : SR := match ρ[i]? with
  | some (some v) => liftR ρ e fun w => liftR ρ (augop op v.1 w) fun z => .nx (ρ.set i (some (z, false)))
  | _ => .stuck
def mutS' (ρ : Env) (i : Nat) (m : String) (es : List (R PV)) (I : List Nat := []) : SR := match ownAt ρ i with
  | some o => if mutRecv m o = true then liftR ρ (seqR es) fun vs => liftR ρ (mutate m o vs) fun o' => if heldPure o' = true then .nx (ρ.set i (some (o', true))) else if (ownB o' && !I.contains i) = true then .nx ((freeze I ρ).set i (some (o', true))) else .stuck else .stuck
  | none => .stuck
def callS (ρ : Env) (e : R PV) : SR := liftR ρ e fun _ => .nx ρ
def forR (ρ : Env) (it : R (List PV)) (bd : PV → Env → R Env) (body : Env → SR) : SR := liftR ρ it fun xs => forLoop (fun x ρ => liftR ρ (bd x ρ) body) xs ρ
def forW (ρ : Env) (it : R (List PV)) (I : List Nat) (bd : PV → Env → R Env) (body : Env → SR) : SR := liftR ρ it fun xs => forLoop (fun x ρ => liftR ρ (bd x ρ) body) xs (if arePure xs = true then ρ else freeze I ρ)
/-- fl: the walked value is new; dj: the body changes nothing of it -/
def forG (ρ : Env) (it : R PV) (fl dj : Bool) (I : List Nat) (bd : PV → Env → R Env) (body : Env → SR) : SR := liftR ρ it fun v => liftR ρ (items v) fun xs =>
  if (isPure v || (fl && heldPure v) || dj) = true then forLoop (fun x ρ => liftR ρ (bd x ρ) body) xs (if arePure xs = true then ρ else freeze I ρ) else .stuck
def tryS (b : SR) (h : Str → List (Str × PV) → Env → SR) : SR := match b with
  | .exc c fs ρ' => h c fs ρ'
  | o => o
def catS (P : Prog) (c x : Str) (a b : SR) : SR := match excMatch P c x with
  | some true => a
  | some false => b
  | none => .stuck
/-- a suite's value, handed back -/
def sufS (r : R PV) : SR := match r with
  | .ok v => if isPure v = true then .ret v true else .stuck
  | _ => .stuck
/-- a if isinstance(x, y) else b, in a suite -/
def isxE (P : Prog) (c : Str) (fs : List (Str × PV)) (nm : Option Str) (g x y : Str) (a b : R PV) : R PV := if nameIs g "isinstance" = true ∧ nm = some x ∧ fs = [] ∧ plainExc P c = true then
    match excMatch P c y with
    | some true => a
    | some false => b
    | none => .stuck
  else .stuck
/-- rows = zip(range(r), a, b); return tuple([.. for .. in rows ..]): slot i is the name's -/
def zpS (ρ : Env) (i : Nat) (r : R PV) (es : List (R PV)) (bd : PV → Env → R Env) (ifs : Env → R Bool) (elt : Env → R PV) : SR := liftR ρ (zip3R r (seqR es)) fun xs => liftR ρ (R.calm (compLoop (fun x => R.bind (bd x (ρ.set i none)) fun ρ' => R.bind (ifs ρ') fun k =>
  if k = true then R.bind (elt ρ') fun y => .ok (some y) else .ok none) xs)) fun ys => .ret (.tup ys) true
/-- a body's end -/
def finS (fresh : Bool) : SR → R PV
  | .nx _ => .ok .non
  | .ret v fl => need (fresh = true → fl = true ∨ mutTop v = false) (.ok v)
  | .exc c fs _ => .exc c fs
  | _ => .stuck
end PyV
set_option Elab.async false
set_option linter.all false
set_option maxRecDepth 100000
set_option maxHeartbeats 1000000
/-! Plain lemmas over the words of mirrors. -/
namespace PyV
open PySem
section
variable {α β : Type}
@[simp] theorem bind_okE (a : α) (f : α → R β) : R.bind (.ok a) f = f a := rfl
@[simp] theorem bind_excE (c : Str) (fs : List (Str × PV)) (f : α → R β) : R.bind (.exc c fs : R α) f = .exc c fs := rfl
@[simp] theorem liftR_ok (ρ : Env) (a : α) (f : α → SR) : liftR ρ (.ok a) f = f a := rfl
@[simp] theorem liftR_exc (ρ : Env) (c : Str) (fs : List (Str × PV)) (f : α → SR) : liftR ρ (.exc c fs : R α) f = .exc c fs ρ := rfl
@[simp] theorem then_nx (ρ : Env) (f : Env → SR) : SR.then (.nx ρ) f = f ρ := rfl
@[simp] theorem then_ret (v : PV) (b : Bool) (f : Env → SR) : SR.then (.ret v b) f = .ret v b := rfl
@[simp] theorem then_exc (c : Str) (fs : List (Str × PV)) (ρ : Env) (f : Env → SR) : SR.then (.exc c fs ρ) f = .exc c fs ρ := rfl
@[simp] theorem then_bk (ρ : Env) (f : Env → SR) : SR.then (.bk ρ) f = .bk ρ := rfl
@[simp] theorem then_ct (ρ : Env) (f : Env → SR) : SR.then (.ct ρ) f = .ct ρ := rfl
@[simp] theorem need_if {c : Prop} [Decidable c] (h : c) (r : R α) : need c r = r := if_pos h
@[simp] theorem slot_at (i : Nat) (ρ : Env) (v : PV) (b : Bool) (h : ρ[i]? = some (some (v, b))) : slot i ρ = .ok v := by unfold slot; rw [h]
end
/-- loops whose steps all go on: s the state, env its slots -/
theorem forLoop_fold {S : Type} (env : S → Env) (g : S → PV → S) (step : PV → Env → SR) : ∀ (xs : List PV) (s : S), (∀ s x, x ∈ xs → step x (env s) = .nx (env (g s x)) ∨ step x (env s) = .ct (env (g s x))) → forLoop step xs (env s) = .nx (env (xs.foldl g s))
  | [], s, _ => rfl
  | x :: xs, s, h => by
    have t := forLoop_fold env g step xs (g s x) fun s y hy => h s y (List.mem_cons_of_mem _ hy)
    rcases h s x List.mem_cons_self with e | e
    · show (match step x (env s) with | .nx ρ' => forLoop step xs ρ' | .ct ρ' => forLoop step xs ρ' | .bk ρ' => .nx ρ' | o => o) = _
      rw [e]; exact t
    · show (match step x (env s) with | .nx ρ' => forLoop step xs ρ' | .ct ρ' => forLoop step xs ρ' | .bk ρ' => .nx ρ' | o => o) = _
      rw [e]; exact t
/-- what a step of a loop does -/
inductive LR (S : Type) where
  | go (s : S) | ret (v : PV) (fl : Bool) | brk (s : S)
def LR.sr {S : Type} (env : S → Env) : LR S → SR
  | .go s => .nx (env s)
  | .ret v fl => .ret v fl
  | .brk s => .bk (env s)
def runL {S : Type} (g : S → PV → LR S) : List PV → S → LR S
  | [], s => .go s
  | x :: xs, s => match g s x with
    | .go s' => runL g xs s'
    | .brk s' => .go s'
    | o => o
theorem forLoop_run {S : Type} (env : S → Env) (g : S → PV → LR S) (step : PV → Env → SR) : ∀ (xs : List PV) (s : S), (∀ s x, x ∈ xs → step x (env s) = (g s x).sr env) → forLoop step xs (env s) = (runL g xs s).sr env
  | [], s, _ => rfl
  | x :: xs, s, h => by
    have e := h s x List.mem_cons_self
    show (match step x (env s) with | .nx ρ' => forLoop step xs ρ' | .ct ρ' => forLoop step xs ρ' | .bk ρ' => .nx ρ' | o => o) = _
    rw [e]
    unfold runL
    cases z : g s x with
    | go s' => exact forLoop_run env g step xs s' fun s y hy => h s y (List.mem_cons_of_mem _ hy)
    | ret v fl => rfl
    | brk s' => rfl
/-- comprehensions: each item gives o (none: it is left out) -/
theorem compLoop_map (step : PV → R (Option PV)) (o : PV → Option PV) : ∀ (xs : List PV), (∀ x ∈ xs, step x = .ok (o x)) → compLoop step xs = .ok (xs.filterMap o)
  | [], _ => rfl
  | x :: xs, h => by
    have t := compLoop_map step o xs fun y hy => h y (List.mem_cons_of_mem _ hy)
    show R.bind (step x) (fun z => match z with | none => compLoop step xs | some y => R.bind (compLoop step xs) fun ys => .ok (y :: ys)) = _
    rw [h x List.mem_cons_self, bind_okE]
    cases e : o x with
    | none => rw [List.filterMap_cons_none e]; exact t
    | some y => rw [List.filterMap_cons_some e, t]; rfl
theorem compE_ok {rng : Bool} {it : R (List PV)} {bd : PV → R Env} {ifs : Env → R Bool} {elt : Env → R PV} {xs : List PV} (o : PV → Option PV) (h1 : it = .ok xs) (h2 : xs.length ≤ line ∨ rng = false)
    (h : ∀ x ∈ xs, (R.bind (bd x) fun ρ' => R.bind (ifs ρ') fun k => if k = true then R.bind (elt ρ') fun y => .ok (some y) else .ok none) = .ok (o x)) : compE rng it bd ifs elt = .ok (.lst (xs.filterMap o)) := by
  unfold compE
  rw [h1, bind_okE, need, if_pos (fun e => by rcases h2 with h2 | h2; exact h2; rw [h2] at e; cases e), compLoop_map _ o xs h]
  rfl
/-- without a test -/
theorem compE_map {rng : Bool} {it : R (List PV)} {bd : PV → R Env} {elt : Env → R PV} {xs : List PV} (g : PV → PV) (h1 : it = .ok xs) (h2 : xs.length ≤ line ∨ rng = false)
    (h : ∀ x ∈ xs, (R.bind (bd x) elt) = .ok (g x)) : compE rng it bd (fun _ => noIf) elt = .ok (.lst (xs.map g)) := by
  rw [compE_ok (fun x => some (g x)) h1 h2 fun x hx => ?_, List.filterMap_eq_map']
  have z := h x hx
  cases e : bd x with
  | ok ρ' => rw [e, bind_okE] at z; simp [noIf, z]
  | exc c fs => rw [e] at z; cases z
  | stuck => rw [e] at z; cases z
/-! ### the words at known kinds -/
@[simp] theorem finS_nx (b : Bool) (ρ : Env) : finS b (.nx ρ) = .ok .non := rfl
@[simp] theorem finS_ret (v : PV) (fl : Bool) : finS false (.ret v fl) = .ok v := by simp [finS, need]
@[simp] theorem finS_exc (b : Bool) (c : Str) (fs : List (Str × PV)) (ρ : Env) : finS b (.exc c fs ρ) = .exc c fs := rfl
@[simp] theorem andE_t (b : R PV) : andE (.ok (.bl true)) b = b := rfl
@[simp] theorem andE_f (b : R PV) : andE (.ok (.bl false)) b = .ok (.bl false) := rfl
theorem andE_b (p q : Bool) : andE (.ok (.bl p)) (.ok (.bl q)) = .ok (.bl (p && q)) := by cases p <;> rfl
@[simp] theorem orE_t (b : R PV) : orE (.ok (.bl true)) b = .ok (.bl true) := rfl
@[simp] theorem orE_f (b : R PV) : orE (.ok (.bl false)) b = b := rfl
theorem orE_b (p q : Bool) : orE (.ok (.bl p)) (.ok (.bl q)) = .ok (.bl (p || q)) := by cases p <;> rfl
@[simp] theorem notE_b (p : Bool) : notE (.ok (.bl p)) = .ok (.bl (!p)) := rfl
@[simp] theorem notT_b (p : Bool) : notT (.ok p) = .ok (!p) := rfl
@[simp] theorem andT_b (p : Bool) (b : R Bool) : andT (.ok p) b = if p = true then b else .ok false := rfl
@[simp] theorem orT_b (p : Bool) (b : R Bool) : orT (.ok p) b = if p = true then .ok true else b := rfl
@[simp] theorem truT_b (p : Bool) : truT (.ok (.bl p)) = .ok p := rfl
@[simp] theorem ifS_b (ρ : Env) (p : Bool) (a b : SR) : ifS ρ (.ok p) a b = if p = true then a else b := rfl
@[simp] theorem ifE_b (p : Bool) (a b : R PV) : ifE (.ok p) a b = if p = true then a else b := rfl
@[simp] theorem retS_ok (ρ : Env) (v : PV) (fl : Bool) : retS ρ (.ok v) fl = .ret v fl := rfl
@[simp] theorem retS_exc (ρ : Env) (c : Str) (fs : List (Str × PV)) (fl : Bool) : retS ρ (.exc c fs) fl = .exc c fs ρ := rfl
@[simp] theorem callS_ok (ρ : Env) (v : PV) : callS ρ (.ok v) = .nx ρ := rfl
@[simp] theorem callS_exc (ρ : Env) (c : Str) (fs : List (Str × PV)) : callS ρ (.exc c fs) = .exc c fs ρ := rfl
@[simp] theorem cmp2E_int (a b c : Int) : cmp2E .LtE .LtE (.ok (.int a)) (.ok (.int b)) (.ok (.int c)) = .ok (.bl (decide (a ≤ b) && decide (b ≤ c))) := by
  unfold cmp2E cmpop
  by_cases h : a ≤ b <;> simp [h]
@[simp] theorem cmp2T_le (a b c : Int) : cmp2T .LtE .LtE (.ok (.int a)) (.ok (.int b)) (.ok (.int c)) = .ok (decide (a ≤ b) && decide (b ≤ c)) := by
  unfold cmp2T cmpop
  by_cases h : a ≤ b <;> simp [h]
@[simp] theorem cmp2T_lelt (a b c : Int) : cmp2T .LtE .Lt (.ok (.int a)) (.ok (.int b)) (.ok (.int c)) = .ok (decide (a ≤ b) && decide (b < c)) := by
  unfold cmp2T cmpop
  by_cases h : a ≤ b <;> simp [h]
@[simp] theorem cmp2T_lt (a b c : Int) : cmp2T .Lt .Lt (.ok (.int a)) (.ok (.int b)) (.ok (.int c)) = .ok (decide (a < b) && decide (b < c)) := by
  unfold cmp2T cmpop
  by_cases h : a < b <;> simp [h]
@[simp] theorem cmpT_gt (a b : Int) : cmpT .Gt (.ok (.int a)) (.ok (.int b)) = .ok (decide (b < a)) := rfl
@[simp] theorem cmpT_ge (a b : Int) : cmpT .GtE (.ok (.int a)) (.ok (.int b)) = .ok (decide (b ≤ a)) := rfl
@[simp] theorem cmpT_lt (a b : Int) : cmpT .Lt (.ok (.int a)) (.ok (.int b)) = .ok (decide (a < b)) := rfl
@[simp] theorem cmpT_le (a b : Int) : cmpT .LtE (.ok (.int a)) (.ok (.int b)) = .ok (decide (a ≤ b)) := rfl
@[simp] theorem bopE_add (a b : Int) : bopE .Add (.ok (.int a)) (.ok (.int b)) = .ok (.int (a + b)) := rfl
@[simp] theorem bopE_sub (a b : Int) : bopE .Sub (.ok (.int a)) (.ok (.int b)) = .ok (.int (a - b)) := rfl
@[simp] theorem seqR_nil : seqR [] = .ok [] := rfl
@[simp] theorem seqR_cons (v : PV) (es : List (R PV)) : seqR (.ok v :: es) = R.bind (seqR es) fun vs => .ok (v :: vs) := rfl
@[simp] theorem len_lst (xs : List PV) : bltE "len" [.ok (.lst xs)] = .ok (.int xs.length) := rfl
@[simp] theorem len_tup (xs : List PV) : bltE "len" [.ok (.tup xs)] = .ok (.int xs.length) := rfl
@[simp] theorem len_str (xs : List Nat) : bltE "len" [.ok (.str xs)] = .ok (.int xs.length) := rfl
@[simp] theorem isi_def (t : String) (v : PV) : isiE t (.ok v) = ofOpt ((typeIs t v).map PV.bl) := rfl
theorem allBls_bl : ∀ bs : List Bool, allBls (bs.map PV.bl) = some bs
  | [] => rfl
  | b :: bs => by
    show (allBls (bs.map PV.bl)).map (b :: ·) = _
    rw [allBls_bl bs]; rfl
@[simp] theorem all_bl (bs : List Bool) : bltE "all" [.ok (.lst (bs.map PV.bl))] = .ok (.bl (bs.all id)) := by
  show ofOpt ((allBls (bs.map PV.bl)).map fun bs => PV.bl (bs.all id)) = _
  rw [allBls_bl]; rfl
@[simp] theorem any_bl (bs : List Bool) : bltE "any" [.ok (.lst (bs.map PV.bl))] = .ok (.bl (bs.any id)) := by
  show ofOpt ((allBls (bs.map PV.bl)).map fun bs => PV.bl (bs.any id)) = _
  rw [allBls_bl]; rfl
@[simp] theorem ownE_at (call : Str → List PV → R PV) (f : Str) (n : Nat) (es : List (R PV)) (vs : List PV) (h : seqR es = .ok vs) (hl : vs.length = n) : ownE call f n es = call f vs := by
  unfold ownE; rw [h, bind_okE, need, if_pos hl]
theorem ownN {call : Str → List PV → R PV} {f : Str} {n : Nat} {es : List (R PV)} {vs : List PV} (h : seqR es = .ok vs) (hl : vs.length = n) : ownE call f n es = call f vs := by
  unfold ownE; rw [h, bind_okE, need, if_pos hl]
@[simp] theorem own0 (call : Str → List PV → R PV) (f : Str) : ownE call f 0 [] = call f [] := ownN rfl rfl
@[simp] theorem own1 (call : Str → List PV → R PV) (f : Str) (a : PV) : ownE call f 1 [.ok a] = call f [a] := ownN rfl rfl
@[simp] theorem own2 (call : Str → List PV → R PV) (f : Str) (a b : PV) : ownE call f 2 [.ok a, .ok b] = call f [a, b] := ownN rfl rfl
@[simp] theorem own3 (call : Str → List PV → R PV) (f : Str) (a b c : PV) : ownE call f 3 [.ok a, .ok b, .ok c] = call f [a, b, c] := ownN rfl rfl
@[simp] theorem own4 (call : Str → List PV → R PV) (f : Str) (a b c d : PV) : ownE call f 4 [.ok a, .ok b, .ok c, .ok d] = call f [a, b, c, d] := ownN rfl rfl
@[simp] theorem own5 (call : Str → List PV → R PV) (f : Str) (a b c d e : PV) : ownE call f 5 [.ok a, .ok b, .ok c, .ok d, .ok e] = call f [a, b, c, d, e] := ownN rfl rfl
@[simp] theorem slot0 (a : PV) (b : Bool) (ρ : Env) : slot 0 (some (a, b) :: ρ) = .ok a := rfl
@[simp] theorem slotS (i : Nat) (o : Option (PV × Bool)) (ρ : Env) : slot (i + 1) (o :: ρ) = slot i ρ := rfl
end PyV
set_option Elab.async false
set_option linter.all false
set_option maxRecDepth 100000
set_option maxHeartbeats 1000000
/-! The draws that every law makes of its script. -/
namespace PyV
open PySem
theorem forLoop_inv (Iv : Nat → Env → Prop) (step : PV → Env → SR) : ∀ (xs : List PV) (j : Nat) (ρ : Env), Iv j ρ → (∀ i x ρ, j ≤ i → xs[i - j]? = some x → Iv i ρ → ∃ ρ', step x ρ = .nx ρ' ∧ Iv (i + 1) ρ') → ∃ ρ', forLoop step xs ρ = .nx ρ' ∧ Iv (j + xs.length) ρ'
  | [], j, ρ, h, _ => ⟨ρ, rfl, h⟩
  | x :: xs, j, ρ, h, hs => by
    obtain ⟨ρ', e, h'⟩ := hs j x ρ (Nat.le_refl _) (by simp) h
    obtain ⟨ρ2, e2, h2⟩ := forLoop_inv Iv step xs (j + 1) ρ' h' fun i y ρ hi hy hv => hs i y ρ (by omega) (by rw [show i - j = (i - (j + 1)) + 1 by omega]; exact hy) hv
    refine ⟨ρ2, ?_, by rw [List.length_cons, show j + (xs.length + 1) = j + 1 + xs.length by omega]; exact h2⟩
    show (match step x ρ with | .nx ρ' => forLoop step xs ρ' | .ct ρ' => forLoop step xs ρ' | .bk ρ' => .nx ρ' | o => o) = _
    rw [e]; exact e2
def small16 (ds : List Int) : Prop := ∀ d ∈ ds, 0 ≤ d ∧ d ≤ 65520
theorem small16.snoc {ds : List Int} (h : small16 ds) {d : Int} (h0 : 0 ≤ d) (h1 : d ≤ 65520) : small16 (ds ++ [d]) := fun e he => by
  rcases List.mem_append.mp he with q | q
  · exact h e q
  · rw [List.mem_singleton.mp q]; exact ⟨h0, h1⟩
theorem arePure_ints : ∀ ds : List Int, arePure (ds.map PV.int) = true
  | [] => rfl
  | d :: ds => by show (isPure (.int d) && arePure (ds.map PV.int)) = true; rw [arePure_ints ds]; rfl
theorem append_int (ds : List Int) (d : Int) (h : ds.length < line) : mutate "append" (.lst (ds.map PV.int)) [.int d] = .ok (.lst ((ds ++ [d]).map PV.int)) := by
  show need ((ds.map PV.int).length < line) (R.ok (PV.lst (ds.map PV.int ++ [.int d]))) = _
  rw [need, if_pos (by simpa using h), List.map_append]; rfl
def drawsB (ρ : Env) : SR :=
  (SR.then (setS ρ 2 (lstE []) true []) fun ρ =>
  SR.then (setS ρ 3 (R.ok (.int 7)) true []) fun ρ =>
  SR.then (forG ρ (slE (slot 0 ρ) optN (optS (R.ok (.int 63)))) true true [0] (fun x ρ => bind1 4 x ρ) (fun ρ =>
  (SR.then (setS ρ 5 (bltE "abs" [(slot 4 ρ)]) true [4]) fun ρ =>
    SR.then (setS ρ 3 (bopE .Mod (bltTE "int" [(bopE .Add (bopE .Add (bopE .Mult (slot 3 ρ) (R.ok (.int 48271))) (slot 5 ρ)) (R.ok (.int 11)))]) (R.ok (.int 2147483647))) true [3, 5]) fun ρ =>
    SR.then (ifS ρ (cmpT .GtE (slot 5 ρ) (bopE .Pow (R.ok (.int 10)) (R.ok (.int 18))))
    (SR.then (forR ρ (rngI [(R.ok (.int 60))]) (fun x ρ => bind1 6 x ρ) (fun ρ =>
      (SR.then (ifS ρ (cmpT .Gt (slot 5 ρ) (R.ok (.int 0)))
        (SR.then (mutS' ρ 2 "append" [(bopE .Mod (bltTE "int" [(slot 5 ρ)]) (R.ok (.int 1009)))] [5]) fun ρ =>
          SR.then (setS ρ 5 (bopE .FloorDiv (slot 5 ρ) (R.ok (.int 1009))) true [5]) fun ρ =>
          SR.nx ρ)
        (SR.nx ρ)) fun ρ =>
        SR.nx ρ))) fun ρ =>
      SR.nx ρ)
    (SR.then (mutS' ρ 2 "append" [(bopE .Mod (bopE .FloorDiv (bltTE "int" [(bopE .Add (bopE .Mult (slot 3 ρ) (R.ok (.int 16807))) (R.ok (.int 5)))]) (R.ok (.int 3))) (R.ok (.int 65521)))] [3]) fun ρ =>
      SR.nx ρ)) fun ρ =>
    SR.nx ρ))) fun ρ =>
  SR.then (forR ρ (rngI [(slot 1 ρ)]) (fun x ρ => bind1 6 x ρ) (fun ρ =>
  (SR.then (ifS ρ (cmpT .Lt (bltE "len" [(slot 2 ρ)]) (slot 1 ρ))
    (SR.then (setS ρ 3 (bopE .Mod (bltTE "int" [(bopE .Add (bopE .Add (bopE .Mult (slot 3 ρ) (R.ok (.int 69621))) (slot 6 ρ)) (R.ok (.int 1)))]) (R.ok (.int 2147483647))) true [3, 6]) fun ρ =>
      SR.then (mutS' ρ 2 "append" [(bopE .Mod (bopE .FloorDiv (bltTE "int" [(slot 3 ρ)]) (R.ok (.int 7))) (R.ok (.int 65521)))] [3]) fun ρ =>
      SR.nx ρ)
    (SR.nx ρ)) fun ρ =>
    SR.nx ρ))) fun ρ =>
  SR.then (retS ρ (slE (slot 2 ρ) optN (optS (slot 1 ρ))) (true)) fun ρ =>
  SR.nx ρ)

abbrev Sl := Option (PV × Bool)
def E7 (sc : PV) (n : Int) (ds : List Int) (seed : Int) (a b c : Sl) : Env := [some (sc, false), some (.int n, false), some (.lst (ds.map PV.int), true), some (.int seed, false), a, b, c]
theorem mod_ok (a b : Int) (h : 0 < b) : bopE .Mod (.ok (.int a)) (.ok (.int b)) = .ok (.int (a % b)) := by
  show need (0 < b) _ = _
  rw [need, if_pos h]
theorem div_ok (a b : Int) (h : 0 < b) (h2 : b < 1073741824) : bopE .FloorDiv (.ok (.int a)) (.ok (.int b)) = .ok (.int (a / b)) := by
  show need (0 < b ∧ b < 1073741824) _ = _
  rw [need, if_pos ⟨h, h2⟩]
theorem mul_ok (a b : Int) (h : cMul a b) : bopE .Mult (.ok (.int a)) (.ok (.int b)) = .ok (.int (a * b)) := by
  show need (cMul a b) _ = _
  rw [need, if_pos h]
@[simp] theorem int_ok (a : Int) : bltTE "int" [.ok (.int a)] = .ok (.int a) := rfl
/-- the tail: a number is added -/
theorem app7 (sc : PV) (n : Int) (ds : List Int) (seed : Int) (a b c : Sl) (d : Int) (h : ds.length < line) {I : List Nat} : mutS' (E7 sc n ds seed a b c) 2 "append" [.ok (.int d)] I = .nx (E7 sc n (ds ++ [d]) seed a b c) := by
  show (liftR _ (mutate "append" (.lst (ds.map PV.int)) [.int d]) fun o' => if heldPure o' = true then SR.nx _ else _) = _
  rw [append_int ds d h, liftR_ok, if_pos (by show arePure _ = true; exact arePure_ints _)]
  rfl
theorem set3 (sc : PV) (n : Int) (ds : List Int) (seed : Int) (a b c : Sl) (z : Int) (I : List Nat) : setS (E7 sc n ds seed a b c) 3 (.ok (.int z)) true I = .nx (E7 sc n ds z a b c) := rfl
theorem set5 (sc : PV) (n : Int) (ds : List Int) (seed : Int) (a b c : Sl) (z : Int) (I : List Nat) : setS (E7 sc n ds seed a b c) 5 (.ok (.int z)) true I = .nx (E7 sc n ds seed a (some (.int z, false)) c) := rfl
theorem small_of {j : Int} (h0 : 0 ≤ j) (h1 : j ≤ 1000000) : small j := by
  have h : -(4611686018427387904 : Int) ≤ j ∧ j < 4611686018427387904 := by omega
  exact h
theorem hs1 (n : Nat) (h : n ≤ 1000000) : small (n : Int) := small_of (by omega) (by omega)
theorem rangeOf_ok (j : Int) (h : small j) : rangeOf [.int j] = .ok (rangeL 0 j.toNat) := by
  unfold rangeOf
  exact need_if h _
theorem rngI_one (a : PV) : rngI [.ok a] = rangeOf [a] := by
  simp only [rngI, seqR_cons, seqR_nil, bind_okE]
theorem range1 (n : Nat) (h : n ≤ 1000000) : rngI [.ok (.int (n : Int))] = .ok (rangeL 0 n) := by
  rw [rngI_one, rangeOf_ok _ (hs1 n h)]
  rfl
def lastB (ρ : Env) : SR :=
      (SR.then (ifS ρ (cmpT .Lt (bltE "len" [(slot 2 ρ)]) (slot 1 ρ))
        (SR.then (setS ρ 3 (bopE .Mod (bltTE "int" [(bopE .Add (bopE .Add (bopE .Mult (slot 3 ρ) (R.ok (.int 69621))) (slot 6 ρ)) (R.ok (.int 1)))]) (R.ok (.int 2147483647))) true [3, 6]) fun ρ =>
          SR.then (mutS' ρ 2 "append" [(bopE .Mod (bopE .FloorDiv (bltTE "int" [(slot 3 ρ)]) (R.ok (.int 7))) (R.ok (.int 65521)))] [3]) fun ρ =>
          SR.nx ρ)
        (SR.nx ρ)) fun ρ => SR.nx ρ)
theorem draw_last (sc : PV) (n : Nat) (hn : n ≤ 1000) (ds : List Int) (hd : small16 ds) (hl : ds.length ≤ 10000) (seed : Int) (a b c : Sl) :
    ∃ ds' seed' c', small16 ds' ∧ n ≤ ds'.length ∧ forR (E7 sc n ds seed a b c) (rngI [.ok (.int n)]) (fun x ρ => bind1 6 x ρ) lastB = .nx (E7 sc n ds' seed' a b c') := by
  have hr := range1 n (by omega)
  unfold forR
  rw [hr, liftR_ok]
  obtain ⟨ρ', e, ⟨ds', seed', c', rfl, h1, h2, h3⟩⟩ := forLoop_inv (fun i ρ => ∃ ds' seed' c', ρ = E7 sc n ds' seed' a b c' ∧ small16 ds' ∧ (i ≤ ds'.length ∨ n ≤ ds'.length) ∧ ds'.length ≤ 10000 + i) (fun x ρ => liftR ρ (bind1 6 x ρ) lastB) (rangeL 0 n) 0 (E7 sc n ds seed a b c) ⟨ds, seed, c, rfl, hd, .inl (Nat.zero_le _), hl⟩ (fun i x ρ _ hx hv => by
    obtain ⟨d1, s1, c1, rfl, g1, g2, g3⟩ := hv
    have hi : i < n := by have := (List.getElem?_eq_some_iff.mp hx).1; simpa [rangeL] using this
    have ex : x = .int (i : Int) := by
      unfold rangeL at hx
      rw [List.getElem?_map, List.getElem?_range (by simpa using hi)] at hx
      simp at hx; exact hx.symm
    subst ex
    by_cases hc : d1.length < n
    · refine ⟨E7 sc n (d1 ++ [(s1 * 69621 + i + 1) % 2147483647 / 7 % 65521]) ((s1 * 69621 + i + 1) % 2147483647) a b (some (.int i, false)), ?_, _, _, _, rfl, g1.snoc (by omega) (by omega), .inl (by simp; omega), by simp; omega⟩
      show lastB (E7 sc n d1 s1 a b (some (.int i, false))) = _
      unfold lastB
      have z1 : cmpT .Lt (bltE "len" [slot 2 (E7 sc n d1 s1 a b (some (.int i, false)))]) (slot 1 (E7 sc n d1 s1 a b (some (.int i, false)))) = .ok true := by
        show R.ok (decide (((d1.map PV.int).length : Int) < n)) = _
        rw [List.length_map, decide_eq_true (by omega)]
      have z2 : (bopE .Mod (bltTE "int" [(bopE .Add (bopE .Add (bopE .Mult (slot 3 (E7 sc n d1 s1 a b (some (.int i, false)))) (R.ok (.int 69621))) (slot 6 (E7 sc n d1 s1 a b (some (.int i, false))))) (R.ok (.int 1)))]) (R.ok (.int 2147483647))) = .ok (.int ((s1 * 69621 + i + 1) % 2147483647)) := by
        show bopE .Mod (bltTE "int" [bopE .Add (bopE .Add (bopE .Mult (.ok (.int s1)) (R.ok (.int 69621))) (.ok (.int i))) (R.ok (.int 1))]) _ = _
        rw [mul_ok _ _ (.inr (by decide)), bopE_add, bopE_add, int_ok, mod_ok _ _ (by decide)]
      rw [z1, z2, ifS_b, if_pos rfl, set3, then_nx]
      have z3 : ∀ s2, (bopE .Mod (bopE .FloorDiv (bltTE "int" [(slot 3 (E7 sc n d1 s2 a b (some (.int i, false))))]) (R.ok (.int 7))) (R.ok (.int 65521))) = .ok (.int (s2 / 7 % 65521)) := fun s2 => by
        show bopE .Mod (bopE .FloorDiv (bltTE "int" [.ok (.int s2)]) (R.ok (.int 7))) _ = _
        rw [int_ok, div_ok _ _ (by decide) (by decide), mod_ok _ _ (by decide)]
      rw [z3, app7 _ _ _ _ _ _ _ _ (by unfold line; omega)]
      rfl
    · refine ⟨E7 sc n d1 s1 a b (some (.int i, false)), ?_, d1, s1, _, rfl, g1, .inr (by omega), by omega⟩
      show lastB (E7 sc n d1 s1 a b (some (.int i, false))) = _
      unfold lastB
      have z1 : cmpT .Lt (bltE "len" [slot 2 (E7 sc n d1 s1 a b (some (.int i, false)))]) (slot 1 (E7 sc n d1 s1 a b (some (.int i, false)))) = .ok false := by
        show R.ok (decide (((d1.map PV.int).length : Int) < n)) = _
        rw [List.length_map, decide_eq_false (by omega)]
      rw [z1, ifS_b, if_neg Bool.false_ne_true]
      rfl)
  refine ⟨ds', seed', c', h1, ?_, e⟩
  have : (rangeL 0 n).length = n := by simp [rangeL]
  rw [this] at h2
  omega
def inB (ρ : Env) : SR :=
      (SR.then (ifS ρ (cmpT .Gt (slot 5 ρ) (R.ok (.int 0)))
        (SR.then (mutS' ρ 2 "append" [(bopE .Mod (bltTE "int" [(slot 5 ρ)]) (R.ok (.int 1009)))] [5]) fun ρ =>
          SR.then (setS ρ 5 (bopE .FloorDiv (slot 5 ρ) (R.ok (.int 1009))) true [5]) fun ρ =>
          SR.nx ρ)
        (SR.nx ρ)) fun ρ =>
        SR.nx ρ)
theorem draw_in (sc : PV) (n : Int) (ds : List Int) (hd : small16 ds) (hl : ds.length ≤ 10000) (seed z : Int) (hz : 0 ≤ z) (a c : Sl) :
    ∃ ds' z' c', small16 ds' ∧ ds'.length ≤ ds.length + 60 ∧ forR (E7 sc n ds seed a (some (.int z, false)) c) (rngI [.ok (.int 60)]) (fun x ρ => bind1 6 x ρ) inB = .nx (E7 sc n ds' seed a (some (.int z', false)) c') := by
  have hr := range1 60 (by omega)
  unfold forR
  rw [show (60 : Int) = ((60 : Nat) : Int) from rfl, hr, liftR_ok]
  obtain ⟨ρ', e, ⟨ds', z', c', rfl, h1, h2, h3⟩⟩ := forLoop_inv (fun i ρ => ∃ ds' z' c', ρ = E7 sc n ds' seed a (some (.int z', false)) c' ∧ small16 ds' ∧ 0 ≤ z' ∧ ds'.length ≤ ds.length + i) (fun x ρ => liftR ρ (bind1 6 x ρ) inB) (rangeL 0 60) 0 (E7 sc n ds seed a (some (.int z, false)) c) ⟨ds, z, c, rfl, hd, hz, Nat.le_refl _⟩ (fun i x ρ _ hx hv => by
    obtain ⟨d1, z1, c1, rfl, g1, g2, g3⟩ := hv
    have hi : i < 60 := by have := (List.getElem?_eq_some_iff.mp hx).1; simpa [rangeL] using this
    by_cases hp : 0 < z1
    · refine ⟨E7 sc n (d1 ++ [z1 % 1009]) seed a (some (.int (z1 / 1009), false)) (some (x, false)), ?_, _, _, _, rfl, g1.snoc (by omega) (by omega), by omega, by simp; omega⟩
      show inB (E7 sc n d1 seed a (some (.int z1, false)) (some (x, false))) = _
      unfold inB
      have q1 : slot 5 (E7 sc n d1 seed a (some (.int z1, false)) (some (x, false))) = .ok (.int z1) := rfl
      rw [q1, cmpT_gt, ifS_b, if_pos (decide_eq_true hp), int_ok, mod_ok _ _ (by decide), app7 _ _ _ _ _ _ _ _ (by unfold line; omega), then_nx]
      have q2 : ∀ dd, slot 5 (E7 sc n dd seed a (some (.int z1, false)) (some (x, false))) = .ok (.int z1) := fun _ => rfl
      rw [q2, div_ok _ _ (by decide) (by decide), set5]
      rfl
    · refine ⟨E7 sc n d1 seed a (some (.int z1, false)) (some (x, false)), ?_, _, _, _, rfl, g1, g2, by omega⟩
      show inB (E7 sc n d1 seed a (some (.int z1, false)) (some (x, false))) = _
      unfold inB
      have q1 : slot 5 (E7 sc n d1 seed a (some (.int z1, false)) (some (x, false))) = .ok (.int z1) := rfl
      rw [q1, cmpT_gt, ifS_b, if_neg (by simpa using hp)]
      rfl)
  refine ⟨ds', z', c', h1, ?_, e⟩
  have : (rangeL 0 60).length = 60 := by simp [rangeL]
  rw [this] at h3
  omega
def outB (ρ : Env) : SR :=
  (SR.then (setS ρ 5 (bltE "abs" [(slot 4 ρ)]) true [4]) fun ρ =>
    SR.then (setS ρ 3 (bopE .Mod (bltTE "int" [(bopE .Add (bopE .Add (bopE .Mult (slot 3 ρ) (R.ok (.int 48271))) (slot 5 ρ)) (R.ok (.int 11)))]) (R.ok (.int 2147483647))) true [3, 5]) fun ρ =>
    SR.then (ifS ρ (cmpT .GtE (slot 5 ρ) (bopE .Pow (R.ok (.int 10)) (R.ok (.int 18))))
    (SR.then (forR ρ (rngI [(R.ok (.int 60))]) (fun x ρ => bind1 6 x ρ) inB) fun ρ =>
      SR.nx ρ)
    (SR.then (mutS' ρ 2 "append" [(bopE .Mod (bopE .FloorDiv (bltTE "int" [(bopE .Add (bopE .Mult (slot 3 ρ) (R.ok (.int 16807))) (R.ok (.int 5)))]) (R.ok (.int 3))) (R.ok (.int 65521)))] [3]) fun ρ =>
      SR.nx ρ)) fun ρ =>
    SR.nx ρ)
theorem out_step (sc : PV) (n : Int) (ds : List Int) (hd : small16 ds) (hl : ds.length ≤ 10000) (seed v : Int) (b c : Sl) :
    ∃ ds' seed' b' c', small16 ds' ∧ ds'.length ≤ ds.length + 60 ∧ outB (E7 sc n ds seed (some (.int v, false)) b c) = .nx (E7 sc n ds' seed' (some (.int v, false)) b' c') := by
  unfold outB
  have q0 : slot 4 (E7 sc n ds seed (some (.int v, false)) b c) = .ok (.int v) := rfl
  have qa : bltE "abs" [R.ok (.int v)] = .ok (.int (if v < 0 then -v else v)) := rfl
  rw [q0, qa, set5, then_nx]
  generalize hz : (if v < 0 then -v else v) = z
  have z0 : 0 ≤ z := by rw [← hz]; split <;> omega
  have q3 : ∀ s, slot 3 (E7 sc n ds s (some (.int v, false)) (some (.int z, false)) c) = .ok (.int s) := fun _ => rfl
  have q5 : ∀ s, slot 5 (E7 sc n ds s (some (.int v, false)) (some (.int z, false)) c) = .ok (.int z) := fun _ => rfl
  rw [q3, q5, mul_ok _ _ (.inr (by decide)), bopE_add, bopE_add, int_ok, mod_ok _ _ (by decide), set3, then_nx]
  generalize (seed * 48271 + z + 11) % 2147483647 = s1
  have qp : bopE .Pow (R.ok (.int 10)) (R.ok (.int 18)) = .ok (.int 1000000000000000000) := by
    show need (0 ≤ (18 : Int) ∧ (18 : Int) ≤ 1000000 ∧ (10 : Int).natAbs < 2 ^ 64) (R.ok (PV.int ((10 : Int) ^ (18 : Int).toNat))) = _
    rw [need, if_pos ⟨by omega, by omega, by decide⟩]; rfl
  rw [q5, qp, cmpT_ge, ifS_b]
  by_cases hb : (1000000000000000000 : Int) ≤ z
  · rw [if_pos (decide_eq_true hb)]
    obtain ⟨ds', z', c', h1, h2, e⟩ := draw_in sc n ds hd hl s1 z z0 (some (.int v, false)) c
    rw [e]
    exact ⟨ds', s1, _, c', h1, h2, rfl⟩
  · rw [if_neg (by simpa using hb), q3, mul_ok _ _ (.inr (by decide)), bopE_add, int_ok, div_ok _ _ (by decide) (by decide), mod_ok _ _ (by decide), app7 _ _ _ _ _ _ _ _ (by unfold line; omega)]
    exact ⟨_, s1, _, c, hd.snoc (by omega) (by omega), by simp, rfl⟩
theorem sIx_pos (n d : Nat) {v : Int} (h : 0 ≤ v) : sIx n d (some v) = min v.toNat n := if_neg (by omega)
theorem sIx_none (n d : Nat) : sIx n d none = d := rfl
theorem cut_upto {α : Type} (xs : List α) {v : Int} (h : 0 ≤ v) : cut xs none (some v) = xs.take v.toNat := by
  unfold cut
  rw [sIx_none, sIx_pos _ _ h, List.drop_zero, Nat.sub_zero, List.take_eq_take_iff]
  omega
theorem cut63 (ns : List Int) : slice (.scr ns) none (some 63) = .ok (.lst ((ns.take 63).map PV.int)) := by
  show R.ok (PV.lst (cut (ns.map PV.int) none (some 63))) = _
  rw [cut_upto _ (by omega), List.map_take]; rfl
theorem cutN (ds : List Int) (n : Nat) (h : n ≤ ds.length) : slice (.lst (ds.map PV.int)) none (some (n : Int)) = .ok (.lst ((ds.take n).map PV.int)) := by
  show R.ok (PV.lst (cut (ds.map PV.int) none (some (n : Int)))) = _
  rw [cut_upto _ (by omega), List.map_take, Int.toNat_natCast]
/-- _law_draws: so many numbers, each from 0 to 65520 -/
theorem draws_ok (ns : List Int) (n : Nat) (hn : n ≤ 1000) : ∃ ds : List Int, ds.length = n ∧ small16 ds ∧ finS false (drawsB [some (.scr ns, false), some (.int n, false), none, none, none, none, none]) = .ok (.lst (ds.map PV.int)) := by
  -- the loop over the script
  have hx : slE (R.ok (.scr ns)) optN (optS (R.ok (.int 63))) = .ok (.lst ((ns.take 63).map PV.int)) := cut63 ns
  obtain ⟨ρ', e, ⟨ds, seed, a, b, c, rfl, h1, h2⟩⟩ := forLoop_inv (fun i ρ => ∃ ds seed a b c, ρ = E7 (.scr ns) n ds seed a b c ∧ small16 ds ∧ ds.length ≤ 60 * i) (fun x ρ => liftR ρ (bind1 4 x ρ) outB) ((ns.take 63).map PV.int) 0 (E7 (.scr ns) n [] 7 none none none)
    ⟨[], 7, none, none, none, rfl, (fun d hd => by cases hd), Nat.le_refl _⟩ (fun i x ρ _ hxi hv => by
    obtain ⟨d1, s1, a, b, c, rfl, g1, g2⟩ := hv
    have hi : i < 63 := by
      have := (List.getElem?_eq_some_iff.mp hxi).1
      simp at this; omega
    rw [List.getElem?_map] at hxi
    cases hv : (ns.take 63)[i - 0]? with
    | none => rw [hv] at hxi; cases hxi
    | some v =>
      rw [hv] at hxi
      cases hxi
      obtain ⟨d2, s2, b2, c2, k1, k2, k3⟩ := out_step (.scr ns) n d1 g1 (by omega) s1 v b c
      exact ⟨_, k3, _, _, _, _, _, rfl, k1, by omega⟩)
  have hlen : ds.length ≤ 10000 := by
    have : ((ns.take 63).map PV.int).length ≤ 63 := by simp; omega
    omega
  obtain ⟨ds2, seed2, c2, j1, j2, j3⟩ := draw_last (.scr ns) n hn ds h1 hlen seed a b c
  refine ⟨ds2.take n, by rw [List.length_take]; omega, fun d hd => j1 d (List.mem_of_mem_take hd), ?_⟩
  have step1 : forG (E7 (.scr ns) n [] 7 none none none) (slE (slot 0 (E7 (.scr ns) n [] 7 none none none)) optN (optS (R.ok (.int 63)))) true true [0] (fun x ρ => bind1 4 x ρ) outB = .nx (E7 (.scr ns) n ds seed a b c) := by
    show forG _ (slE (R.ok (.scr ns)) optN (optS (R.ok (.int 63)))) true true [0] (fun x ρ => bind1 4 x ρ) outB = _
    rw [hx]
    unfold forG
    rw [liftR_ok]
    show liftR _ (R.ok ((ns.take 63).map PV.int)) _ = _
    rw [liftR_ok, if_pos (by simp), if_pos (arePure_ints _)]
    exact e
  show finS false (SR.then (forG (E7 (.scr ns) n [] 7 none none none) (slE (slot 0 (E7 (.scr ns) n [] 7 none none none)) optN (optS (R.ok (.int 63)))) true true [0] (fun x ρ => bind1 4 x ρ) outB) fun ρ =>
    SR.then (forR ρ (rngI [(slot 1 ρ)]) (fun x ρ => bind1 6 x ρ) lastB) fun ρ => SR.then (retS ρ (slE (slot 2 ρ) optN (optS (slot 1 ρ))) (true)) fun ρ => SR.nx ρ) = _
  rw [step1, then_nx]
  show finS false (SR.then (forR (E7 (.scr ns) n ds seed a b c) (rngI [R.ok (.int n)]) (fun x ρ => bind1 6 x ρ) lastB) _) = _
  rw [j3, then_nx]
  show finS false (SR.then (retS _ (slice (.lst (ds2.map PV.int)) none (some (n : Int))) true) _) = _
  rw [cutN ds2 n j2]
  simp
end PyV
set_option Elab.async false
set_option linter.all false
set_option maxRecDepth 100000
set_option maxHeartbeats 400000
/-! Plain lemmas that the laws share. -/
namespace PyV
open PySem
theorem line_big : (100000 : Nat) ≤ line := by decide +kernel
theorem at_nat {α : Type} {xs : List α} {i : Int} {x : α} (h0 : 0 ≤ i) (h : xs[i.toNat]? = some x) : at? xs i = some x := by
  have hl : i.toNat < xs.length := (List.getElem?_eq_some_iff.mp h).1
  unfold at? place
  rw [if_pos h0, if_pos (by omega)]
  exact h
theorem filterMap_if {α β : Type} (p : α → Bool) (f : α → β) : ∀ l : List α, l.filterMap (fun x => if p x = true then some (f x) else none) = (l.filter p).map f
  | [] => rfl
  | x :: l => by
    cases h : p x with
    | true =>
      rw [List.filterMap_cons_some (b := f x) (by simp [h]), List.filter_cons_of_pos h, List.map_cons, filterMap_if p f l]
    | false =>
      rw [List.filterMap_cons_none (by simp [h]), List.filter_cons_of_neg (by simp [h]), filterMap_if p f l]
theorem cmpE_eqI (a b : Int) : cmpE .Eq (.ok (.int a)) (.ok (.int b)) = .ok (.bl (decide (a = b))) := by
  have h : okEq (.int a) (.int b) = true := by simp [okEq, isData, deep]
  show R.bind (need (okEq (.int a) (.int b) = true) (.ok (eqPV (.int a) (.int b)))) (fun c => R.ok (PV.bl c)) = _
  rw [need_if h]
  rfl
theorem ix0 (x : PV) (xs : List PV) : ixE (.ok (.tup (x :: xs))) (.ok (.int 0)) = .ok x := by
  show ofOpt (at? (x :: xs) 0) = _
  unfold at? place
  rw [if_pos (by omega), if_pos (by simp)]
  rfl
theorem allStrs_ok : ∀ {xs : List PV} {ls : List (List Nat)}, allStrs xs = some ls → xs = ls.map PV.str
  | [], ls, h => by cases h; rfl
  | x :: xs, ls, h => by
    cases x <;> first | (cases h; done) | skip
    rename_i l
    have h : (allStrs xs).map (l :: ·) = some ls := h
    cases e : allStrs xs with
    | none => rw [e] at h; cases h
    | some r => rw [e] at h; cases h; rw [allStrs_ok e]; rfl
theorem allStrs_rows : ∀ ls : List (List Nat), allStrs (ls.map PV.str) = some ls
  | [] => rfl
  | l :: ls => by
    show (allStrs (ls.map PV.str)).map (l :: ·) = _
    rw [allStrs_rows ls]; rfl
theorem cmpT_neI (a b : Int) : cmpT .NotEq (.ok (.int a)) (.ok (.int b)) = .ok (!decide (a = b)) := by
  have h : okEq (.int a) (.int b) = true := by simp [okEq, isData, deep]
  show need (okEq (.int a) (.int b) = true) (.ok (!eqPV (.int a) (.int b))) = _
  rw [need_if h]
  rfl
mutual
theorem eqPV_refl : ∀ v : PV, isData v = true → eqPV v v = true
  | .non, _ => rfl
  | .bl _, _ => by simp [eqPV]
  | .int _, _ => by simp [eqPV]
  | .str _, _ => by simp [eqPV]
  | .tup xs, h => by
    have h : areData xs = true := h
    show eqPVs xs xs = true
    exact eqPVs_refl xs h
  | .lst xs, h => by
    have h : areData xs = true := h
    show eqPVs xs xs = true
    exact eqPVs_refl xs h
  | .dic _, h => by cases h
  | .scr _, h => by cases h
  | .ob _ _, h => by cases h
theorem eqPVs_refl : ∀ xs : List PV, areData xs = true → eqPVs xs xs = true
  | [], _ => rfl
  | x :: xs, h => by
    have h : (isData x && areData xs) = true := h
    have h := Bool.and_eq_true _ _ |>.mp h
    show (eqPV x x && eqPVs xs xs) = true
    rw [eqPV_refl x h.1, eqPVs_refl xs h.2]; rfl
end
theorem ne_self (v : PV) (h : isData v = true) (hd : deep v ≤ 64) : cmpT .NotEq (.ok v) (.ok v) = .ok false := by
  have h2 : okEq v v = true := by simp [okEq, h, hd]
  show need (okEq v v = true) (R.ok (!eqPV v v)) = _
  rw [need_if h2, eqPV_refl v h]; rfl
theorem eq_self (v : PV) (h : isData v = true) (hd : deep v ≤ 64) : cmpE .Eq (.ok v) (.ok v) = .ok (.bl true) := by
  have h2 : okEq v v = true := by simp [okEq, h, hd]
  show R.bind (need (okEq v v = true) (R.ok (eqPV v v))) (fun c => R.ok (PV.bl c)) = _
  rw [need_if h2, eqPV_refl v h]; rfl
theorem rangeL_succ (lo : Int) (n : Nat) : rangeL lo (n + 1) = .int lo :: rangeL (lo + 1) n := by
  unfold rangeL
  rw [List.range_succ_eq_map, List.map_cons, List.map_map]
  refine congr (congrArg List.cons (by simp)) (List.map_congr_left fun k _ => ?_)
  show PV.int (lo + ((k + 1 : Nat) : Int)) = PV.int (lo + 1 + (k : Int))
  congr 1
  omega
theorem cmpT_eqI (a b : Int) : cmpT .Eq (.ok (.int a)) (.ok (.int b)) = .ok (decide (a = b)) := by
  have h : okEq (.int a) (.int b) = true := by simp [okEq, isData, deep]
  show need (okEq (.int a) (.int b) = true) (.ok (eqPV (.int a) (.int b))) = _
  rw [need_if h]
  rfl
def dr (ds : List Int) (i : Int) : Int := (ds[i.toNat]?).getD 0
theorem dr_ok {ds : List Int} {i : Int} (h0 : 0 ≤ i) (h1 : i < ds.length) : ixE (.ok (.lst (ds.map PV.int))) (.ok (.int i)) = .ok (.int (dr ds i)) := by
  have hl : i.toNat < ds.length := by omega
  show ofOpt (at? (ds.map PV.int) i) = _
  rw [at_nat h0 (x := PV.int (dr ds i)) (by rw [List.getElem?_map]; unfold dr; rw [List.getElem?_eq_getElem hl]; rfl)]; rfl
theorem dr_le {ds : List Int} (hd : small16 ds) (i : Int) : 0 ≤ dr ds i ∧ dr ds i ≤ 65520 := by
  unfold dr
  cases h : ds[i.toNat]? with
  | none => exact ⟨by decide, by decide⟩
  | some d => exact hd d (List.mem_of_getElem? h)
theorem joinS_one : ∀ l : List Nat, joinS [] (l.map fun c => [c]) = l
  | [] => rfl
  | [c] => rfl
  | c :: d :: l => by
    have ih := joinS_one (d :: l)
    show [c] ++ [] ++ joinS [] ((d :: l).map fun c => [c]) = _
    rw [ih]; rfl
theorem join_ok (l : List Nat) (h : l.length ≤ 100000) : mthE "join" (R.ok (.str [])) [R.ok (.lst (l.map fun c => PV.str [c]))] = .ok (.str l) := by
  have e : allStrs (l.map fun c => PV.str [c]) = some (l.map fun c => [c]) := by
    have z := allStrs_rows (l.map fun c => [c])
    rw [List.map_map] at z
    exact z
  show (match allStrs (l.map fun c => PV.str [c]) with
    | some ys => need ((ys.map (fun (z : List Nat) => z.length)).sum + ys.length * ([] : List Nat).length ≤ line) (R.ok (PV.str (joinS [] ys)))
    | none => .stuck) = _
  rw [e]
  show need (((l.map fun c => [c]).map (fun (z : List Nat) => z.length)).sum + (l.map fun c => [c]).length * ([] : List Nat).length ≤ line) (R.ok (PV.str (joinS [] (l.map fun c => [c])))) = _
  have hs : ((l.map fun c => [c]).map (fun (z : List Nat) => z.length)).sum = l.length := by
    rw [List.map_map]
    clear h e
    induction l with
    | nil => rfl
    | cons c l ih => rw [List.map_cons, List.sum_cons, ih, List.length_cons]; show 1 + l.length = _; omega
  rw [need_if (by rw [hs]; have := line_big; simp; omega), joinS_one]
theorem rangeL_len (lo : Int) (n : Nat) : (rangeL lo n).length = n := by simp [rangeL]
theorem bind1_b {β : Type} (i : Nat) (x : PV) (ρ : PyV.Env) (f : PyV.Env → R β) : R.bind (bind1 i x ρ) f = f (ρ.set i (some (x, false))) := rfl
def calmAt (I : List Nat) (ρ : PyV.Env) : Bool := I.all fun i => match ρ[i]? with
  | some (some (_, true)) => false
  | _ => true
theorem freeze_id : ∀ (I : List Nat) (ρ : PyV.Env), calmAt I ρ = true → PyV.freeze I ρ = ρ
  | [], _, _ => rfl
  | i :: I, ρ, h => by
    have h : ((match ρ[i]? with | some (some (_, true)) => false | _ => true) && calmAt I ρ) = true := h
    obtain ⟨ha, hb⟩ := Bool.and_eq_true _ _ |>.mp h
    show PyV.freeze I (match ρ[i]? with | some (some v) => ρ.set i (some (v.1, false)) | _ => ρ) = ρ
    have e : (match ρ[i]? with | some (some v) => ρ.set i (some (v.1, false)) | _ => ρ) = ρ := by
      split
      · rename_i v hv
        obtain ⟨v, b⟩ := v
        cases b with
        | true => rw [hv] at ha; cases ha
        | false =>
          obtain ⟨hlt, he⟩ := List.getElem?_eq_some_iff.mp hv
          show ρ.set i (some (v, false)) = ρ
          rw [← he]
          exact List.set_getElem_self hlt
      · rfl
    rw [e]
    exact freeze_id I ρ hb
theorem setS_calm (ρ : PyV.Env) (i : Nat) (v : PV) (fl : Bool) (I : List Nat) (h : calmAt I ρ = true) (hf : (fl && ownB v) = false) : setS ρ i (R.ok v) fl I = .nx (ρ.set i (some (v, false))) := by
  unfold setS PyV.settle
  rw [liftR_ok, hf, freeze_id I ρ h]
  split <;> rfl
theorem cut_len {α : Type} (xs : List α) (a b : Option Int) : (cut xs a b).length ≤ xs.length := by
  unfold cut
  rw [List.length_take, List.length_drop]
  omega
theorem add_str (x y : List Nat) (h : x.length + y.length ≤ 100000) : bopE .Add (R.ok (.str x)) (R.ok (.str y)) = .ok (.str (x ++ y)) := by
  show need (x.length + y.length ≤ line) (R.ok (PV.str (x ++ y))) = _
  rw [need_if (by have := line_big; omega)]
theorem add_tup (x y : List PV) (h : x.length + y.length ≤ 100000) : bopE .Add (R.ok (.tup x)) (R.ok (.tup y)) = .ok (.tup (x ++ y)) := by
  show need (x.length + y.length ≤ line) (R.ok (PV.tup (x ++ y))) = _
  rw [need_if (by have := line_big; omega)]
theorem ix_mem (vs : List PV) (q : Int) (h0 : 0 ≤ q) (h1 : q < vs.length) : ∃ v ∈ vs, ixE (R.ok (.lst vs)) (R.ok (.int q)) = .ok v := by
  have hlt : q.toNat < vs.length := by omega
  refine ⟨vs[q.toNat], List.getElem_mem hlt, ?_⟩
  show ofOpt (at? vs q) = _
  rw [at_nat h0 (x := vs[q.toNat]) (List.getElem?_eq_getElem hlt)]; rfl
theorem eq_sign (a b : Nat) : cmpE .Eq (R.ok (.str [a])) (R.ok (.str [b])) = .ok (.bl (decide (a = b))) := by
  have h2 : okEq (.str [a]) (.str [b]) = true := by simp [okEq, isData, deep]
  show R.bind (need (okEq (.str [a]) (.str [b]) = true) (R.ok (eqPV (.str [a]) (.str [b])))) (fun c => R.ok (PV.bl c)) = _
  rw [need_if h2]
  show R.ok (PV.bl ([a] == [b])) = _
  by_cases h : a = b
  · subst h; simp
  · simp [h]
theorem eqT_sign (a b : Nat) : cmpT .Eq (R.ok (.str [a])) (R.ok (.str [b])) = .ok (decide (a = b)) := by
  have h2 : okEq (.str [a]) (.str [b]) = true := by simp [okEq, isData, deep]
  show need (okEq (.str [a]) (.str [b]) = true) (R.ok (eqPV (.str [a]) (.str [b]))) = _
  rw [need_if h2]
  show R.ok ([a] == [b]) = _
  by_cases h : a = b
  · subst h; simp
  · simp [h]
theorem neT_sign (a b : Nat) : cmpT .NotEq (R.ok (.str [a])) (R.ok (.str [b])) = .ok (!decide (a = b)) := by
  have h2 : okEq (.str [a]) (.str [b]) = true := by simp [okEq, isData, deep]
  show need (okEq (.str [a]) (.str [b]) = true) (R.ok (!eqPV (.str [a]) (.str [b]))) = _
  rw [need_if h2]
  show R.ok (!([a] == [b])) = _
  by_cases h : a = b
  · subst h; simp
  · simp [h]
theorem cmpE_le (a b : Int) : cmpE .LtE (R.ok (.int a)) (R.ok (.int b)) = .ok (.bl (decide (a ≤ b))) := rfl
theorem compLoop_L {α : Type} (step : PV → R (Option PV)) (f : α → PV) (h : α → PV) : ∀ l : List α, (∀ a ∈ l, step (f a) = .ok (some (h a))) → compLoop step (l.map f) = .ok (l.map h)
  | [], _ => rfl
  | a :: l, hh => by
    have t := compLoop_L step f h l fun b hb => hh b (List.mem_cons_of_mem _ hb)
    show R.bind (step (f a)) (fun o => match o with | none => compLoop step (l.map f) | some y => R.bind (compLoop step (l.map f)) fun ys => .ok (y :: ys)) = _
    rw [hh a List.mem_cons_self, bind_okE, t]
    rfl
theorem compE_L {α : Type} {rng : Bool} {it : R (List PV)} {bd : PV → R PyV.Env} {elt : PyV.Env → R PV} {l : List α} (f h : α → PV) (h1 : it = .ok (l.map f)) (h2 : l.length ≤ line ∨ rng = false)
    (hh : ∀ a ∈ l, (R.bind (bd (f a)) elt) = .ok (h a)) : compE rng it bd (fun _ => noIf) elt = .ok (.lst (l.map h)) := by
  unfold compE
  rw [h1, bind_okE, need, if_pos (fun e => by rw [List.length_map]; rcases h2 with h2 | h2; exact h2; rw [h2] at e; cases e), compLoop_L _ f h l fun a ha => ?_]
  · rfl
  · have z := hh a ha
    cases e : bd (f a) with
    | ok ρ' => rw [e, bind_okE] at z; simp [noIf, z]
    | exc c fs => rw [e] at z; cases z
    | stuck => rw [e] at z; cases z
theorem liftR_bind1 (i : Nat) (x : PV) (ρ : PyV.Env) (f : PyV.Env → SR) : liftR ρ (bind1 i x ρ) f = f (ρ.set i (some (x, false))) := rfl
theorem heldPure_strs (rs : List (List Nat)) : heldPure (.lst (rs.map PV.str)) = true := by
  show arePure (rs.map PV.str) = true
  induction rs with
  | nil => rfl
  | cons r rs ih => show (isPure (.str r) && arePure (rs.map PV.str)) = true; rw [ih]; rfl
theorem gt_nat (a b : Nat) : cmpT .Gt (R.ok (.int (a : Nat))) (R.ok (.int (b : Nat))) = .ok (decide (b < a)) := by
  rw [cmpT_gt]
  refine congrArg R.ok ?_
  by_cases h : b < a
  · rw [decide_eq_true h, decide_eq_true (by omega)]
  · rw [decide_eq_false h, decide_eq_false (by omega)]
theorem eq_nat (a b : Nat) : cmpT .Eq (R.ok (.int (a : Nat))) (R.ok (.int (b : Nat))) = .ok (decide (a = b)) := by
  rw [cmpT_eqI]
  refine congrArg R.ok ?_
  by_cases h : a = b
  · rw [decide_eq_true h, decide_eq_true (by omega)]
  · rw [decide_eq_false h, decide_eq_false (by omega)]
theorem div_nat (a b : Nat) (h : 0 < b) (h2 : b < 1000000) : bopE .FloorDiv (R.ok (.int (a : Nat))) (R.ok (.int (b : Nat))) = .ok (.int ((a / b : Nat) : Int)) := by
  rw [div_ok _ _ (by omega) (by omega)]; simp
theorem mod_nat (a b : Nat) (h : 0 < b) : bopE .Mod (R.ok (.int (a : Nat))) (R.ok (.int (b : Nat))) = .ok (.int ((a % b : Nat) : Int)) := by
  rw [mod_ok _ _ (by omega)]; simp
theorem add_nat (a b : Nat) : bopE .Add (R.ok (.int (a : Nat))) (R.ok (.int (b : Nat))) = .ok (.int ((a + b : Nat) : Int)) := by
  rw [bopE_add]; simp
theorem ne_bl (b : Bool) : cmpT .NotEq (R.ok (.bl b)) (R.ok (.bl b)) = .ok false := ne_self _ rfl (by show 0 ≤ 64; decide)
theorem ite_same {α : Type} (b : Bool) (x : α) : (if b = true then x else x) = x := by cases b <;> rfl
theorem map_cut {α : Type} (f : α → PV) (cs : List α) (j : Nat) : cut (cs.map f) none (some (j : Int)) = (cs.take j).map f := by
  rw [cut_upto _ (by omega), Int.toNat_natCast, List.map_take]
theorem cut_ok {α : Type} (f : α → PV) (cs : List α) (j : Nat) : slE (R.ok (.tup (cs.map f))) optN (optS (R.ok (.int (j : Nat)))) = .ok (.tup ((cs.take j).map f)) := by
  show R.ok (PV.tup (cut (cs.map f) none (some (j : Int)))) = _
  rw [map_cut]
theorem rev_ok {α : Type} (f : α → PV) (cs : List α) : revE (R.ok (.tup (cs.map f))) = .ok (.tup (cs.reverse.map f)) := by
  show R.ok (PV.tup (cs.map f).reverse) = _
  rw [List.map_reverse]
theorem add_lst (x y : List PV) (h : x.length + y.length ≤ 100000) : bopE .Add (R.ok (.lst x)) (R.ok (.lst y)) = .ok (.lst (x ++ y)) := by
  show need (x.length + y.length ≤ line) (R.ok (PV.lst (x ++ y))) = _
  rw [need_if (by have := line_big; omega)]
theorem setS_held (ρ : Env) (i : Nat) (xs : List PV) (I : List Nat) (h : arePure xs = true) : setS ρ i (R.ok (.lst xs)) true I = .nx (ρ.set i (some (.lst xs, true))) := by
  unfold setS settle
  rw [liftR_ok, if_pos (by show (isPure (.lst xs) || (true && arePure xs)) = true; rw [h]; simp)]
  rfl
theorem setS_list (ρ : Env) (i : Nat) (xs : List PV) (I : List Nat) (h : calmAt I ρ = true) : setS ρ i (R.ok (.lst xs)) true I = .nx (ρ.set i (some (.lst xs, true))) := by
  unfold setS settle
  rw [liftR_ok, freeze_id I ρ h]
  split <;> rfl
/-- append to an own list of plain items -/
theorem app_held (ρ : Env) (i : Nat) (xs : List PV) (v : PV) (I : List Nat) (ho : ρ[i]? = some (some (.lst xs, true))) (hl : xs.length < 100000) (hp : arePure (xs ++ [v]) = true) : mutS' ρ i "append" [R.ok v] I = .nx (ρ.set i (some (.lst (xs ++ [v]), true))) := by
  have e : ownAt ρ i = some (.lst xs) := by unfold ownAt; rw [ho]
  have em : mutate "append" (.lst xs) [v] = .ok (.lst (xs ++ [v])) := by
    show need (xs.length < line) (R.ok (PV.lst (xs ++ [v]))) = _
    rw [need_if (by have := line_big; omega)]
  unfold mutS'
  rw [e]
  show liftR ρ (mutate "append" (.lst xs) [v]) _ = _
  rw [em, liftR_ok, if_pos (by exact hp)]
/-- append to any own list: the item's slots are let go -/
theorem app_any (ρ : Env) (i : Nat) (xs : List PV) (v : PV) (I : List Nat) (ho : ρ[i]? = some (some (.lst xs, true))) (hl : xs.length < 100000) (hi : I.contains i = false) (hc : calmAt I ρ = true) : mutS' ρ i "append" [R.ok v] I = .nx (ρ.set i (some (.lst (xs ++ [v]), true))) := by
  have e : ownAt ρ i = some (.lst xs) := by unfold ownAt; rw [ho]
  have em : mutate "append" (.lst xs) [v] = .ok (.lst (xs ++ [v])) := by
    show need (xs.length < line) (R.ok (PV.lst (xs ++ [v]))) = _
    rw [need_if (by have := line_big; omega)]
  unfold mutS'
  rw [e]
  show liftR ρ (mutate "append" (.lst xs) [v]) _ = _
  rw [em, liftR_ok]
  split
  · rfl
  · rw [if_pos (by rw [hi]; rfl), freeze_id I ρ hc]
theorem arePure_of {xs : List PV} (h : ∀ x ∈ xs, isPure x = true) : arePure xs = true := by
  induction xs with
  | nil => rfl
  | cons x xs ih => show (isPure x && arePure xs) = true; rw [h x List.mem_cons_self, ih fun y hy => h y (List.mem_cons_of_mem _ hy)]; rfl
theorem rangeL_map (n : Nat) : rangeL 0 n = (List.range n).map fun (j : Nat) => PV.int (j : Nat) := by
  unfold rangeL
  refine List.map_congr_left fun k _ => ?_
  rw [Int.zero_add]
/-- for i in range(n): with what holds before step i -/
theorem forR_inv (Iv : Nat → Env → Prop) (s : Nat) (body : Env → SR) (n : Nat) (ρ : Env) (it : R (List PV)) (hit : it = .ok (rangeL 0 n)) (h0 : Iv 0 ρ) (h : ∀ i ρ, i < n → Iv i ρ → ∃ ρ', body (ρ.set s (some (.int (i : Nat), false))) = .nx ρ' ∧ Iv (i + 1) ρ') : ∃ ρ', forR ρ it (fun x ρ => bind1 s x ρ) body = .nx ρ' ∧ Iv n ρ' := by
  obtain ⟨ρ', e, hv⟩ := forLoop_inv Iv (fun x ρ => liftR ρ (bind1 s x ρ) body) (rangeL 0 n) 0 ρ h0 (fun i x ρ _ hx hv => by
    have hi : i < n := by have := (List.getElem?_eq_some_iff.mp hx).1; rw [rangeL_len] at this; omega
    have ex : x = .int (i : Nat) := by
      rw [rangeL_map, List.getElem?_map, List.getElem?_range (by simpa using hi)] at hx
      simp at hx; exact hx.symm
    subst ex
    exact h i ρ hi hv)
  rw [rangeL_len, Nat.zero_add] at hv
  exact ⟨ρ', by unfold forR; rw [hit, liftR_ok]; exact e, hv⟩
theorem ix_any_at {α : Type} (vs : List α) (q : Int) (h0 : -(vs.length : Int) ≤ q) (h1 : q < vs.length) : ∃ v ∈ vs, at? vs q = some v := by
  by_cases hq : 0 ≤ q
  · have hlt : q.toNat < vs.length := by omega
    exact ⟨vs[q.toNat], List.getElem_mem hlt, at_nat hq (List.getElem?_eq_getElem hlt)⟩
  · have hlt : (q + (vs.length : Int)).toNat < vs.length := by omega
    refine ⟨vs[(q + (vs.length : Int)).toNat], List.getElem_mem hlt, ?_⟩
    unfold at? place
    rw [if_neg hq, if_pos h0]
    exact List.getElem?_eq_getElem hlt
theorem ixL_any (vs : List PV) (q : Int) (h0 : -(vs.length : Int) ≤ q) (h1 : q < vs.length) : ∃ v ∈ vs, ixE (R.ok (.lst vs)) (R.ok (.int q)) = .ok v := by
  obtain ⟨v, hv, e⟩ := ix_any_at vs q h0 h1
  exact ⟨v, hv, by show ofOpt (at? vs q) = _; rw [e]; rfl⟩
theorem ixT_any (vs : List PV) (q : Int) (h0 : -(vs.length : Int) ≤ q) (h1 : q < vs.length) : ∃ v ∈ vs, ixE (R.ok (.tup vs)) (R.ok (.int q)) = .ok v := by
  obtain ⟨v, hv, e⟩ := ix_any_at vs q h0 h1
  exact ⟨v, hv, by show ofOpt (at? vs q) = _; rw [e]; rfl⟩
theorem sl_lst (xs : List PV) (a b : Option Int) (ea eb : R (Option Int)) (h1 : ea = .ok a) (h2 : eb = .ok b) : slE (R.ok (.lst xs)) ea eb = .ok (.lst (cut xs a b)) := by rw [h1, h2]; rfl
theorem sl_tup (xs : List PV) (a b : Option Int) (ea eb : R (Option Int)) (h1 : ea = .ok a) (h2 : eb = .ok b) : slE (R.ok (.tup xs)) ea eb = .ok (.tup (cut xs a b)) := by rw [h1, h2]; rfl
theorem optS_i (i : Int) : optS (R.ok (.int i)) = .ok (some i) := rfl
theorem cut_from {α β : Type} (f : α → β) (xs : List α) (n : Nat) : ∃ ys : List α, (∀ y ∈ ys, y ∈ xs) ∧ ys.length ≤ xs.length ∧ cut (xs.map f) (some (n : Int)) none = ys.map f := by
  refine ⟨(xs.drop (min n xs.length)).take (xs.length - min n xs.length), fun y hy => List.mem_of_mem_drop (List.mem_of_mem_take hy), by rw [List.length_take, List.length_drop]; omega, ?_⟩
  unfold cut
  rw [sIx_pos _ _ (by omega), sIx_none, List.length_map, Int.toNat_natCast, List.map_take, List.map_drop]
theorem reps_mem {α : Type} {k : Int} {xs : List α} {x : α} (h : x ∈ reps k xs) : x ∈ xs := by
  unfold reps at h
  obtain ⟨l, hl, hx⟩ := List.mem_flatten.mp h
  rw [(List.mem_replicate.mp hl).2] at hx
  exact hx
theorem setS_pure (ρ : Env) (i : Nat) (v : PV) (fl : Bool) (I : List Nat) (h : isPure v = true) : setS ρ i (R.ok v) fl I = .nx (ρ.set i (some (v, fl && ownB v))) := by
  unfold setS settle
  rw [liftR_ok, if_pos (by rw [h]; rfl)]
theorem setS_lst (ρ : Env) (i : Nat) (xs : List PV) (I : List Nat) : setS ρ i (R.ok (.lst xs)) false I = .nx ((freeze I ρ).set i (some (.lst xs, false))) := rfl
theorem mul_tup (x : PV) (k : Int) (h : 2 ≤ k ∧ k ≤ 1000) : bopE .Mult (R.ok (.tup [x])) (R.ok (.int k)) = .ok (.tup (reps k [x])) := by
  show need (0 < ([x] : List PV).length ∧ ([x] : List PV).length ≤ 1000 ∧ 2 ≤ k ∧ k ≤ 1000) (R.ok (PV.tup (reps k [x]))) = _
  rw [need_if ⟨by simp, by simp, h.1, h.2⟩]
/-- a loop's or a statement's outcome known, the rest follows -/
theorem then_of {s : SR} {ρ : Env} (h : s = .nx ρ) (f : Env → SR) : SR.then s f = f ρ := by rw [h, then_nx]
/-! ### tests at known outcomes -/
theorem nT_t : notT (R.ok true) = .ok false := rfl
theorem nT_f : notT (R.ok false) = .ok true := rfl
theorem oT_t (b : R Bool) : orT (R.ok true) b = .ok true := rfl
theorem oT_f (b : R Bool) : orT (R.ok false) b = b := rfl
theorem aT_t (b : R Bool) : andT (R.ok true) b = b := rfl
theorem aT_f (b : R Bool) : andT (R.ok false) b = .ok false := rfl
theorem iS_t (ρ : Env) (a b : SR) : ifS ρ (R.ok true) a b = a := rfl
theorem iS_f (ρ : Env) (a b : SR) : ifS ρ (R.ok false) a b = b := rfl
theorem iE_t (a b : R PV) : ifE (R.ok true) a b = a := rfl
theorem iE_f (a b : R PV) : ifE (R.ok false) a b = b := rfl
theorem neT_same (a : Int) : cmpT .NotEq (R.ok (.int a)) (R.ok (.int a)) = .ok false := by rw [cmpT_neI, decide_eq_true rfl]; rfl
theorem neT_other {a b : Int} (h : a ≠ b) : cmpT .NotEq (R.ok (.int a)) (R.ok (.int b)) = .ok true := by rw [cmpT_neI, decide_eq_false h]; rfl
theorem le2_t {a b c : Int} (h : a ≤ b ∧ b ≤ c) : cmp2T .LtE .LtE (R.ok (.int a)) (R.ok (.int b)) (R.ok (.int c)) = .ok true := by rw [cmp2T_le, decide_eq_true h.1, decide_eq_true h.2]; rfl
theorem le2_f {a b c : Int} (h : ¬ (a ≤ b ∧ b ≤ c)) : cmp2T .LtE .LtE (R.ok (.int a)) (R.ok (.int b)) (R.ok (.int c)) = .ok false := by
  rw [cmp2T_le]
  refine congrArg R.ok ?_
  rw [Bool.and_eq_false_iff]; simp only [decide_eq_false_iff_not]; omega
theorem gt_t {a b : Int} (h : b < a) : cmpT .Gt (R.ok (.int a)) (R.ok (.int b)) = .ok true := by rw [cmpT_gt, decide_eq_true h]
theorem gt_f {a b : Int} (h : ¬ b < a) : cmpT .Gt (R.ok (.int a)) (R.ok (.int b)) = .ok false := by rw [cmpT_gt, decide_eq_false h]
theorem isT_tup (xs : List PV) : truT (isiE "tuple" (R.ok (.tup xs))) = .ok true := rfl
theorem ixT {xs : List PV} {i : Int} {x : PV} (h0 : 0 ≤ i) (h : xs[i.toNat]? = some x) : ixE (R.ok (.tup xs)) (R.ok (.int i)) = .ok x := by
  show ofOpt (at? xs i) = _
  rw [at_nat h0 h]; rfl
theorem ixL {xs : List PV} {i : Int} {x : PV} (h0 : 0 ≤ i) (h : xs[i.toNat]? = some x) : ixE (R.ok (.lst xs)) (R.ok (.int i)) = .ok x := by
  show ofOpt (at? xs i) = _
  rw [at_nat h0 h]; rfl
theorem unp2 (ρ : Env) (i j : Nat) (a b : PV) (I : List Nat) (h : calmAt I ρ = true) : unpS ρ [i, j] (R.ok (.tup [a, b])) I = .nx ((ρ.set i (some (a, false))).set j (some (b, false))) := by
  unfold unpS settle
  rw [liftR_ok, freeze_id I ρ h]
  split <;> rfl
theorem all_true {α : Type} (l : List α) : bltE "all" [R.ok (.lst (l.map fun _ => PV.bl true))] = .ok (.bl true) := by
  have e : (l.map fun _ => PV.bl true) = (l.map fun _ => true).map PV.bl := by rw [List.map_map]; rfl
  rw [e, all_bl]
  refine congrArg (fun b => R.ok (PV.bl b)) ?_
  rw [List.all_map]; simp
theorem cmpE_gt (a b : Int) : cmpE .Gt (R.ok (.int a)) (R.ok (.int b)) = .ok (.bl (decide (b < a))) := rfl
/-- loops that go on to the end -/
theorem forLoop_go (Iv : Env → Prop) (step : PV → Env → SR) : ∀ (xs : List PV) (ρ : Env), Iv ρ → (∀ x ∈ xs, ∀ ρ, Iv ρ → ∃ ρ', step x ρ = .nx ρ' ∧ Iv ρ') → ∃ ρ', forLoop step xs ρ = .nx ρ' ∧ Iv ρ'
  | [], ρ, h, _ => ⟨ρ, rfl, h⟩
  | x :: xs, ρ, h, hs => by
    obtain ⟨ρ1, e1, h1⟩ := hs x List.mem_cons_self ρ h
    obtain ⟨ρ2, e2, h2⟩ := forLoop_go Iv step xs ρ1 h1 fun y hy => hs y (List.mem_cons_of_mem _ hy)
    refine ⟨ρ2, ?_, h2⟩
    show (match step x ρ with | .nx ρ' => forLoop step xs ρ' | .ct ρ' => forLoop step xs ρ' | .bk ρ' => .nx ρ' | o => o) = _
    rw [e1]; exact e2
theorem forLoop_cons (step : PV → Env → SR) (x : PV) (xs : List PV) (ρ ρ' : Env) (h : step x ρ = .nx ρ') : forLoop step (x :: xs) ρ = forLoop step xs ρ' := by
  show (match step x ρ with | .nx ρ' => forLoop step xs ρ' | .ct ρ' => forLoop step xs ρ' | .bk ρ' => .nx ρ' | o => o) = _
  rw [h]
theorem forLoop_ret (step : PV → Env → SR) (x : PV) (xs : List PV) (ρ : Env) (v : PV) (fl : Bool) (h : step x ρ = .ret v fl) : forLoop step (x :: xs) ρ = .ret v fl := by
  show (match step x ρ with | .nx ρ' => forLoop step xs ρ' | .ct ρ' => forLoop step xs ρ' | .bk ρ' => .nx ρ' | o => o) = _
  rw [h]
end PyV
set_option Elab.async false
set_option linter.all false
set_option maxRecDepth 100000
set_option maxHeartbeats 0
namespace Law34
open PySem PySem.Spec PyProof.Rows PyV
abbrev LL := PySem.Challenge.rw_chestwright_k34_whole_claims
abbrev R0 : PySem.W.OpenRow := PySem.W.OpenLaw.row LL
def body : List Stmt := PySem.Challenge.pw_chestwright_k34_whole_claims.main.body
def st1 (c : Nat) : PV := .str [c]
def PP : Prog := ⟨defsOf [] body, [("MOST_CLAIMS", .int 8), ("MOST_CLAIM", .int 100)],
  [],
  [("ChestError", ⟨[], []⟩), ("BadClaims", ⟨["ChestError"], []⟩), ("BadEstate", ⟨["ChestError"], []⟩)],
  ["isinstance", "int", "bool", "tuple", "list", "len", "all", "range", "abs", "max", "sum", "zip", "sorted"], []⟩
abbrev hk : PySem.W.Hook := hookP 5 PP (datOf body)
def ob (s : PySem.W.SharedT) : AlP := obsPG 5 PP (datOf body) (HandSHeadRun.getT s)
theorem ob_eq (s : PySem.W.SharedT) : ob s = hk.obs s.abs := obsPG_eq (HandSHeadRun.getT_eq s)
theorem wf : PP.fns.all (fun q => defB PP 60 q.2) = true := by decide +kernel
theorem args : (datOf body).all (fun d => plainArgs d.params) = true := by decide +kernel
def NN : List Str := (["__name__", "ChestError", "BadClaims", "BadEstate", "is_whole", "MOST_CLAIMS", "MOST_CLAIM", "_quotient", "_check", "_gains", "equal_gains", "_less", "equal_losses", "_half_gains", "half_rule", "two_rule", "_law_draws", "_law_low", "_law_plus", "_law_less", "_law_filled", "_law_word"] : List Str)
theorem run (w : World) : HandSHeadRun.RunEq R0 (PySem.W.view R0.prog [25]) hk ob 20000 NN w := by
  revert w
  refine PySem.W.byRow2 "special-get-raises" (fun w => ?_) (fun w => ?_)
  · intro os
    kernel_rfl
  · intro os
    kernel_rfl
end Law34
set_option Elab.async false
set_option linter.all false
set_option maxRecDepth 100000
set_option maxHeartbeats 0
namespace Law34
open PySem PyV
abbrev MM : Nat := 100
def c_MOST_CLAIMS : PV := .int 8
def c_MOST_CLAIM : PV := .int 100
def b_is_whole (call : Str → List PV → R PV) (ρ : PyV.Env) : SR :=
  (SR.then (retS ρ (andE (isiE "int" (slot 0 ρ)) (andE (notE (isiE "bool" (slot 0 ρ))) (cmp2E .LtE .LtE (slot 1 ρ) (slot 0 ρ) (slot 2 ρ)))) (false)) fun ρ =>
  SR.nx ρ)
theorem r_is_whole (k : Nat) (a0 a1 a2 : PV) : callN PP MM 60 (k + 1) "is_whole" [a0, a1, a2] = finS false (b_is_whole (callN PP MM 60 k) [some (a0, false), some (a1, false), some (a2, false)]) := by kernel_rfl
def b__quotient (call : Str → List PV → R PV) (ρ : PyV.Env) : SR :=
  (SR.then (unpS ρ [2, 3] (tupE [(slot 0 ρ), (slot 1 ρ)]) [0, 1]) fun ρ =>
  SR.then (whileLoop (fun ρ => (cmpT .Gt (slot 3 ρ) (R.ok (.int 0)))) (fun ρ =>
  (SR.then (unpS ρ [2, 3] (tupE [(slot 3 ρ), (bopE .Mod (slot 2 ρ) (slot 3 ρ))]) [3, 2, 3]) fun ρ =>
    SR.nx ρ)) MM ρ) fun ρ =>
  SR.then (retS ρ (tupE [(bopE .FloorDiv (slot 0 ρ) (slot 2 ρ)), (bopE .FloorDiv (slot 1 ρ) (slot 2 ρ))]) (true)) fun ρ =>
  SR.nx ρ)
theorem r__quotient (k : Nat) (a0 a1 : PV) : callN PP MM 60 (k + 1) "_quotient" [a0, a1] = finS false (b__quotient (callN PP MM 60 k) [some (a0, false), some (a1, false), none, none]) := by kernel_rfl
def b__check (call : Str → List PV → R PV) (ρ : PyV.Env) : SR :=
  (SR.then (ifS ρ (orT (notT (truT (isiE "tuple" (slot 1 ρ)))) (notT (cmp2T .LtE .LtE (R.ok (.int 1)) (bltE "len" [(slot 1 ρ)]) (R.ok c_MOST_CLAIMS))))
  (SR.then (SR.exc "BadClaims" [] ρ) fun ρ =>
    SR.nx ρ)
  (SR.nx ρ)) fun ρ =>
  SR.then (ifS ρ (notT (truT (bltE "all" [(compE false (itmI (slot 1 ρ)) (fun x => bind1 3 x (wipes ρ [2, 3])) (fun ρ => noIf) (fun ρ => (ownE call "is_whole" 3 [(slot 3 ρ), (R.ok (.int 0)), (R.ok c_MOST_CLAIM)])))])))
  (SR.then (SR.exc "BadClaims" [] ρ) fun ρ =>
    SR.nx ρ)
  (SR.nx ρ)) fun ρ =>
  SR.then (ifS ρ (notT (truT (ownE call "is_whole" 3 [(slot 0 ρ), (R.ok (.int 0)), (bltE "sum" [(slot 1 ρ)])])))
  (SR.then (SR.exc "BadEstate" [] ρ) fun ρ =>
    SR.nx ρ)
  (SR.nx ρ)) fun ρ =>
  SR.nx ρ)
theorem r__check (k : Nat) (a0 a1 : PV) : callN PP MM 60 (k + 1) "_check" [a0, a1] = finS false (b__check (callN PP MM 60 k) [some (a0, false), some (a1, false), none, none]) := by kernel_rfl
def b__gains (call : Str → List PV → R PV) (ρ : PyV.Env) : SR :=
  (SR.then (unpS ρ [2, 3] (tupE [(slot 0 ρ), (bltE "len" [(slot 1 ρ)])]) [0, 1]) fun ρ =>
  SR.then (setS ρ 4 (R.ok (.non)) true []) fun ρ =>
  SR.then (forG ρ (bltE "sorted" [(slot 1 ρ)]) true true [1] (fun x ρ => bind1 5 x ρ) (fun ρ =>
  (SR.then (ifS ρ (andT (cmpT .Is (slot 4 ρ) (R.ok (.non))) (cmpT .GtE (bopE .Mult (slot 5 ρ) (slot 3 ρ)) (slot 2 ρ)))
    (SR.then (setS ρ 4 (ownE call "_quotient" 2 [(slot 2 ρ), (slot 3 ρ)]) false [2, 3]) fun ρ =>
      SR.nx ρ)
    (SR.nx ρ)) fun ρ =>
    SR.then (augS ρ 2 .Sub (slot 5 ρ)) fun ρ =>
    SR.then (augS ρ 3 .Sub (R.ok (.int 1))) fun ρ =>
    SR.nx ρ))) fun ρ =>
  SR.then (retS ρ (compE false (itmI (slot 1 ρ)) (fun x => bind1 5 x (wipes ρ [6, 5])) (fun ρ => noIf) (fun ρ => (ifE (cmpT .Lt (ixE (slot 4 ρ) (R.ok (.int 0))) (bopE .Mult (slot 5 ρ) (ixE (slot 4 ρ) (R.ok (.int 1))))) (slot 4 ρ) (tupE [(slot 5 ρ), (R.ok (.int 1))])))) (true)) fun ρ =>
  SR.nx ρ)
theorem r__gains (k : Nat) (a0 a1 : PV) : callN PP MM 60 (k + 1) "_gains" [a0, a1] = finS false (b__gains (callN PP MM 60 k) [some (a0, false), some (a1, false), none, none, none, none, none]) := by kernel_rfl
def b_equal_gains (call : Str → List PV → R PV) (ρ : PyV.Env) : SR :=
  (SR.then (callS ρ (ownE call "_check" 2 [(slot 0 ρ), (slot 1 ρ)])) fun ρ =>
  SR.then (retS ρ (bltTE "tuple" [(ownE call "_gains" 2 [(slot 0 ρ), (slot 1 ρ)])]) (true)) fun ρ =>
  SR.nx ρ)
theorem r_equal_gains (k : Nat) (a0 a1 : PV) : callN PP MM 60 (k + 1) "equal_gains" [a0, a1] = finS false (b_equal_gains (callN PP MM 60 k) [some (a0, false), some (a1, false)]) := by kernel_rfl
def b__less (call : Str → List PV → R PV) (ρ : PyV.Env) : SR :=
  (SR.then (retS ρ (compE false (zipI [(slot 0 ρ), (slot 1 ρ)]) (fun x => bindT [.inl 3, .inr [4, 5]] x (wipes ρ [2, 3, 4, 5])) (fun ρ => noIf) (fun ρ => (ownE call "_quotient" 2 [(bopE .Sub (bopE .Mult (slot 3 ρ) (slot 5 ρ)) (slot 4 ρ)), (slot 5 ρ)]))) (true)) fun ρ =>
  SR.nx ρ)
theorem r__less (k : Nat) (a0 a1 : PV) : callN PP MM 60 (k + 1) "_less" [a0, a1] = finS false (b__less (callN PP MM 60 k) [some (a0, false), some (a1, false), none, none, none, none]) := by kernel_rfl
def b_equal_losses (call : Str → List PV → R PV) (ρ : PyV.Env) : SR :=
  (SR.then (callS ρ (ownE call "_check" 2 [(slot 0 ρ), (slot 1 ρ)])) fun ρ =>
  SR.then (retS ρ (bltTE "tuple" [(ownE call "_less" 2 [(slot 1 ρ), (ownE call "_gains" 2 [(bopE .Sub (bltE "sum" [(slot 1 ρ)]) (slot 0 ρ)), (slot 1 ρ)])])]) (true)) fun ρ =>
  SR.nx ρ)
theorem r_equal_losses (k : Nat) (a0 a1 : PV) : callN PP MM 60 (k + 1) "equal_losses" [a0, a1] = finS false (b_equal_losses (callN PP MM 60 k) [some (a0, false), some (a1, false)]) := by kernel_rfl
def b__half_gains (call : Str → List PV → R PV) (ρ : PyV.Env) : SR :=
  (SR.then (retS ρ (compE false (itmI (ownE call "_gains" 2 [(bopE .Mult (R.ok (.int 2)) (slot 0 ρ)), (slot 1 ρ)])) (fun x => bindN [3, 4] x (wipes ρ [2, 3, 4])) (fun ρ => noIf) (fun ρ => (ownE call "_quotient" 2 [(slot 3 ρ), (bopE .Mult (R.ok (.int 2)) (slot 4 ρ))]))) (true)) fun ρ =>
  SR.nx ρ)
theorem r__half_gains (k : Nat) (a0 a1 : PV) : callN PP MM 60 (k + 1) "_half_gains" [a0, a1] = finS false (b__half_gains (callN PP MM 60 k) [some (a0, false), some (a1, false), none, none, none]) := by kernel_rfl
def b_half_rule (call : Str → List PV → R PV) (ρ : PyV.Env) : SR :=
  (SR.then (callS ρ (ownE call "_check" 2 [(slot 0 ρ), (slot 1 ρ)])) fun ρ =>
  SR.then (ifS ρ (cmpT .LtE (bopE .Mult (R.ok (.int 2)) (slot 0 ρ)) (bltE "sum" [(slot 1 ρ)]))
  (SR.then (retS ρ (bltTE "tuple" [(ownE call "_half_gains" 2 [(slot 0 ρ), (slot 1 ρ)])]) (true)) fun ρ =>
    SR.nx ρ)
  (SR.nx ρ)) fun ρ =>
  SR.then (retS ρ (bltTE "tuple" [(ownE call "_less" 2 [(slot 1 ρ), (ownE call "_half_gains" 2 [(bopE .Sub (bltE "sum" [(slot 1 ρ)]) (slot 0 ρ)), (slot 1 ρ)])])]) (true)) fun ρ =>
  SR.nx ρ)
theorem r_half_rule (k : Nat) (a0 a1 : PV) : callN PP MM 60 (k + 1) "half_rule" [a0, a1] = finS false (b_half_rule (callN PP MM 60 k) [some (a0, false), some (a1, false)]) := by kernel_rfl
def b_two_rule (call : Str → List PV → R PV) (ρ : PyV.Env) : SR :=
  (SR.then (callS ρ (ownE call "_check" 2 [(slot 0 ρ), (tupE [(slot 1 ρ), (slot 2 ρ)])])) fun ρ =>
  SR.then (unpS ρ [3, 4] (tupE [(bltE "max" [(R.ok (.int 0)), (bopE .Sub (slot 0 ρ) (slot 2 ρ))]), (bltE "max" [(R.ok (.int 0)), (bopE .Sub (slot 0 ρ) (slot 1 ρ))])]) [0, 2, 0, 1]) fun ρ =>
  SR.then (setS ρ 5 (bopE .Sub (bopE .Sub (slot 0 ρ) (slot 3 ρ)) (slot 4 ρ)) true [0, 3, 4]) fun ρ =>
  SR.then (retS ρ (tupE [(ownE call "_quotient" 2 [(bopE .Add (bopE .Mult (R.ok (.int 2)) (slot 3 ρ)) (slot 5 ρ)), (R.ok (.int 2))]), (ownE call "_quotient" 2 [(bopE .Add (bopE .Mult (R.ok (.int 2)) (slot 4 ρ)) (slot 5 ρ)), (R.ok (.int 2))])]) (true)) fun ρ =>
  SR.nx ρ)
theorem r_two_rule (k : Nat) (a0 a1 a2 : PV) : callN PP MM 60 (k + 1) "two_rule" [a0, a1, a2] = finS false (b_two_rule (callN PP MM 60 k) [some (a0, false), some (a1, false), some (a2, false), none, none, none]) := by kernel_rfl
def b__law_draws (call : Str → List PV → R PV) (ρ : PyV.Env) : SR :=
  (SR.then (setS ρ 2 (lstE []) true []) fun ρ =>
  SR.then (setS ρ 3 (R.ok (.int 7)) true []) fun ρ =>
  SR.then (forG ρ (slE (slot 0 ρ) optN (optS (R.ok (.int 63)))) true true [0] (fun x ρ => bind1 4 x ρ) (fun ρ =>
  (SR.then (setS ρ 5 (bltE "abs" [(slot 4 ρ)]) true [4]) fun ρ =>
    SR.then (setS ρ 3 (bopE .Mod (bltTE "int" [(bopE .Add (bopE .Add (bopE .Mult (slot 3 ρ) (R.ok (.int 48271))) (slot 5 ρ)) (R.ok (.int 11)))]) (R.ok (.int 2147483647))) true [3, 5]) fun ρ =>
    SR.then (ifS ρ (cmpT .GtE (slot 5 ρ) (bopE .Pow (R.ok (.int 10)) (R.ok (.int 18))))
    (SR.then (forR ρ (rngI [(R.ok (.int 60))]) (fun x ρ => bind1 6 x ρ) (fun ρ =>
      (SR.then (ifS ρ (cmpT .Gt (slot 5 ρ) (R.ok (.int 0)))
        (SR.then (mutS' ρ 2 "append" [(bopE .Mod (bltTE "int" [(slot 5 ρ)]) (R.ok (.int 1009)))] [5]) fun ρ =>
          SR.then (setS ρ 5 (bopE .FloorDiv (slot 5 ρ) (R.ok (.int 1009))) true [5]) fun ρ =>
          SR.nx ρ)
        (SR.nx ρ)) fun ρ =>
        SR.nx ρ))) fun ρ =>
      SR.nx ρ)
    (SR.then (mutS' ρ 2 "append" [(bopE .Mod (bopE .FloorDiv (bltTE "int" [(bopE .Add (bopE .Mult (slot 3 ρ) (R.ok (.int 16807))) (R.ok (.int 5)))]) (R.ok (.int 3))) (R.ok (.int 65521)))] [3]) fun ρ =>
      SR.nx ρ)) fun ρ =>
    SR.nx ρ))) fun ρ =>
  SR.then (forR ρ (rngI [(slot 1 ρ)]) (fun x ρ => bind1 6 x ρ) (fun ρ =>
  (SR.then (ifS ρ (cmpT .Lt (bltE "len" [(slot 2 ρ)]) (slot 1 ρ))
    (SR.then (setS ρ 3 (bopE .Mod (bltTE "int" [(bopE .Add (bopE .Add (bopE .Mult (slot 3 ρ) (R.ok (.int 69621))) (slot 6 ρ)) (R.ok (.int 1)))]) (R.ok (.int 2147483647))) true [3, 6]) fun ρ =>
      SR.then (mutS' ρ 2 "append" [(bopE .Mod (bopE .FloorDiv (bltTE "int" [(slot 3 ρ)]) (R.ok (.int 7))) (R.ok (.int 65521)))] [3]) fun ρ =>
      SR.nx ρ)
    (SR.nx ρ)) fun ρ =>
    SR.nx ρ))) fun ρ =>
  SR.then (retS ρ (slE (slot 2 ρ) optN (optS (slot 1 ρ))) (true)) fun ρ =>
  SR.nx ρ)
theorem r__law_draws (k : Nat) (a0 a1 : PV) : callN PP MM 60 (k + 1) "_law_draws" [a0, a1] = finS false (b__law_draws (callN PP MM 60 k) [some (a0, false), some (a1, false), none, none, none, none, none]) := by kernel_rfl
def b__law_low (call : Str → List PV → R PV) (ρ : PyV.Env) : SR :=
  (SR.then (unpS ρ [2, 3] (tupE [(bltE "abs" [(slot 0 ρ)]), (bltE "abs" [(slot 1 ρ)])]) [0, 1]) fun ρ =>
  SR.then (whileLoop (fun ρ => (cmpT .Gt (slot 3 ρ) (R.ok (.int 0)))) (fun ρ =>
  (SR.then (unpS ρ [2, 3] (tupE [(slot 3 ρ), (bopE .Mod (slot 2 ρ) (slot 3 ρ))]) [3, 2, 3]) fun ρ =>
    SR.nx ρ)) MM ρ) fun ρ =>
  SR.then (retS ρ (tupE [(bopE .FloorDiv (slot 0 ρ) (slot 2 ρ)), (bopE .FloorDiv (slot 1 ρ) (slot 2 ρ))]) (true)) fun ρ =>
  SR.nx ρ)
theorem r__law_low (k : Nat) (a0 a1 : PV) : callN PP MM 60 (k + 1) "_law_low" [a0, a1] = finS false (b__law_low (callN PP MM 60 k) [some (a0, false), some (a1, false), none, none]) := by kernel_rfl
def b__law_plus (call : Str → List PV → R PV) (ρ : PyV.Env) : SR :=
  (SR.then (retS ρ (ownE call "_law_low" 2 [(bopE .Add (bopE .Mult (ixE (slot 0 ρ) (R.ok (.int 0))) (ixE (slot 1 ρ) (R.ok (.int 1)))) (bopE .Mult (ixE (slot 1 ρ) (R.ok (.int 0))) (ixE (slot 0 ρ) (R.ok (.int 1))))), (bopE .Mult (ixE (slot 0 ρ) (R.ok (.int 1))) (ixE (slot 1 ρ) (R.ok (.int 1))))]) (false)) fun ρ =>
  SR.nx ρ)
theorem r__law_plus (k : Nat) (a0 a1 : PV) : callN PP MM 60 (k + 1) "_law_plus" [a0, a1] = finS false (b__law_plus (callN PP MM 60 k) [some (a0, false), some (a1, false)]) := by kernel_rfl
def b__law_less (call : Str → List PV → R PV) (ρ : PyV.Env) : SR :=
  (SR.then (retS ρ (cmpE .Lt (bopE .Mult (ixE (slot 0 ρ) (R.ok (.int 0))) (ixE (slot 1 ρ) (R.ok (.int 1)))) (bopE .Mult (ixE (slot 1 ρ) (R.ok (.int 0))) (ixE (slot 0 ρ) (R.ok (.int 1))))) (true)) fun ρ =>
  SR.nx ρ)
theorem r__law_less (k : Nat) (a0 a1 : PV) : callN PP MM 60 (k + 1) "_law_less" [a0, a1] = finS false (b__law_less (callN PP MM 60 k) [some (a0, false), some (a1, false)]) := by kernel_rfl
def b__law_filled (call : Str → List PV → R PV) (ρ : PyV.Env) : SR :=
  (SR.then (unpO ρ [2, 3] 0 2 (tupE [(bopE .Mult (lstE [(tupE [(R.ok (.int 0)), (R.ok (.int 1))])]) (bltE "len" [(slot 1 ρ)])), (slot 0 ρ)]) [1, 0]) fun ρ =>
  SR.then (setS ρ 5 (compE true (rngI [(bltE "len" [(slot 1 ρ)])]) (fun x => bind1 4 x (wipes ρ [10, 4])) (fun ρ => (cmpT .Gt (ixE (ixE (slot 1 ρ) (slot 4 ρ)) (R.ok (.int 0))) (R.ok (.int 0)))) (fun ρ => (slot 4 ρ))) true [4, 1, 1, 4]) fun ρ =>
  SR.then (whileLoop (fun ρ => (cmpT .Gt (ixE (slot 3 ρ) (R.ok (.int 0))) (R.ok (.int 0)))) (fun ρ =>
  (SR.then (setS ρ 6 (R.ok (.non)) true []) fun ρ =>
    SR.then (forG ρ (slot 5 ρ) false true [5] (fun x ρ => bind1 4 x ρ) (fun ρ =>
    (SR.then (setS ρ 7 (ownE call "_law_plus" 2 [(ixE (slot 1 ρ) (slot 4 ρ)), (tupE [(bopE .Sub (R.ok (.int 0)) (ixE (ixE (slot 2 ρ) (slot 4 ρ)) (R.ok (.int 0)))), (ixE (ixE (slot 2 ρ) (slot 4 ρ)) (R.ok (.int 1)))])]) false [1, 4, 2, 4, 2, 4]) fun ρ =>
      SR.then (setS ρ 6 (ifE (orT (cmpT .Is (slot 6 ρ) (R.ok (.non))) (truT (ownE call "_law_less" 2 [(slot 7 ρ), (slot 6 ρ)]))) (slot 7 ρ) (slot 6 ρ)) false [6, 7, 6, 7, 6]) fun ρ =>
      SR.nx ρ))) fun ρ =>
    SR.then (setS ρ 8 (ownE call "_law_low" 2 [(ixE (slot 3 ρ) (R.ok (.int 0))), (bopE .Mult (ixE (slot 3 ρ) (R.ok (.int 1))) (bltE "len" [(slot 5 ρ)]))]) false [3, 3, 5]) fun ρ =>
    SR.then (setS ρ 9 (ifE (truT (ownE call "_law_less" 2 [(slot 6 ρ), (slot 8 ρ)])) (slot 6 ρ) (slot 8 ρ)) false [6, 8, 6, 8]) fun ρ =>
    SR.then (forG ρ (slot 5 ρ) false true [5] (fun x ρ => bind1 4 x ρ) (fun ρ =>
    (SR.then (stoS ρ 2 (slot 4 ρ) (ownE call "_law_plus" 2 [(ixE (slot 2 ρ) (slot 4 ρ)), (slot 9 ρ)])) fun ρ =>
      SR.nx ρ))) fun ρ =>
    SR.then (setS ρ 3 (ownE call "_law_plus" 2 [(slot 3 ρ), (tupE [(bopE .Sub (R.ok (.int 0)) (bopE .Mult (ixE (slot 9 ρ) (R.ok (.int 0))) (bltE "len" [(slot 5 ρ)]))), (ixE (slot 9 ρ) (R.ok (.int 1)))])]) false [3, 9, 5, 9]) fun ρ =>
    SR.then (setS ρ 5 (compE false (itmI (slot 5 ρ)) (fun x => bind1 4 x (wipes ρ [10, 4])) (fun ρ => (truT (ownE call "_law_less" 2 [(ixE (slot 2 ρ) (slot 4 ρ)), (ixE (slot 1 ρ) (slot 4 ρ))]))) (fun ρ => (slot 4 ρ))) true [4, 5, 2, 4, 1, 4]) fun ρ =>
    SR.nx ρ)) MM ρ) fun ρ =>
  SR.then (retS ρ (slot 2 ρ) ((ownAt ρ 2).isSome)) fun ρ =>
  SR.nx ρ)
theorem r__law_filled (k : Nat) (a0 a1 : PV) : callN PP MM 60 (k + 1) "_law_filled" [a0, a1] = finS false (b__law_filled (callN PP MM 60 k) [some (a0, false), some (a1, false), none, none, none, none, none, none, none, none, none]) := by kernel_rfl
def b__law_word (call : Str → List PV → R PV) (ρ : PyV.Env) : SR :=
  (SR.then (tryS (SR.then (ifS ρ (cmpT .Eq (slot 0 ρ) (R.ok (.int 0)))
    (SR.then (callS ρ (ownE call "equal_gains" 2 [(slot 1 ρ), (slot 2 ρ)])) fun ρ =>
      SR.nx ρ)
    (SR.then (ifS ρ (cmpT .Eq (slot 0 ρ) (R.ok (.int 1)))
      (SR.then (callS ρ (ownE call "equal_losses" 2 [(slot 1 ρ), (slot 2 ρ)])) fun ρ =>
        SR.nx ρ)
      (SR.then (ifS ρ (cmpT .Eq (slot 0 ρ) (R.ok (.int 2)))
        (SR.then (callS ρ (ownE call "half_rule" 2 [(slot 1 ρ), (slot 2 ρ)])) fun ρ =>
          SR.nx ρ)
        (SR.then (callS ρ (ownE call "two_rule" 3 [(slot 1 ρ), (slot 2 ρ), (R.ok (.int 5))])) fun ρ =>
          SR.nx ρ)) fun ρ =>
        SR.nx ρ)) fun ρ =>
      SR.nx ρ)) fun ρ =>
    SR.nx ρ) (fun c fs ρ => (catS PP c "BadClaims" (SR.ret (.str [99, 108, 97, 105, 109, 115]) true) (catS PP c "BadEstate" (SR.ret (.str [101, 115, 116, 97, 116, 101]) true) (SR.exc c fs ρ))))) fun ρ =>
  SR.then (retS ρ (R.ok (.str [110, 111, 110, 101])) (true)) fun ρ =>
  SR.nx ρ)
theorem r__law_word (k : Nat) (a0 a1 a2 : PV) : callN PP MM 60 (k + 1) "_law_word" [a0, a1, a2] = finS false (b__law_word (callN PP MM 60 k) [some (a0, false), some (a1, false), some (a2, false)]) := by kernel_rfl
def b_law (call : Str → List PV → R PV) (ρ : PyV.Env) : SR :=
  (SR.then (setS ρ 1 (ownE call "_law_draws" 2 [(slot 0 ρ), (R.ok (.int 60))]) false [0]) fun ρ =>
  SR.then (forR ρ (rngI [(R.ok (.int 6))]) (fun x ρ => bind1 2 x ρ) (fun ρ =>
  (SR.then (setS ρ 4 (bltTE "tuple" [(compE true (rngI [(bopE .Add (R.ok (.int 1)) (bopE .Mod (bltTE "int" [(ixE (slot 1 ρ) (bopE .Add (R.ok (.int 50)) (slot 2 ρ)))]) (R.ok (.int 8))))]) (fun x => bind1 3 x (wipes ρ [24, 3])) (fun ρ => noIf) (fun ρ => (bopE .Mod (bltTE "int" [(ixE (slot 1 ρ) (bopE .Add (bopE .Mult (R.ok (.int 8)) (slot 2 ρ)) (slot 3 ρ)))]) (ixE (lstE [(R.ok (.int 101)), (R.ok (.int 9)), (R.ok (.int 30)), (R.ok (.int 4)), (R.ok (.int 60)), (R.ok (.int 12))]) (slot 2 ρ)))))]) true [1, 2, 3, 2, 1, 2]) fun ρ =>
    SR.then (setS ρ 5 (bltE "sum" [(slot 4 ρ)]) true [4]) fun ρ =>
    SR.then (setS ρ 6 (bopE .Mod (bopE .FloorDiv (bltTE "int" [(ixE (slot 1 ρ) (R.ok (.int 54)))]) (bopE .Add (R.ok (.int 1)) (slot 2 ρ))) (bopE .Add (slot 5 ρ) (R.ok (.int 1)))) true [1, 2, 5]) fun ρ =>
    SR.then (unpS ρ [8, 9] (tupE [(compE false (itmI (slot 4 ρ)) (fun x => bind1 7 x (wipes ρ [24, 7])) (fun ρ => noIf) (fun ρ => (tupE [(slot 7 ρ), (R.ok (.int 1))]))), (compE false (itmI (slot 4 ρ)) (fun x => bind1 7 x (wipes ρ [24, 7])) (fun ρ => noIf) (fun ρ => (ownE call "_law_low" 2 [(slot 7 ρ), (R.ok (.int 2))])))]) [7, 4, 7, 4]) fun ρ =>
    SR.then (setS ρ 10 (ownE call "_law_filled" 2 [(tupE [(slot 6 ρ), (R.ok (.int 1))]), (slot 8 ρ)]) false [6, 8]) fun ρ =>
    SR.then (setS ρ 11 (ownE call "_law_filled" 2 [(tupE [(bopE .Sub (slot 5 ρ) (slot 6 ρ)), (R.ok (.int 1))]), (slot 8 ρ)]) false [5, 6, 8]) fun ρ =>
    SR.then (ifS ρ (orT (cmpT .NotEq (ownE call "equal_gains" 2 [(slot 6 ρ), (slot 4 ρ)]) (bltTE "tuple" [(slot 10 ρ)])) (cmpT .NotEq (ownE call "equal_losses" 2 [(slot 6 ρ), (slot 4 ρ)]) (bltTE "tuple" [(compE true (rngI [(bltE "len" [(slot 4 ρ)])]) (fun x => bind1 3 x (wipes ρ [24, 3])) (fun ρ => noIf) (fun ρ => (ownE call "_law_plus" 2 [(ixE (slot 8 ρ) (slot 3 ρ)), (tupE [(bopE .Sub (R.ok (.int 0)) (ixE (ixE (slot 11 ρ) (slot 3 ρ)) (R.ok (.int 0)))), (ixE (ixE (slot 11 ρ) (slot 3 ρ)) (R.ok (.int 1)))])])))])))
    (SR.then (retS ρ (R.ok (.bl false)) (true)) fun ρ =>
      SR.nx ρ)
    (SR.nx ρ)) fun ρ =>
    SR.then (ifS ρ (cmpT .LtE (bopE .Mult (R.ok (.int 2)) (slot 6 ρ)) (slot 5 ρ))
    (SR.then (setS ρ 12 (ownE call "_law_filled" 2 [(tupE [(slot 6 ρ), (R.ok (.int 1))]), (slot 9 ρ)]) false [6, 9]) fun ρ =>
      SR.nx ρ)
    (SR.then (setS ρ 13 (ownE call "_law_filled" 2 [(tupE [(bopE .Sub (slot 5 ρ) (slot 6 ρ)), (R.ok (.int 1))]), (slot 9 ρ)]) false [5, 6, 9]) fun ρ =>
      SR.then (setS ρ 12 (compE true (rngI [(bltE "len" [(slot 4 ρ)])]) (fun x => bind1 3 x (wipes ρ [24, 3])) (fun ρ => noIf) (fun ρ => (ownE call "_law_plus" 2 [(ixE (slot 8 ρ) (slot 3 ρ)), (tupE [(bopE .Sub (R.ok (.int 0)) (ixE (ixE (slot 13 ρ) (slot 3 ρ)) (R.ok (.int 0)))), (ixE (ixE (slot 13 ρ) (slot 3 ρ)) (R.ok (.int 1)))])]))) true [8, 3, 13, 3, 13, 3, 4]) fun ρ =>
      SR.nx ρ)) fun ρ =>
    SR.then (setS ρ 14 (ownE call "half_rule" 2 [(slot 6 ρ), (slot 4 ρ)]) false [6, 4]) fun ρ =>
    SR.then (ifS ρ (cmpT .NotEq (slot 14 ρ) (bltTE "tuple" [(slot 12 ρ)]))
    (SR.then (retS ρ (R.ok (.bl false)) (true)) fun ρ =>
      SR.nx ρ)
    (SR.nx ρ)) fun ρ =>
    SR.then (forG ρ (lstE [(ownE call "equal_gains" 2 [(slot 6 ρ), (slot 4 ρ)]), (ownE call "equal_losses" 2 [(slot 6 ρ), (slot 4 ρ)]), (slot 14 ρ)]) true true [6, 4, 6, 4, 14] (fun x ρ => bind1 15 x ρ) (fun ρ =>
    (SR.then (setS ρ 16 (tupE [(R.ok (.int 0)), (R.ok (.int 1))]) true []) fun ρ =>
      SR.then (forR ρ (rngI [(bltE "len" [(slot 4 ρ)])]) (fun x ρ => bind1 3 x ρ) (fun ρ =>
      (SR.then (setS ρ 16 (ownE call "_law_plus" 2 [(slot 16 ρ), (ixE (slot 15 ρ) (slot 3 ρ))]) false [16, 15, 3]) fun ρ =>
        SR.then (ifS ρ (orT (cmpT .Lt (ixE (ixE (slot 15 ρ) (slot 3 ρ)) (R.ok (.int 0))) (R.ok (.int 0))) (truT (ownE call "_law_less" 2 [(tupE [(ixE (slot 4 ρ) (slot 3 ρ)), (R.ok (.int 1))]), (ixE (slot 15 ρ) (slot 3 ρ))])))
        (SR.then (retS ρ (R.ok (.bl false)) (true)) fun ρ =>
          SR.nx ρ)
        (SR.nx ρ)) fun ρ =>
        SR.nx ρ))) fun ρ =>
      SR.then (ifS ρ (cmpT .NotEq (slot 16 ρ) (tupE [(slot 6 ρ), (R.ok (.int 1))]))
      (SR.then (retS ρ (R.ok (.bl false)) (true)) fun ρ =>
        SR.nx ρ)
      (SR.nx ρ)) fun ρ =>
      SR.nx ρ))) fun ρ =>
    SR.then (forR ρ (rngI [(bltE "len" [(slot 4 ρ)])]) (fun x ρ => bind1 3 x ρ) (fun ρ =>
    (SR.then (forR ρ (rngI [(bopE .Add (slot 3 ρ) (R.ok (.int 1))), (bltE "len" [(slot 4 ρ)])]) (fun x ρ => bind1 17 x ρ) (fun ρ =>
      (SR.then (setS ρ 18 (ownE call "_law_plus" 2 [(ixE (slot 14 ρ) (slot 3 ρ)), (ixE (slot 14 ρ) (slot 17 ρ))]) false [14, 3, 14, 17]) fun ρ =>
        SR.then (unpS ρ [7, 19, 20] (tupE [(bopE .Mult (ixE (slot 4 ρ) (slot 3 ρ)) (ixE (slot 18 ρ) (R.ok (.int 1)))), (bopE .Mult (ixE (slot 4 ρ) (slot 17 ρ)) (ixE (slot 18 ρ) (R.ok (.int 1)))), (ixE (slot 18 ρ) (R.ok (.int 0)))]) [4, 3, 18, 4, 17, 18, 18]) fun ρ =>
        SR.then (unpS ρ [21, 22] (tupE [(bltE "max" [(R.ok (.int 0)), (bopE .Sub (slot 20 ρ) (slot 19 ρ))]), (bltE "max" [(R.ok (.int 0)), (bopE .Sub (slot 20 ρ) (slot 7 ρ))])]) [20, 19, 20, 7]) fun ρ =>
        SR.then (ifS ρ (cmpT .NotEq (ixE (slot 14 ρ) (slot 3 ρ)) (ownE call "_law_low" 2 [(bopE .Sub (bopE .Add (slot 21 ρ) (slot 20 ρ)) (slot 22 ρ)), (bopE .Mult (R.ok (.int 2)) (ixE (slot 18 ρ) (R.ok (.int 1))))]))
        (SR.then (retS ρ (R.ok (.bl false)) (true)) fun ρ =>
          SR.nx ρ)
        (SR.nx ρ)) fun ρ =>
        SR.then (ifS ρ (andT (cmpT .Eq (ixE (slot 18 ρ) (R.ok (.int 1))) (R.ok (.int 1))) (cmpT .NotEq (ownE call "two_rule" 3 [(ixE (slot 18 ρ) (R.ok (.int 0))), (ixE (slot 4 ρ) (slot 3 ρ)), (ixE (slot 4 ρ) (slot 17 ρ))]) (tupE [(ixE (slot 14 ρ) (slot 3 ρ)), (ixE (slot 14 ρ) (slot 17 ρ))])))
        (SR.then (retS ρ (R.ok (.bl false)) (true)) fun ρ =>
          SR.nx ρ)
        (SR.nx ρ)) fun ρ =>
        SR.nx ρ))) fun ρ =>
      SR.nx ρ))) fun ρ =>
    SR.then (forG ρ (lstE [(R.ok (.non)), (tupE []), (bltTE "list" [(slot 4 ρ)]), (bopE .Add (slot 4 ρ) (tupE [(R.ok (.int 101))])), (bopE .Add (slot 4 ρ) (tupE [(uopE .USub (R.ok (.int 1)))])), (bopE .Add (slot 4 ρ) (tupE [(R.ok (.bl true))])), (bopE .Mult (tupE [(R.ok (.int 1))]) (R.ok (.int 9))), (R.ok (.int 5)), (bopE .Add (slot 4 ρ) (tupE [(R.ok (.non))]))]) true true [4, 4, 4, 4, 4] (fun x ρ => bind1 23 x ρ) (fun ρ =>
    (SR.then (ifS ρ (cmpT .NotEq (compE true (rngI [(R.ok (.int 3))]) (fun x => bind1 25 x (wipes ρ [24, 25])) (fun ρ => noIf) (fun ρ => (ownE call "_law_word" 3 [(slot 25 ρ), (R.ok (.int 0)), (slot 23 ρ)]))) (bopE .Mult (lstE [(R.ok (.str [99, 108, 97, 105, 109, 115]))]) (R.ok (.int 3))))
      (SR.then (retS ρ (R.ok (.bl false)) (true)) fun ρ =>
        SR.nx ρ)
      (SR.nx ρ)) fun ρ =>
      SR.nx ρ))) fun ρ =>
    SR.then (ifS ρ (notT (truT (bltE "all" [(compE false (itmI (lstE [(R.ok (.non)), (uopE .USub (R.ok (.int 1))), (bopE .Add (slot 5 ρ) (R.ok (.int 1))), (ifE (cmpT .Gt (slot 5 ρ) (R.ok (.int 0))) (R.ok (.bl true)) (uopE .USub (R.ok (.int 2)))), (R.ok (.str [49]))])) (fun x => bind1 23 x (wipes ρ [24, 23])) (fun ρ => noIf) (fun ρ => (cmpE .Eq (compE true (rngI [(R.ok (.int 3))]) (fun x => bind1 25 x (wipes ρ [24, 25])) (fun ρ => noIf) (fun ρ => (ownE call "_law_word" 3 [(slot 25 ρ), (slot 23 ρ), (slot 4 ρ)]))) (bopE .Mult (lstE [(R.ok (.str [101, 115, 116, 97, 116, 101]))]) (R.ok (.int 3))))))])))
    (SR.then (retS ρ (R.ok (.bl false)) (true)) fun ρ =>
      SR.nx ρ)
    (SR.nx ρ)) fun ρ =>
    SR.nx ρ))) fun ρ =>
  SR.then (ifS ρ (orT (cmpT .NotEq (compE false (itmI (lstE [(R.ok (.non)), (uopE .USub (R.ok (.int 1))), (R.ok (.int 101)), (R.ok (.bl true))])) (fun x => bind1 23 x (wipes ρ [24, 23])) (fun ρ => noIf) (fun ρ => (ownE call "_law_word" 3 [(R.ok (.int 3)), (R.ok (.int 0)), (slot 23 ρ)]))) (bopE .Mult (lstE [(R.ok (.str [99, 108, 97, 105, 109, 115]))]) (R.ok (.int 4)))) (cmpT .NotEq (compE false (itmI (lstE [(R.ok (.non)), (uopE .USub (R.ok (.int 1))), (R.ok (.int 9))])) (fun x => bind1 23 x (wipes ρ [24, 23])) (fun ρ => noIf) (fun ρ => (ownE call "_law_word" 3 [(R.ok (.int 3)), (slot 23 ρ), (R.ok (.int 3))]))) (bopE .Mult (lstE [(R.ok (.str [101, 115, 116, 97, 116, 101]))]) (R.ok (.int 3)))))
  (SR.then (retS ρ (R.ok (.bl false)) (true)) fun ρ =>
    SR.nx ρ)
  (SR.nx ρ)) fun ρ =>
  SR.then (ifS ρ (orT (cmpT .NotEq (ownE call "half_rule" 2 [(R.ok (.int 100)), (bopE .Add (slE (tupE [(R.ok (.int 100)), (R.ok (.int 200)), (R.ok (.int 300))]) optN (optS (R.ok (.int 1)))) (tupE [(R.ok (.int 100)), (R.ok (.int 100))]))]) (bopE .Mult (tupE [(tupE [(R.ok (.int 100)), (R.ok (.int 3))])]) (R.ok (.int 3)))) (orT (cmpT .NotEq (ownE call "half_rule" 2 [(R.ok (.int 50)), (tupE [(R.ok (.int 25)), (R.ok (.int 50)), (R.ok (.int 75))])]) (tupE [(tupE [(R.ok (.int 25)), (R.ok (.int 2))]), (tupE [(R.ok (.int 75)), (R.ok (.int 4))]), (tupE [(R.ok (.int 75)), (R.ok (.int 4))])])) (cmpT .NotEq (ownE call "two_rule" 3 [(R.ok (.int 50)), (R.ok (.int 50)), (R.ok (.int 25))]) (tupE [(tupE [(R.ok (.int 75)), (R.ok (.int 2))]), (tupE [(R.ok (.int 25)), (R.ok (.int 2))])]))))
  (SR.then (retS ρ (R.ok (.bl false)) (true)) fun ρ =>
    SR.nx ρ)
  (SR.nx ρ)) fun ρ =>
  SR.then (ifS ρ (orT (cmpT .NotEq (ownE call "equal_gains" 2 [(R.ok (.int 50)), (tupE [(R.ok (.int 25)), (R.ok (.int 50)), (R.ok (.int 75))])]) (bopE .Mult (tupE [(tupE [(R.ok (.int 50)), (R.ok (.int 3))])]) (R.ok (.int 3)))) (cmpT .NotEq (ownE call "equal_losses" 2 [(R.ok (.int 50)), (tupE [(R.ok (.int 25)), (R.ok (.int 50)), (R.ok (.int 75))])]) (tupE [(tupE [(R.ok (.int 0)), (R.ok (.int 1))]), (tupE [(R.ok (.int 25)), (R.ok (.int 2))]), (tupE [(R.ok (.int 75)), (R.ok (.int 2))])])))
  (SR.then (retS ρ (R.ok (.bl false)) (true)) fun ρ =>
    SR.nx ρ)
  (SR.nx ρ)) fun ρ =>
  SR.then (retS ρ (andE (cmpE .Eq (ownE call "two_rule" 3 [(R.ok (.int 0)), (R.ok (.int 0)), (R.ok (.int 0))]) (tupE [(tupE [(R.ok (.int 0)), (R.ok (.int 1))]), (tupE [(R.ok (.int 0)), (R.ok (.int 1))])])) (cmpE .Eq (ownE call "half_rule" 2 [(R.ok (.int 100)), (tupE [(R.ok (.int 25)), (R.ok (.int 50)), (R.ok (.int 75))])]) (tupE [(tupE [(R.ok (.int 25)), (R.ok (.int 2))]), (tupE [(R.ok (.int 125)), (R.ok (.int 4))]), (tupE [(R.ok (.int 225)), (R.ok (.int 4))])]))) (false)) fun ρ =>
  SR.nx ρ)
theorem r_law (k : Nat) (a0 : PV) : callN PP MM 60 (k + 1) "law" [a0] = finS false (b_law (callN PP MM 60 k) [some (a0, false), none, none, none, none, none, none, none, none, none, none, none, none, none, none, none, none, none, none, none, none, none, none, none, none, none]) := by kernel_rfl
end Law34
set_option Elab.async false
set_option linter.all false
set_option maxRecDepth 100000
set_option maxHeartbeats 400000
namespace Law34
open PySem PyV
/-! ### quotients -/
def rv (q : Rat) : PV := .tup [.int q.num, .int (q.den : Int)]
/-- twice it is a whole number -/
def Hf (q : Rat) : Prop := ∃ m : Int, q * 2 = (m : Rat)
/-- 1680 times it is a whole number -/
def Zf (q : Rat) : Prop := ∃ m : Int, q * 1680 = (m : Rat)
theorem Hf.z {q : Rat} (h : Hf q) : Zf q := by
  obtain ⟨m, e⟩ := h
  refine ⟨m * 840, ?_⟩
  rw [Rat.intCast_mul, ← e]
  have : ((840 : Int) : Rat) = 840 := rfl
  rw [this]; grind
theorem Hf.int (a : Int) : Hf (a : Rat) := ⟨a * 2, by rw [Rat.intCast_mul]; rfl⟩
theorem Hf.add {a b : Rat} (ha : Hf a) (hb : Hf b) : Hf (a + b) := by
  obtain ⟨m, e⟩ := ha; obtain ⟨n, f⟩ := hb
  exact ⟨m + n, by rw [Rat.intCast_add, ← e, ← f]; grind⟩
theorem Hf.neg {a : Rat} (ha : Hf a) : Hf (-a) := by
  obtain ⟨m, e⟩ := ha
  exact ⟨-m, by rw [Rat.intCast_neg, ← e]; grind⟩
theorem Hf.sub {a b : Rat} (ha : Hf a) (hb : Hf b) : Hf (a - b) := by
  rw [Rat.sub_eq_add_neg]; exact ha.add hb.neg
theorem Zf.add {a b : Rat} (ha : Zf a) (hb : Zf b) : Zf (a + b) := by
  obtain ⟨m, e⟩ := ha; obtain ⟨n, f⟩ := hb
  exact ⟨m + n, by rw [Rat.intCast_add, ← e, ← f]; grind⟩
theorem Zf.neg {a : Rat} (ha : Zf a) : Zf (-a) := by
  obtain ⟨m, e⟩ := ha
  exact ⟨-m, by rw [Rat.intCast_neg, ← e]; grind⟩
theorem Zf.sub {a b : Rat} (ha : Zf a) (hb : Zf b) : Zf (a - b) := by
  rw [Rat.sub_eq_add_neg]; exact ha.add hb.neg
theorem Zf.den {q : Rat} (h : Zf q) : q.den ≤ 1680 := by
  obtain ⟨m, e⟩ := h
  have : q = mkRat m 1680 := by
    rw [Rat.mkRat_eq_div, ← e]
    exact (Rat.mul_div_cancel (by decide)).symm
  rw [this, Rat.den_mkRat, if_neg (by decide)]
  exact Nat.div_le_self _ _
theorem den_pos (q : Rat) : 0 < q.den := Nat.pos_of_ne_zero q.den_nz
/-- a whole number's part -/
def inv1 (n : Nat) : Rat := mkRat 1 n
theorem inv1_mul {n : Nat} (h : 0 < n) : inv1 n * (n : Rat) = 1 := by
  unfold inv1
  rw [Rat.mkRat_eq_div]
  exact Rat.div_mul_cancel (by rw [ne_eq, Rat.natCast_eq_zero_iff]; omega)
theorem mk_part (a : Rat) (n : Nat) : mkRat a.num (a.den * n) = a * inv1 n := by
  conv => rhs; rw [← Rat.mkRat_self a]
  unfold inv1
  rw [Rat.mkRat_mul_mkRat, Int.mul_one]
theorem mk_one (a : Int) : mkRat a 1 = (a : Rat) := by
  rw [Rat.mkRat_eq_div]
  show (a : Rat) / 1 = _
  rw [Rat.div_def]
  have : (1 : Rat)⁻¹ = 1 := by have := Rat.mul_inv_cancel 1 (by decide); rwa [Rat.one_mul] at this
  rw [this, Rat.mul_one]
theorem mk_times (a : Rat) (n : Int) : mkRat (a.num * n) a.den = a * (n : Rat) := by
  conv => rhs; rw [← Rat.mkRat_self a, ← mk_one n, Rat.mkRat_mul_mkRat, Nat.mul_one]
theorem mk_int (u : Int) (n : Nat) : mkRat u n = (u : Rat) * inv1 n := by
  rw [← mk_part (u : Rat) n, Rat.num_intCast, Rat.den_intCast, Nat.one_mul]
theorem Hf.part {a : Rat} (h : Hf a) {n : Nat} (h0 : 0 < n) (h8 : n ≤ 8) : Zf (a * inv1 n) := by
  obtain ⟨m, e⟩ := h
  have ht : 840 = n * (840 / n) := by
    have : ∀ n, n < 9 → 0 < n → 840 = n * (840 / n) := by decide
    exact this n (by omega) h0
  refine ⟨m * ((840 / n : Nat) : Int), ?_⟩
  have hn := inv1_mul h0
  have e1 : ((840 : Nat) : Rat) = (n : Rat) * ((840 / n : Nat) : Rat) := by rw [← Rat.natCast_mul, ← ht]
  have e2 : ((840 : Nat) : Rat) = 840 := rfl
  rw [Rat.intCast_mul, ← e, Rat.intCast_natCast]
  rw [e2] at e1
  generalize ((840 / n : Nat) : Rat) = t at *
  generalize (n : Rat) = z at *
  have : a * inv1 n * 1680 = a * inv1 n * 840 * 2 := by grind
  rw [this, e1]
  have : a * inv1 n * (z * t) * 2 = a * (inv1 n * z) * t * 2 := by grind
  rw [this, hn]; grind
theorem part_pos {a : Rat} (h : 0 < a) {n : Nat} (h0 : 0 < n) : 0 < a * inv1 n := by
  refine Rat.mul_pos h ?_
  have := inv1_mul h0
  have h1 : (0 : Rat) < (n : Rat) := Rat.natCast_pos.mpr h0
  have : 0 < inv1 n * (n : Rat) := by rw [this]; decide
  exact (Rat.mul_pos_iff_of_pos_right h1).mp this
theorem part_nonneg {a : Rat} (h : 0 ≤ a) {n : Nat} (h0 : 0 < n) : 0 ≤ a * inv1 n := by
  rcases Rat.le_iff_lt_or_eq.mp h with h | h
  · exact Rat.le_of_lt (part_pos h h0)
  · rw [← h, Rat.zero_mul]; exact Rat.le_refl
/-! ### the lesser -/
def mn (a b : Rat) : Rat := if b < a then b else a
def sq : List Rat → Rat
  | [] => 0
  | x :: r => x + sq r
section
variable {α : Type}
theorem sq_le (f g : α → Rat) : ∀ l : List α, (∀ x ∈ l, f x ≤ g x) → sq (l.map f) ≤ sq (l.map g)
  | [], _ => Rat.le_refl
  | x :: l, h => by
    have := sq_le f g l fun y hy => h y (List.mem_cons_of_mem _ hy)
    have := h x List.mem_cons_self
    show f x + sq (l.map f) ≤ g x + sq (l.map g)
    grind
theorem sq_each (f g : α → Rat) : ∀ l : List α, (∀ x ∈ l, f x ≤ g x) → sq (l.map f) = sq (l.map g) → ∀ x ∈ l, f x = g x
  | [], _, _, _, h => by cases h
  | x :: l, h, e, y, hy => by
    have h1 := sq_le f g l fun y hy => h y (List.mem_cons_of_mem _ hy)
    have h2 := h x List.mem_cons_self
    have e : f x + sq (l.map f) = g x + sq (l.map g) := e
    rcases List.mem_cons.mp hy with rfl | hy
    · grind
    · exact sq_each f g l (fun y hy => h y (List.mem_cons_of_mem _ hy)) (by grind) y hy
theorem mn_mono (a : Rat) {l m : Rat} (h : l ≤ m) : mn a l ≤ mn a m := by unfold mn; grind
theorem uniq (c : α → Rat) (l : List α) (x y : Rat) (e : sq (l.map fun k => mn (c k) x) = sq (l.map fun k => mn (c k) y)) : ∀ k ∈ l, mn (c k) x = mn (c k) y := by
  rcases @Rat.le_total x y with h | h
  · exact sq_each _ _ l (fun k _ => mn_mono _ h) e
  · intro k hk; exact (sq_each _ _ l (fun k _ => mn_mono _ h) e.symm k hk).symm
theorem uniq_map (c : α → Rat) (l : List α) (x y : Rat) (e : sq (l.map fun k => mn (c k) x) = sq (l.map fun k => mn (c k) y)) : (l.map fun k => mn (c k) x) = l.map fun k => mn (c k) y := List.map_congr_left (uniq c l x y e)
theorem sq_step (c : α → Rat) (x s : Rat) (hs : 0 ≤ s) : ∀ l : List α, (∀ k ∈ l, x < c k → x + s ≤ c k) → sq (l.map fun k => mn (c k) (x + s)) = sq (l.map fun k => mn (c k) x) + s * ((l.filter fun k => decide (x < c k)).length : Rat)
  | [], _ => by show (0 : Rat) = 0 + s * ((0 : Nat) : Rat); show (0 : Rat) = 0 + s * 0; grind
  | k :: l, h => by
    have ih := sq_step c x s hs l fun j hj => h j (List.mem_cons_of_mem _ hj)
    have hk := h k List.mem_cons_self
    show mn (c k) (x + s) + sq (l.map fun k => mn (c k) (x + s)) = mn (c k) x + sq (l.map fun k => mn (c k) x) + _
    rw [ih, List.filter_cons]
    by_cases hx : x < c k
    · rw [if_pos (by rw [decide_eq_true hx]), List.length_cons, Rat.natCast_add]
      have := hk hx
      show _ = _ + s * (_ + 1)
      have : mn (c k) (x + s) = mn (c k) x + s := by unfold mn; grind
      rw [this]
      grind
    · rw [if_neg (by rw [decide_eq_false hx]; decide)]
      have : mn (c k) (x + s) = mn (c k) x := by unfold mn; grind
      rw [this]
      grind
theorem sq_all (c : α → Rat) (x : Rat) : ∀ l : List α, (∀ k ∈ l, c k ≤ x) → sq (l.map fun k => mn (c k) x) = sq (l.map c)
  | [], _ => rfl
  | k :: l, h => by
    have ih := sq_all c x l fun j hj => h j (List.mem_cons_of_mem _ hj)
    have hk := h k List.mem_cons_self
    show mn (c k) x + _ = c k + _
    rw [ih]
    have : mn (c k) x = c k := by unfold mn; grind
    rw [this]
theorem sq_none (c : α → Rat) (x : Rat) : ∀ l : List α, (∀ k ∈ l, x ≤ c k) → sq (l.map fun k => mn (c k) x) = x * (l.length : Rat)
  | [], _ => by show (0 : Rat) = x * 0; grind
  | k :: l, h => by
    have ih := sq_none c x l fun j hj => h j (List.mem_cons_of_mem _ hj)
    have hk := h k List.mem_cons_self
    show mn (c k) x + sq (l.map fun k => mn (c k) x) = _
    rw [ih, List.length_cons, Rat.natCast_add]
    have : mn (c k) x = x := by unfold mn; grind
    rw [this]
    show _ = x * (_ + 1)
    grind
theorem sq_sub (f g : α → Rat) : ∀ l : List α, sq (l.map fun k => f k - g k) = sq (l.map f) - sq (l.map g)
  | [] => by show (0 : Rat) = 0 - 0; grind
  | k :: l => by
    show f k - g k + sq (l.map fun k => f k - g k) = (f k + sq (l.map f)) - (g k + sq (l.map g))
    rw [sq_sub f g l]; grind
theorem sq_scale (f : α → Rat) (t : Rat) : ∀ l : List α, sq (l.map fun k => f k * t) = sq (l.map f) * t
  | [] => by show (0 : Rat) = 0 * t; grind
  | k :: l => by
    show f k * t + sq (l.map fun k => f k * t) = (f k + sq (l.map f)) * t
    rw [sq_scale f t l]; grind
theorem sq_int (f : α → Int) : ∀ l : List α, sq (l.map fun k => ((f k : Int) : Rat)) = (((l.map f).sum : Int) : Rat)
  | [] => rfl
  | k :: l => by
    show (f k : Rat) + sq (l.map fun k => (f k : Rat)) = _
    rw [sq_int f l, List.map_cons, List.sum_cons, Rat.intCast_add]
theorem sq_perm {l m : List Rat} (h : l.Perm m) : sq l = sq m := by
  induction h with
  | nil => rfl
  | cons x _ ih => show x + _ = x + _; rw [ih]
  | swap x y l => show y + (x + sq l) = x + (y + sq l); grind
  | trans _ _ a b => exact a.trans b
theorem Hf_sq (f : α → Rat) : ∀ l : List α, (∀ k ∈ l, Hf (f k)) → Hf (sq (l.map f))
  | [], _ => Hf.int 0
  | k :: l, h => (h k List.mem_cons_self).add (Hf_sq f l fun j hj => h j (List.mem_cons_of_mem _ hj))
theorem mn_cases (a b : Rat) : mn a b = a ∨ mn a b = b := by unfold mn; split; exact .inr rfl; exact .inl rfl
theorem Hf.mn {a b : Rat} (ha : Hf a) (hb : Hf b) : Hf (mn a b) := by rcases mn_cases a b with e | e <;> rw [e] <;> assumption
theorem Zf.mn {a b : Rat} (ha : Zf a) (hb : Zf b) : Zf (mn a b) := by rcases mn_cases a b with e | e <;> rw [e] <;> assumption
end
/-! ### the level -/
def lvl : List Int → Int → Option (Int × Nat)
  | [], _ => none
  | x :: t, left => if left ≤ x * ((t.length + 1 : Nat) : Int) then some (left, t.length + 1) else lvl t (left - x)
theorem lvl_ok : ∀ (s : List Int) (left lo : Int), s ≠ [] → s.Pairwise (· ≤ ·) → 0 ≤ lo → left ≤ s.sum → lo * (s.length : Int) ≤ left → (∀ x ∈ s, lo ≤ x) →
    ∃ (L : Int) (n : Nat), lvl s left = some (L, n) ∧ 0 ≤ L ∧ 0 < n ∧ n ≤ s.length ∧ (lo : Rat) ≤ mkRat L n ∧ sq (s.map fun (x : Int) => mn (x : Rat) (mkRat L n)) = (left : Rat)
  | [], _, _, h, _, _, _, _, _ => absurd rfl h
  | x :: t, left, lo, _, hp, hlo, hs, hl, hm => by
    have hp1 : ∀ y ∈ t, x ≤ y := (List.pairwise_cons.mp hp).1
    have hp2 := (List.pairwise_cons.mp hp).2
    have hlx := hm x List.mem_cons_self
    rw [List.length_cons] at hl
    rw [List.sum_cons] at hs
    unfold lvl
    have hn0 : (0 : Rat) < ((t.length + 1 : Nat) : Rat) := Rat.natCast_pos.mpr (by omega)
    have hz := inv1_mul (n := t.length + 1) (by omega)
    by_cases hc : left ≤ x * ((t.length + 1 : Nat) : Int)
    · rw [if_pos hc]
      have h0 : 0 ≤ left := Int.le_trans (Int.mul_nonneg hlo (by omega)) hl
      have em : mkRat left (t.length + 1) * ((t.length + 1 : Nat) : Rat) = (left : Rat) := by
        rw [mk_int, Rat.mul_assoc, hz, Rat.mul_one]
      refine ⟨left, t.length + 1, rfl, h0, by omega, by rw [List.length_cons]; omega, ?_, ?_⟩
      · refine Rat.le_of_mul_le_mul_right ?_ hn0
        rw [em, ← Rat.intCast_natCast, ← Rat.intCast_mul]
        exact Rat.intCast_le_intCast.mpr hl
      · have hx : mkRat left (t.length + 1) ≤ (x : Rat) := by
          refine Rat.le_of_mul_le_mul_right ?_ hn0
          rw [em, ← Rat.intCast_natCast, ← Rat.intCast_mul]
          exact Rat.intCast_le_intCast.mpr hc
        rw [sq_none (fun (x : Int) => (x : Rat)) _ (x :: t) (fun y hy => ?_), List.length_cons, em]
        rcases List.mem_cons.mp hy with rfl | hy
        · exact hx
        · exact Rat.le_trans hx (Rat.intCast_le_intCast.mpr (hp1 y hy))
    · rw [if_neg hc]
      have hne : t ≠ [] := by
        rintro rfl
        simp at hc hs
        omega
      have e1 : x * ((t.length + 1 : Nat) : Int) = x * (t.length : Int) + x := by rw [Int.natCast_add, Int.mul_add]; simp
      obtain ⟨L, n, e, h0, hn, hn2, hxl, hsum⟩ := lvl_ok t (left - x) x hne hp2 (by omega) (by omega) (by omega) hp1
      refine ⟨L, n, e, h0, hn, by rw [List.length_cons]; omega, Rat.le_trans (Rat.intCast_le_intCast.mpr hlx) hxl, ?_⟩
      show mn (x : Rat) (mkRat L n) + sq (t.map _) = _
      rw [hsum]
      have : mn (x : Rat) (mkRat L n) = (x : Rat) := by unfold mn; grind
      rw [this, Rat.intCast_sub]; grind
end Law34
set_option Elab.async false
set_option linter.all false
set_option maxRecDepth 100000
set_option maxHeartbeats 400000
namespace Law34
open PySem PyV
abbrev sv (v : PV) : Sl := some (v, false)
abbrev iV (n : Nat) : Sl := some (.int (n : Nat), false)
theorem up {f : Str} {args : List PV} {v : R PV} {a K : Nat} (h : ∀ k, callN PP MM 60 (k + a) f args = v) (hK : a ≤ K) : callN PP MM 60 K f args = v := by
  obtain ⟨j, rfl⟩ : ∃ j, K = j + a := ⟨K - a, by omega⟩
  exact h j
def gC (ρ : PyV.Env) : R Bool := cmpT .Gt (slot 3 ρ) (R.ok (.int 0))
def gB (ρ : PyV.Env) : SR := (SR.then (unpS ρ [2, 3] (tupE [(slot 3 ρ), (bopE .Mod (slot 2 ρ) (slot 3 ρ))]) [3, 2, 3]) fun ρ => SR.nx ρ)
theorem gB_ok (x0 x1 : Sl) (a b : Nat) (h : 0 < b) : gB [x0, x1, iV a, iV b] = .nx [x0, x1, iV b, iV (a % b)] := by
  unfold gB
  have s2 : slot 2 [x0, x1, iV a, iV b] = .ok (.int (a : Nat)) := rfl
  have s3 : slot 3 [x0, x1, iV a, iV b] = .ok (.int (b : Nat)) := rfl
  rw [s2, s3, mod_nat a b h]
  show SR.then (unpS [x0, x1, iV a, iV b] [2, 3] (R.ok (.tup [.int (b : Nat), .int ((a % b : Nat) : Int)])) [3, 2, 3]) _ = _
  rw [unp2 _ _ _ _ _ _ rfl, then_nx]
  rfl
theorem gC_ok (x0 x1 : Sl) (a b : Nat) : gC [x0, x1, iV a, iV b] = .ok (decide (0 < b)) := by
  show R.ok (decide ((0 : Int) < (b : Nat))) = _
  by_cases h : 0 < b
  · rw [decide_eq_true h, decide_eq_true (by omega)]
  · rw [decide_eq_false h, decide_eq_false (by omega)]
theorem wh_end {c : PyV.Env → R Bool} {body : PyV.Env → SR} {m : Nat} {ρ : PyV.Env} (h : c ρ = .ok false) : whileLoop c body (m + 1) ρ = .nx ρ := by
  show liftR ρ (c ρ) _ = _
  rw [h, liftR_ok, if_neg (by decide)]
theorem wh_go {c : PyV.Env → R Bool} {body : PyV.Env → SR} {m : Nat} {ρ ρ' : PyV.Env} (h : c ρ = .ok true) (hb : body ρ = .nx ρ') : whileLoop c body (m + 1) ρ = whileLoop c body m ρ' := by
  show liftR ρ (c ρ) _ = _
  rw [h, liftR_ok, if_pos rfl, hb]
theorem gcd_loop (x0 x1 : Sl) : ∀ (k a b m : Nat), b < 2 ^ k → 2 * k + 1 ≤ m → whileLoop gC gB m [x0, x1, iV a, iV b] = .nx [x0, x1, iV (Nat.gcd a b), iV 0]
  | k, a, 0, m, _, hm => by
    obtain ⟨m, rfl⟩ : ∃ j, m = j + 1 := ⟨m - 1, by omega⟩
    rw [wh_end (gC_ok x0 x1 a 0), Nat.gcd_zero_right]
  | 0, a, b + 1, m, h, _ => absurd h (by simp)
  | k + 1, a, b + 1, m, h, hm => by
    obtain ⟨m, rfl⟩ : ∃ j, m = j + 2 := ⟨m - 2, by omega⟩
    rw [wh_go (by rw [gC_ok, decide_eq_true (by omega)]) (gB_ok x0 x1 a (b + 1) (by omega))]
    have eg : Nat.gcd a (b + 1) = Nat.gcd (b + 1) (a % (b + 1)) := by rw [Nat.gcd_comm, Nat.gcd_rec, Nat.gcd_comm]
    rw [eg]
    have hlt := Nat.mod_lt a (show b + 1 > 0 by omega)
    generalize a % (b + 1) = r at hlt
    by_cases hr : r = 0
    · rw [hr, wh_end (gC_ok x0 x1 (b + 1) 0), Nat.gcd_zero_right]
    · rw [wh_go (by rw [gC_ok, decide_eq_true (by omega)]) (gB_ok x0 x1 (b + 1) r (by omega))]
      have eg2 : Nat.gcd (b + 1) r = Nat.gcd r ((b + 1) % r) := by rw [Nat.gcd_comm, Nat.gcd_rec, Nat.gcd_comm]
      rw [eg2]
      refine gcd_loop x0 x1 k r ((b + 1) % r) m ?_ (by omega)
      have h1 := Nat.mod_lt (b + 1) (show r > 0 by omega)
      have h2 := Nat.mod_add_div (b + 1) r
      have h3 : 1 ≤ (b + 1) / r := (Nat.le_div_iff_mul_le (by omega)).mpr (by omega)
      have h4 : r * 1 ≤ r * ((b + 1) / r) := Nat.mul_le_mul_left r h3
      have h5 : 2 ^ (k + 1) = 2 * 2 ^ k := by rw [Nat.pow_succ, Nat.mul_comm]
      omega
theorem div_int_nat (u : Int) (g : Nat) (h : 0 < g) (h2 : g < 1073741824) : bopE .FloorDiv (R.ok (.int u)) (R.ok (.int (g : Nat))) = .ok (.int (u / (g : Int))) := div_ok u g (by omega) (by omega)
theorem tup2 (a b : PV) : tupE [R.ok a, R.ok b] = .ok (.tup [a, b]) := rfl
theorem rv_mk (u : Int) (d : Nat) (hd : 0 < d) : rv (mkRat u d) = .tup [.int (u / (Nat.gcd u.natAbs d : Nat)), .int ((d / Nat.gcd u.natAbs d : Nat) : Int)] := by
  unfold rv
  rw [Rat.num_mkRat, Rat.den_mkRat, if_neg (by omega), if_neg (by omega), Nat.gcd_comm]
theorem gcd_lt {a d : Nat} (hd : 0 < d) (h : d < 1073741824) : 0 < Nat.gcd a d ∧ Nat.gcd a d < 1073741824 := ⟨Nat.gcd_pos_of_pos_right _ hd, Nat.lt_of_le_of_lt (Nat.gcd_le_right _ hd) h⟩
theorem low_ok (k : Nat) (u : Int) (d : Nat) (hd : 0 < d) (h : d < 1073741824) : callN PP MM 60 (k + 1) "_law_low" [.int u, .int (d : Nat)] = .ok (rv (mkRat u d)) := by
  rw [r__law_low]
  unfold b__law_low
  have a1 : bltE "abs" [R.ok (.int u)] = .ok (.int (u.natAbs : Nat)) := by
    show R.ok (PV.int (if u < 0 then -u else u)) = _
    congr 2; split <;> omega
  have a2 : bltE "abs" [R.ok (.int (d : Nat))] = .ok (.int (d : Nat)) := by
    show R.ok (PV.int (if ((d : Nat) : Int) < 0 then -((d : Nat) : Int) else ((d : Nat) : Int))) = _
    rw [if_neg (by omega)]
  have s0 : slot 0 [sv (.int u), iV d, none, none] = .ok (.int u) := rfl
  have s1 : slot 1 [sv (.int u), iV d, none, none] = .ok (.int (d : Nat)) := rfl
  rw [s0, s1, a1, a2, tup2, unp2 _ _ _ _ _ _ rfl, then_nx]
  show finS false (SR.then (whileLoop gC gB 100 [sv (.int u), iV d, iV u.natAbs, iV d]) _) = _
  rw [gcd_loop _ _ 30 _ _ _ (by omega) (by omega), then_nx]
  obtain ⟨h1, h2⟩ := gcd_lt (a := u.natAbs) hd h
  rw [rv_mk u d hd]
  generalize Nat.gcd u.natAbs d = g at *
  have t0 : slot 0 [sv (.int u), iV d, iV g, iV 0] = .ok (.int u) := rfl
  have t1 : slot 1 [sv (.int u), iV d, iV g, iV 0] = .ok (.int (d : Nat)) := rfl
  have t2 : slot 2 [sv (.int u), iV d, iV g, iV 0] = .ok (.int (g : Nat)) := rfl
  rw [t0, t1, t2, div_int_nat _ _ h1 h2, div_int_nat _ _ h1 h2, tup2, retS_ok, then_ret, finS]
  rfl
theorem quo_ok (k : Nat) (u : Nat) (d : Nat) (hd : 0 < d) (h : d < 1073741824) : callN PP MM 60 (k + 1) "_quotient" [.int (u : Nat), .int (d : Nat)] = .ok (rv (mkRat (u : Int) d)) := by
  rw [r__quotient]
  unfold b__quotient
  have s0 : slot 0 [iV u, iV d, none, none] = .ok (.int (u : Nat)) := rfl
  have s1 : slot 1 [iV u, iV d, none, none] = .ok (.int (d : Nat)) := rfl
  rw [s0, s1, tup2, unp2 _ _ _ _ _ _ rfl, then_nx]
  show finS false (SR.then (whileLoop gC gB 100 [iV u, iV d, iV u, iV d]) _) = _
  rw [gcd_loop _ _ 30 _ _ _ (by omega) (by omega), then_nx]
  obtain ⟨h1, h2⟩ := gcd_lt (a := u) hd h
  rw [rv_mk _ d hd, Int.natAbs_natCast]
  generalize Nat.gcd u d = g at *
  have t0 : slot 0 [iV u, iV d, iV g, iV 0] = .ok (.int (u : Nat)) := rfl
  have t1 : slot 1 [iV u, iV d, iV g, iV 0] = .ok (.int (d : Nat)) := rfl
  have t2 : slot 2 [iV u, iV d, iV g, iV 0] = .ok (.int (g : Nat)) := rfl
  rw [t0, t1, t2, div_int_nat _ _ h1 h2, div_int_nat _ _ h1 h2, tup2, retS_ok, then_ret, finS]
  rfl
theorem quo_okI (k : Nat) (u : Int) (hu : 0 ≤ u) (d : Nat) (hd : 0 < d) (h : d < 1073741824) : callN PP MM 60 (k + 1) "_quotient" [.int u, .int (d : Nat)] = .ok (rv (mkRat u d)) := by
  obtain ⟨n, rfl⟩ : ∃ n : Nat, u = n := ⟨u.toNat, by omega⟩
  exact quo_ok k n d hd h
/-! ### sums and order -/
theorem cmul_r (a : Int) (d : Nat) (h : d < 100000) : cMul a (d : Int) := .inr ⟨by omega, by omega⟩
theorem cmul_l (a : Int) (d : Nat) (h : d < 100000) : cMul (d : Int) a := .inl ⟨by omega, by omega⟩
def pv (u : Int) (d : Nat) : PV := .tup [.int u, .int (d : Nat)]
theorem pv0 (u : Int) (d : Nat) : ixE (R.ok (pv u d)) (R.ok (.int 0)) = .ok (.int u) := rfl
theorem pv1 (u : Int) (d : Nat) : ixE (R.ok (pv u d)) (R.ok (.int 1)) = .ok (.int (d : Nat)) := rfl
theorem rv0 (q : Rat) : ixE (R.ok (rv q)) (R.ok (.int 0)) = .ok (.int q.num) := rfl
theorem rv1 (q : Rat) : ixE (R.ok (rv q)) (R.ok (.int 1)) = .ok (.int (q.den : Nat)) := rfl
theorem plus_pv (k : Nat) (u v : Int) (c d : Nat) (hc : 0 < c) (hc2 : c < 32768) (hd : 0 < d) (hd2 : d < 32768) : callN PP MM 60 (k + 2) "_law_plus" [pv u c, pv v d] = .ok (rv (mkRat u c + mkRat v d)) := by
  rw [r__law_plus]
  unfold b__law_plus
  have s0 : slot 0 [sv (pv u c), sv (pv v d)] = .ok (pv u c) := rfl
  have s1 : slot 1 [sv (pv u c), sv (pv v d)] = .ok (pv v d) := rfl
  rw [s0, s1, pv0, pv1, pv0, pv1, mul_ok _ _ (cmul_r u d (by omega)), mul_ok _ _ (cmul_r v c (by omega)), mul_ok _ _ (cmul_r c d (by omega)), bopE_add, own2]
  have hm : c * d < 32768 * 32768 := Nat.mul_lt_mul'' hc2 hd2
  rw [show ((c : Nat) : Int) * ((d : Nat) : Int) = ((c * d : Nat) : Int) by rw [Int.natCast_mul]]
  rw [show callN PP MM 60 (k + 1) (Str.ofString "_law_low") [.int (u * (d : Int) + v * (c : Int)), .int ((c * d : Nat) : Int)] = _ from low_ok k _ (c * d) (Nat.mul_pos hc hd) (by omega)]
  rw [Rat.mkRat_add_mkRat _ _ (by omega) (by omega), retS_ok, then_ret, finS_ret]
theorem plus_ok (k : Nat) (a b : Rat) (ha : a.den < 32768) (hb : b.den < 32768) : callN PP MM 60 (k + 2) "_law_plus" [rv a, rv b] = .ok (rv (a + b)) := by
  have := plus_pv k a.num b.num a.den b.den (den_pos a) ha (den_pos b) hb
  rw [Rat.mkRat_self, Rat.mkRat_self] at this
  exact this
theorem less_ok (k : Nat) (a b : Rat) (ha : a.den < 32768) (hb : b.den < 32768) : callN PP MM 60 (k + 1) "_law_less" [rv a, rv b] = .ok (.bl (decide (a < b))) := by
  rw [r__law_less]
  unfold b__law_less
  have s0 : slot 0 [sv (rv a), sv (rv b)] = .ok (rv a) := rfl
  have s1 : slot 1 [sv (rv a), sv (rv b)] = .ok (rv b) := rfl
  rw [s0, s1, rv0, rv1, rv0, rv1, mul_ok _ _ (cmul_r _ _ (by omega)), mul_ok _ _ (cmul_r _ _ (by omega))]
  show finS false (SR.then (retS _ (R.ok (.bl (decide (a.num * (b.den : Int) < b.num * (a.den : Int))))) true) _) = _
  rw [retS_ok, then_ret]
  have : decide (a.num * (b.den : Int) < b.num * (a.den : Int)) = decide (a < b) := by
    rw [Bool.eq_iff_iff, decide_eq_true_iff, decide_eq_true_iff, Rat.lt_iff]
  rw [this]; rfl
theorem pure_rv (q : Rat) : isPure (rv q) = true := rfl
theorem data_rv (q : Rat) : isData (rv q) = true := rfl
theorem rv_int (a : Int) : rv (a : Rat) = .tup [.int a, .int 1] := rfl
end Law34
set_option Elab.async false
set_option linter.all false
set_option maxRecDepth 100000
set_option maxHeartbeats 400000
namespace Law34
open PySem PyV
/-! ### what is checked -/
def isWhole (hi : Int) : PV → Bool
  | .int i => decide (0 ≤ i) && decide (i ≤ hi)
  | _ => false
def flat : PV → Bool
  | .non => true | .bl _ => true | .int _ => true | .str _ => true | _ => false
theorem whole_ok (k : Nat) (v : PV) (hi : Int) (h : flat v = true) : callN PP MM 60 (k + 1) "is_whole" [v, .int 0, .int hi] = .ok (.bl (isWhole hi v)) := by
  rw [r_is_whole]
  cases v <;> first | cases h; done | simp [b_is_whole, slot, typeIs, ofOpt, isWhole, finS]
theorem allInts_ints : ∀ l : List Int, allInts (l.map PV.int) = some l
  | [] => rfl
  | x :: l => by show (allInts (l.map PV.int)).map (x :: ·) = _; rw [allInts_ints l]; rfl
theorem sum_ints (l : List Int) : bltE "sum" [R.ok (.tup (l.map PV.int))] = .ok (.int l.sum) := by
  show ofOpt ((allInts (l.map PV.int)).map fun ns => PV.int ns.sum) = _
  rw [allInts_ints]; rfl
/-- the first two tests pass -/
def lenB : PV → Bool
  | .tup xs => decide (1 ≤ xs.length) && decide (xs.length ≤ 8)
  | _ => false
def cL (v : PV) (K : Nat) (ρ : PyV.Env) : R PV := (compE false (itmI (slot 1 ρ)) (fun x => bind1 3 x (wipes ρ [2, 3])) (fun ρ => noIf) (fun ρ => (ownE (callN PP MM 60 K) "is_whole" 3 [(slot 3 ρ), (R.ok (.int 0)), (R.ok c_MOST_CLAIM)])))
theorem cL_ok (k : Nat) (E : Sl) (vs : List PV) (h : ∀ v ∈ vs, flat v = true) : cL (.tup vs) (k + 1) [E, sv (.tup vs), none, none] = .ok (.lst ((vs.map (isWhole 100)).map PV.bl)) := by
  unfold cL
  rw [List.map_map]
  refine compE_map _ rfl (.inr rfl) fun x hx => ?_
  rw [bind1_b]
  have s3 : slot 3 ((wipes [E, sv (.tup vs), none, none] [2, 3]).set 3 (some (x, false))) = .ok x := rfl
  rw [s3, own3]
  exact whole_ok k x 100 (h x hx)
theorem check1 (k : Nat) (E v : PV) (h : lenB v = false) (hf : flat v = true ∨ (∃ xs, v = .tup xs) ∨ ∃ xs, v = .lst xs) : callN PP MM 60 (k + 1) "_check" [E, v] = .exc "BadClaims" [] := by
  rw [r__check]
  unfold b__check
  have s1 : slot 1 [sv E, sv v, none, none] = .ok v := rfl
  rw [s1]
  have e : (orT (notT (truT (isiE "tuple" (R.ok v)))) (notT (cmp2T .LtE .LtE (R.ok (.int 1)) (bltE "len" [R.ok v]) (R.ok c_MOST_CLAIMS)))) = .ok true := by
    rcases hf with hf | ⟨xs, rfl⟩ | ⟨xs, rfl⟩
    · cases v <;> first | cases hf; done | rfl
    · rw [isT_tup, nT_t, oT_f, len_tup]
      have : cmp2T .LtE .LtE (R.ok (.int 1)) (R.ok (.int (xs.length : Nat))) (R.ok c_MOST_CLAIMS) = .ok false := by
        refine le2_f ?_
        have : ¬ (1 ≤ xs.length ∧ xs.length ≤ 8) := by
          intro hh
          have : (decide (1 ≤ xs.length) && decide (xs.length ≤ 8)) = false := h
          rw [decide_eq_true hh.1, decide_eq_true hh.2] at this
          cases this
        omega
      rw [this]; rfl
    · rfl
  rw [e, iS_t, then_exc, then_exc, finS_exc]
theorem check_len (xs : List PV) (h : 1 ≤ xs.length) (h2 : xs.length ≤ 8) : (orT (notT (truT (isiE "tuple" (R.ok (.tup xs))))) (notT (cmp2T .LtE .LtE (R.ok (.int 1)) (bltE "len" [R.ok (.tup xs)]) (R.ok c_MOST_CLAIMS)))) = .ok false := by
  rw [isT_tup, nT_t, oT_f, len_tup]
  have : cmp2T .LtE .LtE (R.ok (.int 1)) (R.ok (.int (xs.length : Nat))) (R.ok c_MOST_CLAIMS) = .ok true := le2_t ⟨by omega, by omega⟩
  rw [this]; rfl
theorem check2 (k : Nat) (E : PV) (vs : List PV) (h1 : 1 ≤ vs.length) (h2 : vs.length ≤ 8) (hf : ∀ v ∈ vs, flat v = true) (h : vs.all (isWhole 100) = false) : callN PP MM 60 (k + 2) "_check" [E, .tup vs] = .exc "BadClaims" [] := by
  rw [r__check]
  unfold b__check
  have s1 : slot 1 [sv E, sv (.tup vs), none, none] = .ok (.tup vs) := rfl
  rw [s1, check_len vs h1 h2, iS_f, then_nx]
  have e := cL_ok k (sv E) vs hf
  unfold cL at e
  rw [s1] at e
  rw [s1, e, all_bl, List.all_map, show (vs.all (id ∘ isWhole 100)) = false from h, truT_b, nT_f, iS_t, then_exc, then_exc, finS_exc]
theorem check3 (k : Nat) (E : PV) (ls : List Int) (h1 : 1 ≤ ls.length) (h2 : ls.length ≤ 8) (hc : ∀ x ∈ ls, 0 ≤ x ∧ x ≤ 100) (hE : flat E = true) : callN PP MM 60 (k + 2) "_check" [E, .tup (ls.map PV.int)] = if isWhole ls.sum E = true then .ok .non else .exc "BadEstate" [] := by
  rw [r__check]
  unfold b__check
  have s1 : slot 1 [sv E, sv (.tup (ls.map PV.int)), none, none] = .ok (.tup (ls.map PV.int)) := rfl
  have s0 : slot 0 [sv E, sv (.tup (ls.map PV.int)), none, none] = .ok E := rfl
  rw [s1, check_len _ (by rw [List.length_map]; omega) (by rw [List.length_map]; omega), iS_f, then_nx]
  have e := cL_ok k (sv E) (ls.map PV.int) (fun v hv => by obtain ⟨z, _, rfl⟩ := List.mem_map.mp hv; rfl)
  unfold cL at e
  rw [s1] at e
  have ha : (ls.map PV.int).all (isWhole 100) = true := by
    rw [List.all_eq_true]
    intro v hv
    obtain ⟨z, hz, rfl⟩ := List.mem_map.mp hv
    have := hc z hz
    show (decide _ && decide _) = true
    rw [decide_eq_true this.1, decide_eq_true this.2]; rfl
  rw [s1, e, all_bl, List.all_map, show ((ls.map PV.int).all (id ∘ isWhole 100)) = true from ha, truT_b, nT_t, iS_f, then_nx, s0, s1, sum_ints, own3,
    show callN PP MM 60 (k + 1) (Str.ofString "is_whole") [E, .int 0, .int ls.sum] = _ from whole_ok k E ls.sum hE, truT_b]
  cases isWhole ls.sum E
  · rw [nT_f, iS_t, then_exc, then_exc, finS_exc, if_neg (by decide)]
  · rw [nT_t, iS_f, then_nx, finS_nx, if_pos rfl]
theorem check_good (k : Nat) (E : Int) (ls : List Int) (h1 : 1 ≤ ls.length) (h2 : ls.length ≤ 8) (hc : ∀ x ∈ ls, 0 ≤ x ∧ x ≤ 100) (h0 : 0 ≤ E) (hs : E ≤ ls.sum) : callN PP MM 60 (k + 2) "_check" [.int E, .tup (ls.map PV.int)] = .ok .non := by
  rw [check3 k _ ls h1 h2 hc rfl, if_pos]
  show (decide _ && decide _) = true
  rw [decide_eq_true h0, decide_eq_true hs]; rfl
/-! ### words of errors -/
theorem gains_exc {k : Nat} {E v : PV} {c : Str} {fs : List (Str × PV)} (h : callN PP MM 60 k "_check" [E, v] = .exc c fs) : callN PP MM 60 (k + 1) "equal_gains" [E, v] = .exc c fs := by
  rw [r_equal_gains]
  unfold b_equal_gains
  have s0 : slot 0 [sv E, sv v] = .ok E := rfl
  have s1 : slot 1 [sv E, sv v] = .ok v := rfl
  rw [s0, s1, own2, show callN PP MM 60 k (Str.ofString "_check") [E, v] = _ from h, callS_exc, then_exc, finS_exc]
theorem losses_exc {k : Nat} {E v : PV} {c : Str} {fs : List (Str × PV)} (h : callN PP MM 60 k "_check" [E, v] = .exc c fs) : callN PP MM 60 (k + 1) "equal_losses" [E, v] = .exc c fs := by
  rw [r_equal_losses]
  unfold b_equal_losses
  have s0 : slot 0 [sv E, sv v] = .ok E := rfl
  have s1 : slot 1 [sv E, sv v] = .ok v := rfl
  rw [s0, s1, own2, show callN PP MM 60 k (Str.ofString "_check") [E, v] = _ from h, callS_exc, then_exc, finS_exc]
theorem half_exc {k : Nat} {E v : PV} {c : Str} {fs : List (Str × PV)} (h : callN PP MM 60 k "_check" [E, v] = .exc c fs) : callN PP MM 60 (k + 1) "half_rule" [E, v] = .exc c fs := by
  rw [r_half_rule]
  unfold b_half_rule
  have s0 : slot 0 [sv E, sv v, none] = .ok E := rfl
  have s0 : slot 0 [sv E, sv v] = .ok E := rfl
  have s1 : slot 1 [sv E, sv v] = .ok v := rfl
  rw [s0, s1, own2, show callN PP MM 60 k (Str.ofString "_check") [E, v] = _ from h, callS_exc, then_exc, finS_exc]
def cWord : PV := .str [99, 108, 97, 105, 109, 115]
def eWord : PV := .str [101, 115, 116, 97, 116, 101]
theorem cat_c (ρ : PyV.Env) : (catS PP "BadClaims" "BadClaims" (SR.ret cWord true) (catS PP "BadClaims" "BadEstate" (SR.ret eWord true) (SR.exc "BadClaims" [] ρ))) = .ret cWord true := by
  unfold catS
  rfl
theorem cat_e (ρ : PyV.Env) : (catS PP "BadEstate" "BadClaims" (SR.ret cWord true) (catS PP "BadEstate" "BadEstate" (SR.ret eWord true) (SR.exc "BadEstate" [] ρ))) = .ret eWord true := by
  unfold catS
  rfl
theorem word_c (k : Nat) (w : Nat) (hw : w < 3) (E v : PV) (h : callN PP MM 60 k "_check" [E, v] = .exc "BadClaims" []) : callN PP MM 60 (k + 2) "_law_word" [.int (w : Nat), E, v] = .ok cWord := by
  rw [r__law_word]
  unfold b__law_word
  have s0 : slot 0 [iV w, sv E, sv v] = .ok (.int (w : Nat)) := rfl
  have s1 : slot 1 [iV w, sv E, sv v] = .ok E := rfl
  have s2 : slot 2 [iV w, sv E, sv v] = .ok v := rfl
  have e0 : ownE (callN PP MM 60 (k + 1)) "equal_gains" 2 [R.ok E, R.ok v] = .exc "BadClaims" [] := by rw [own2]; exact gains_exc h
  have e1 : ownE (callN PP MM 60 (k + 1)) "equal_losses" 2 [R.ok E, R.ok v] = .exc "BadClaims" [] := by rw [own2]; exact losses_exc h
  have e2 : ownE (callN PP MM 60 (k + 1)) "half_rule" 2 [R.ok E, R.ok v] = .exc "BadClaims" [] := by rw [own2]; exact half_exc h
  rw [s0, s1, s2, e0, e1, e2]
  rcases (by omega : w = 0 ∨ w = 1 ∨ w = 2) with rfl | rfl | rfl <;> rfl
theorem word_e (k : Nat) (w : Nat) (hw : w < 3) (E v : PV) (h : callN PP MM 60 k "_check" [E, v] = .exc "BadEstate" []) : callN PP MM 60 (k + 2) "_law_word" [.int (w : Nat), E, v] = .ok eWord := by
  rw [r__law_word]
  unfold b__law_word
  have s0 : slot 0 [iV w, sv E, sv v] = .ok (.int (w : Nat)) := rfl
  have s1 : slot 1 [iV w, sv E, sv v] = .ok E := rfl
  have s2 : slot 2 [iV w, sv E, sv v] = .ok v := rfl
  have e0 : ownE (callN PP MM 60 (k + 1)) "equal_gains" 2 [R.ok E, R.ok v] = .exc "BadEstate" [] := by rw [own2]; exact gains_exc h
  have e1 : ownE (callN PP MM 60 (k + 1)) "equal_losses" 2 [R.ok E, R.ok v] = .exc "BadEstate" [] := by rw [own2]; exact losses_exc h
  have e2 : ownE (callN PP MM 60 (k + 1)) "half_rule" 2 [R.ok E, R.ok v] = .exc "BadEstate" [] := by rw [own2]; exact half_exc h
  rw [s0, s1, s2, e0, e1, e2]
  rcases (by omega : w = 0 ∨ w = 1 ∨ w = 2) with rfl | rfl | rfl <;> rfl
end Law34
set_option Elab.async false
set_option linter.all false
set_option maxRecDepth 100000
set_option maxHeartbeats 400000
namespace Law34
open PySem PyV
/-! ### equal gains -/
def gaB (call : Str → List PV → R PV) (ρ : PyV.Env) : SR :=
  (SR.then (ifS ρ (andT (cmpT .Is (slot 4 ρ) (R.ok (.non))) (cmpT .GtE (bopE .Mult (slot 5 ρ) (slot 3 ρ)) (slot 2 ρ)))
    (SR.then (setS ρ 4 (ownE call "_quotient" 2 [(slot 2 ρ), (slot 3 ρ)]) false [2, 3]) fun ρ =>
      SR.nx ρ)
    (SR.nx ρ)) fun ρ =>
    SR.then (augS ρ 2 .Sub (slot 5 ρ)) fun ρ =>
    SR.then (augS ρ 3 .Sub (R.ok (.int 1))) fun ρ =>
    SR.nx ρ)
abbrev EG (x0 x1 : Sl) (left rest : Int) (lv : PV) (x5 : Sl) : PyV.Env := [x0, x1, sv (.int left), sv (.int rest), sv lv, x5, none]
theorem ga_tail (x0 x1 : Sl) (left rest x : Int) (lv : PV) : (SR.then (augS (EG x0 x1 left rest lv (sv (.int x))) 2 .Sub (slot 5 (EG x0 x1 left rest lv (sv (.int x))))) fun ρ =>
    SR.then (augS ρ 3 .Sub (R.ok (.int 1))) fun ρ =>
    SR.nx ρ) = .nx (EG x0 x1 (left - x) (rest - 1) lv (sv (.int x))) := rfl
theorem ga_some (call : Str → List PV → R PV) (x0 x1 : Sl) (q : Rat) : ∀ (s : List Int) (left rest : Int) (x5 : Sl), ∃ left' rest' x5', forLoop (fun x ρ => liftR ρ (bind1 5 x ρ) (gaB call)) (s.map PV.int) (EG x0 x1 left rest (rv q) x5) = .nx (EG x0 x1 left' rest' (rv q) x5')
  | [], left, rest, x5 => ⟨left, rest, x5, rfl⟩
  | x :: s, left, rest, x5 => by
    obtain ⟨l, r, y, e⟩ := ga_some call x0 x1 q s (left - x) (rest - 1) (sv (.int x))
    refine ⟨l, r, y, ?_⟩
    rw [List.map_cons, forLoop_cons, e]
    rw [liftR_bind1]
    have es : (EG x0 x1 left rest (rv q) x5).set 5 (some (PV.int x, false)) = EG x0 x1 left rest (rv q) (sv (.int x)) := rfl
    rw [es]
    unfold gaB
    have e4 : (andT (cmpT .Is (slot 4 (EG x0 x1 left rest (rv q) (sv (.int x)))) (R.ok (.non))) (cmpT .GtE (bopE .Mult (slot 5 (EG x0 x1 left rest (rv q) (sv (.int x)))) (slot 3 (EG x0 x1 left rest (rv q) (sv (.int x))))) (slot 2 (EG x0 x1 left rest (rv q) (sv (.int x)))))) = .ok false := rfl
    rw [e4, iS_f, then_nx]
    exact ga_tail x0 x1 left rest x (rv q)
theorem ga_none (K : Nat) (x0 x1 : Sl) : ∀ (s : List Int) (left : Int) (x5 : Sl) (L : Int) (n : Nat), lvl s left = some (L, n) → 0 ≤ L → s.length ≤ 1000 →
    ∃ left' rest' x5', forLoop (fun x ρ => liftR ρ (bind1 5 x ρ) (gaB (callN PP MM 60 (K + 1)))) (s.map PV.int) (EG x0 x1 left (s.length : Nat) .non x5) = .nx (EG x0 x1 left' rest' (rv (mkRat L n)) x5')
  | [], _, _, _, _, h, _, _ => by cases h
  | x :: s, left, x5, L, n, h, h0, hl => by
    rw [List.length_cons] at hl
    have es : (EG x0 x1 left ((x :: s).length : Nat) .non x5).set 5 (some (PV.int x, false)) = EG x0 x1 left ((s.length + 1 : Nat) : Int) .non (sv (.int x)) := rfl
    have ec : (andT (cmpT .Is (slot 4 (EG x0 x1 left ((s.length + 1 : Nat) : Int) .non (sv (.int x)))) (R.ok (.non))) (cmpT .GtE (bopE .Mult (slot 5 (EG x0 x1 left ((s.length + 1 : Nat) : Int) .non (sv (.int x)))) (slot 3 (EG x0 x1 left ((s.length + 1 : Nat) : Int) .non (sv (.int x))))) (slot 2 (EG x0 x1 left ((s.length + 1 : Nat) : Int) .non (sv (.int x)))))) = .ok (decide (left ≤ x * ((s.length + 1 : Nat) : Int))) := by
      rw [show slot 4 (EG x0 x1 left ((s.length + 1 : Nat) : Int) .non (sv (.int x))) = .ok .non from rfl, show slot 5 (EG x0 x1 left ((s.length + 1 : Nat) : Int) .non (sv (.int x))) = .ok (.int x) from rfl, show slot 3 (EG x0 x1 left ((s.length + 1 : Nat) : Int) .non (sv (.int x))) = .ok (.int ((s.length + 1 : Nat) : Int)) from rfl, show slot 2 (EG x0 x1 left ((s.length + 1 : Nat) : Int) .non (sv (.int x))) = .ok (.int left) from rfl,
        mul_ok _ _ (cmul_r x (s.length + 1) (by omega)), show cmpT .Is (R.ok .non) (R.ok .non) = .ok true from rfl, aT_t, cmpT_ge]
    unfold lvl at h
    by_cases hc : left ≤ x * ((s.length + 1 : Nat) : Int)
    · rw [if_pos hc] at h
      have hL : left = L := by injection h with h; injection h
      have hn : s.length + 1 = n := by injection h with h; injection h
      obtain ⟨l, r, y, e⟩ := ga_some (callN PP MM 60 (K + 1)) x0 x1 (mkRat L n) s (left - x) (((s.length + 1 : Nat) : Int) - 1) (sv (.int x))
      refine ⟨l, r, y, ?_⟩
      rw [List.map_cons, forLoop_cons, e]
      rw [liftR_bind1, es]
      unfold gaB
      rw [ec, decide_eq_true hc, iS_t]
      have eq : setS (EG x0 x1 left ((s.length + 1 : Nat) : Int) .non (sv (.int x))) 4 (ownE (callN PP MM 60 (K + 1)) "_quotient" 2 [(slot 2 (EG x0 x1 left ((s.length + 1 : Nat) : Int) .non (sv (.int x)))), (slot 3 (EG x0 x1 left ((s.length + 1 : Nat) : Int) .non (sv (.int x))))]) false [2, 3] = .nx (EG x0 x1 left ((s.length + 1 : Nat) : Int) (rv (mkRat L n)) (sv (.int x))) := by
        rw [show slot 3 (EG x0 x1 left ((s.length + 1 : Nat) : Int) .non (sv (.int x))) = .ok (.int ((s.length + 1 : Nat) : Int)) from rfl, show slot 2 (EG x0 x1 left ((s.length + 1 : Nat) : Int) .non (sv (.int x))) = .ok (.int left) from rfl, own2,
          show callN PP MM 60 (K + 1) (Str.ofString "_quotient") [.int left, .int ((s.length + 1 : Nat) : Int)] = _ from quo_okI K left (by omega) (s.length + 1) (by omega) (by omega), setS_pure _ _ _ _ _ (pure_rv _), hL, hn]
        rfl
      rw [eq, then_nx, then_nx]
      exact ga_tail x0 x1 left _ x _
    · rw [if_neg hc] at h
      obtain ⟨l, r, y, e⟩ := ga_none K x0 x1 s (left - x) (sv (.int x)) L n h h0 (by omega)
      refine ⟨l, r, y, ?_⟩
      rw [List.map_cons, forLoop_cons, e]
      rw [liftR_bind1, es]
      unfold gaB
      rw [ec, decide_eq_false hc, iS_f, then_nx]
      have e3 : ((s.length + 1 : Nat) : Int) - 1 = (s.length : Int) := by omega
      have := ga_tail x0 x1 left ((s.length + 1 : Nat) : Int) x .non
      rw [e3] at this
      exact this
theorem sortI_sorted (l : List Int) : (sortI l).Pairwise (· ≤ ·) := (srtB_sorted swo_I l).imp fun {x y} h => by
  have : ltI y x = false := h
  have : ¬ y < x := of_decide_eq_false (p := y < x) this
  omega
theorem sortI_perm (l : List Int) : (sortI l).Perm l := srtB_perm ltI l
theorem sortedT (l : List Int) : bltE "sorted" [R.ok (.tup (l.map PV.int))] = .ok (.lst ((sortI l).map PV.int)) := by
  show ofOpt ((allInts (l.map PV.int)).map fun ns => PV.lst ((sortI ns).map PV.int)) = _
  rw [allInts_ints]; rfl
theorem mn_less (c : Int) (q : Rat) (hd : q.den < 32768) : ifE (cmpT .Lt (R.ok (.int q.num)) (bopE .Mult (R.ok (.int c)) (R.ok (.int (q.den : Nat))))) (R.ok (rv q)) (tupE [(R.ok (.int c)), (R.ok (.int 1))]) = .ok (rv (mn (c : Rat) q)) := by
  rw [mul_ok _ _ (cmul_r c q.den (by omega)), cmpT_lt, tup2]
  unfold mn
  by_cases h : q < (c : Rat)
  · rw [if_pos h]
    have := (Rat.lt_iff _ _).mp h
    rw [Rat.num_intCast, Rat.den_intCast] at this
    rw [decide_eq_true (by omega), iE_t]
  · rw [if_neg h]
    have : ¬ q.num < c * (q.den : Int) := by
      intro hh; apply h; rw [Rat.lt_iff, Rat.num_intCast, Rat.den_intCast]; omega
    rw [decide_eq_false this, iE_f]; rfl
theorem sum_perm {l m : List Int} (h : l.Perm m) : l.sum = m.sum := by
  induction h with
  | nil => rfl
  | cons x _ ih => rw [List.sum_cons, List.sum_cons, ih]
  | swap x y l => simp only [List.sum_cons]; omega
  | trans _ _ a b => exact a.trans b
/-- 840 times it is a whole number -/
def Yf (q : Rat) : Prop := ∃ m : Int, q * 840 = (m : Rat)
theorem Yf.int (a : Int) : Yf (a : Rat) := ⟨a * 840, by rw [Rat.intCast_mul]; rfl⟩
theorem Yf.z {q : Rat} (h : Yf q) : Zf q := by
  obtain ⟨m, e⟩ := h
  refine ⟨m * 2, ?_⟩
  rw [Rat.intCast_mul, ← e]
  have : ((2 : Int) : Rat) = 2 := rfl
  rw [this]; grind
theorem half_mul : inv1 2 * 2 = 1 := inv1_mul (n := 2) (by omega)
theorem Yf.half {q : Rat} (h : Yf q) : Zf (q * inv1 2) := by
  obtain ⟨m, e⟩ := h
  refine ⟨m, ?_⟩
  rw [← e]
  have := half_mul
  grind
theorem Yf.mn {a b : Rat} (ha : Yf a) (hb : Yf b) : Yf (mn a b) := by rcases mn_cases a b with e | e <;> rw [e] <;> assumption
theorem Yf.part (L : Int) {n : Nat} (h0 : 0 < n) (h8 : n ≤ 8) : Yf (mkRat L n) := by
  have ht : 840 = n * (840 / n) := by
    have : ∀ n, n < 9 → 0 < n → 840 = n * (840 / n) := by decide
    exact this n (by omega) h0
  refine ⟨L * ((840 / n : Nat) : Int), ?_⟩
  have hn := inv1_mul h0
  have e1 : ((840 : Nat) : Rat) = (n : Rat) * ((840 / n : Nat) : Rat) := by rw [← Rat.natCast_mul, ← ht]
  have e2 : ((840 : Nat) : Rat) = 840 := rfl
  rw [mk_int, Rat.intCast_mul, Rat.intCast_natCast]
  rw [e2] at e1
  generalize ((840 / n : Nat) : Rat) = t at *
  generalize (n : Rat) = z at *
  rw [e1]
  have : (L : Rat) * inv1 n * (z * t) = (L : Rat) * (inv1 n * z) * t := by grind
  rw [this, hn]; grind
theorem gains_ok {α : Type} (l : List α) (c : α → Int) (hl : 1 ≤ l.length ∧ l.length ≤ 8) (hc : ∀ k ∈ l, 0 ≤ c k ∧ c k ≤ 100) (E : Int) (h0 : 0 ≤ E) (hs : E ≤ (l.map c).sum) :
    ∃ q : Rat, 0 ≤ q ∧ Yf q ∧ sq (l.map fun k => mn (c k : Rat) q) = (E : Rat) ∧ ∀ K, callN PP MM 60 (K + 2) "_gains" [.int E, .tup (l.map fun k => .int (c k))] = .ok (.lst (l.map fun k => rv (mn (c k : Rat) q))) := by
  have hp := sortI_perm (l.map c)
  have hlen := hp.length_eq
  rw [List.length_map] at hlen
  obtain ⟨L, n, e, hL, hn, hn2, hq, hsum⟩ := lvl_ok (sortI (l.map c)) E 0 (by intro h; rw [h] at hlen; simp at hlen; omega) (sortI_sorted _) (by omega) (by rw [sum_perm hp]; exact hs) (by omega) (by
    intro x hx
    obtain ⟨k, hk, rfl⟩ := List.mem_map.mp (hp.mem_iff.mp hx)
    exact (hc k hk).1)
  have hden : (mkRat L n).den < 32768 := by
    rw [Rat.den_mkRat, if_neg (by omega)]
    have := Nat.div_le_self n (n.gcd L.natAbs)
    omega
  refine ⟨mkRat L n, hq, Yf.part L hn (by omega), ?_, fun K => ?_⟩
  · rw [← hsum, sq_perm (hp.map _), List.map_map]; rfl
  · have em : (l.map fun k => PV.int (c k)) = (l.map c).map PV.int := by rw [List.map_map]; rfl
    rw [r__gains]
    unfold b__gains
    generalize ecl : PV.tup (l.map fun k => PV.int (c k)) = cl
    have s0 : slot 0 [sv (.int E), sv cl, none, none, none, none, none] = .ok (.int E) := rfl
    have s1 : slot 1 [sv (.int E), sv cl, none, none, none, none, none] = .ok cl := rfl
    have el : bltE "len" [R.ok cl] = .ok (.int ((sortI (l.map c)).length : Nat)) := by rw [← ecl, len_tup, List.length_map, hlen]
    rw [s0, s1, el, tup2, unp2 _ _ _ _ _ _ rfl, then_nx, setS_pure _ _ _ _ _ rfl, then_nx]
    show finS false (SR.then (forG (EG (sv (.int E)) (sv cl) E ((sortI (l.map c)).length : Nat) .non none) (bltE "sorted" [R.ok cl]) true true [1] (fun x ρ => bind1 5 x ρ) (gaB (callN PP MM 60 (K + 1)))) _) = _
    have eso : bltE "sorted" [R.ok cl] = .ok (.lst ((sortI (l.map c)).map PV.int)) := by rw [← ecl, em, sortedT]
    unfold forG
    rw [eso, liftR_ok, show items (.lst ((sortI (l.map c)).map PV.int)) = .ok ((sortI (l.map c)).map PV.int) from rfl, liftR_ok, if_pos (by rw [Bool.or_true]), if_pos (arePure_ints _)]
    obtain ⟨l', r', x', ef⟩ := ga_none K (sv (.int E)) (sv cl) (sortI (l.map c)) E none L n e hL (by omega)
    rw [ef, then_nx]
    have ec : ∀ ρ : PyV.Env, ρ = EG (sv (.int E)) (sv cl) l' r' (rv (mkRat L n)) x' → (compE false (itmI (slot 1 ρ)) (fun x => bind1 5 x (wipes ρ [6, 5])) (fun ρ => noIf) (fun ρ => (ifE (cmpT .Lt (ixE (slot 4 ρ) (R.ok (.int 0))) (bopE .Mult (slot 5 ρ) (ixE (slot 4 ρ) (R.ok (.int 1))))) (slot 4 ρ) (tupE [(slot 5 ρ), (R.ok (.int 1))])))) = .ok (.lst (l.map fun k => rv (mn (c k : Rat) (mkRat L n)))) := by
      rintro ρ rfl
      refine compE_L (fun k => PV.int (c k)) _ (by rw [← ecl]; rfl) (.inr rfl) fun k hk => ?_
      rw [bind1_b]
      generalize eρ : (wipes (EG (sv (.int E)) (sv cl) l' r' (rv (mkRat L n)) x') [6, 5]).set 5 (some (PV.int (c k), false)) = ρ
      have t4 : slot 4 ρ = .ok (rv (mkRat L n)) := by rw [← eρ]; rfl
      have t5 : slot 5 ρ = .ok (.int (c k)) := by rw [← eρ]; rfl
      rw [t4, t5, rv0, rv1]
      exact mn_less (c k) _ hden
    rw [ec _ rfl, retS_ok, then_ret]
    unfold finS
    rfl
end Law34
set_option Elab.async false
set_option linter.all false
set_option maxRecDepth 100000
set_option maxHeartbeats 400000
namespace Law34
open PySem PyV
/-! ### the program's rules -/
theorem mul2 (a : Int) : bopE .Mult (R.ok (.int 2)) (R.ok (.int a)) = .ok (.int (2 * a)) := mul_ok 2 a (cmul_l a 2 (by omega))
section
variable {α : Type}
abbrev cT (l : List α) (c : α → Int) : PV := .tup (l.map fun k => .int (c k))
abbrev qL (l : List α) (g : α → Rat) : PV := .lst (l.map fun k => rv (g k))
abbrev qT (l : List α) (g : α → Rat) : PV := .tup (l.map fun k => rv (g k))
theorem zip_map2 (f g : α → PV) : ∀ l : List α, zipL (l.map f) (l.map g) = l.map fun k => .tup [f k, g k]
  | [] => rfl
  | k :: l => by
    show PV.tup [f k, g k] :: zipL (l.map f) (l.map g) = _
    rw [zip_map2 f g l]; rfl
theorem less_num (c : Int) (g : Rat) (h : g ≤ (c : Rat)) : 0 ≤ c * (g.den : Int) - g.num ∧ mkRat (c * (g.den : Int) - g.num) g.den = (c : Rat) - g := by
  refine ⟨?_, ?_⟩
  · have := (Rat.le_iff _ _).mp h
    rw [Rat.num_intCast, Rat.den_intCast] at this
    omega
  · rw [Rat.sub_def', Rat.num_intCast, Rat.den_intCast]
    simp
theorem pless_ok (K : Nat) (l : List α) (c : α → Int) (g : α → Rat) (hg : ∀ k ∈ l, g k ≤ (c k : Rat) ∧ (g k).den < 32768) : callN PP MM 60 (K + 2) "_less" [cT l c, qL l g] = .ok (qL l fun k => (c k : Rat) - g k) := by
  rw [r__less]
  unfold b__less
  have ec : ∀ ρ : PyV.Env, ρ = [sv (cT l c), sv (qL l g), none, none, none, none] → (compE false (zipI [(slot 0 ρ), (slot 1 ρ)]) (fun x => bindT [.inl 3, .inr [4, 5]] x (wipes ρ [2, 3, 4, 5])) (fun ρ => noIf) (fun ρ => (ownE (callN PP MM 60 (K + 1)) "_quotient" 2 [(bopE .Sub (bopE .Mult (slot 3 ρ) (slot 5 ρ)) (slot 4 ρ)), (slot 5 ρ)]))) = .ok (qL l fun k => (c k : Rat) - g k) := by
    rintro ρ rfl
    refine compE_L (fun k => PV.tup [.int (c k), rv (g k)]) _ (by rw [← zip_map2]; rfl) (.inr rfl) fun k hk => ?_
    obtain ⟨h1, h2⟩ := hg k hk
    obtain ⟨n0, en⟩ := less_num (c k) (g k) h1
    generalize eρ : ((((wipes [sv (cT l c), sv (qL l g), none, none, none, none] [2, 3, 4, 5]).set 3 (some (PV.int (c k), false))).set 4 (some (PV.int (g k).num, false))).set 5 (some (PV.int (g k).den, false))) = ρ
    have eb : bindT [.inl 3, .inr [4, 5]] (.tup [.int (c k), rv (g k)]) (wipes [sv (cT l c), sv (qL l g), none, none, none, none] [2, 3, 4, 5]) = .ok ρ := by rw [← eρ]; rfl
    rw [eb, bind_okE]
    have t3 : slot 3 ρ = .ok (.int (c k)) := by rw [← eρ]; rfl
    have t4 : slot 4 ρ = .ok (.int (g k).num) := by rw [← eρ]; rfl
    have t5 : slot 5 ρ = .ok (.int ((g k).den : Nat)) := by rw [← eρ]; rfl
    rw [t3, t4, t5, mul_ok _ _ (cmul_r _ _ (by omega)), bopE_sub, own2,
      show callN PP MM 60 (K + 1) (Str.ofString "_quotient") [.int (c k * ((g k).den : Int) - (g k).num), .int ((g k).den : Nat)] = _ from quo_okI K _ n0 _ (den_pos _) (by omega), en]
  rw [ec _ rfl, retS_ok, then_ret]
  unfold finS
  rfl
theorem sumT (l : List α) (c : α → Int) : bltE "sum" [R.ok (cT l c)] = .ok (.int (l.map c).sum) := by
  have em : (l.map fun k => PV.int (c k)) = (l.map c).map PV.int := by rw [List.map_map]; rfl
  show bltE "sum" [R.ok (.tup (l.map fun k => PV.int (c k)))] = _
  rw [em, sum_ints]
structure Good (l : List α) (c : α → Int) (E : Int) : Prop where
  l1 : 1 ≤ l.length
  l2 : l.length ≤ 8
  c1 : ∀ k ∈ l, 0 ≤ c k ∧ c k ≤ 100
  e0 : 0 ≤ E
  e1 : E ≤ (l.map c).sum
variable {l : List α} {c : α → Int} {E : Int}
theorem Good.check (g : Good l c E) (K : Nat) : callN PP MM 60 (K + 2) "_check" [.int E, cT l c] = .ok .non := by
  have em : (l.map fun k => PV.int (c k)) = (l.map c).map PV.int := by rw [List.map_map]; rfl
  show callN PP MM 60 (K + 2) "_check" [.int E, .tup (l.map fun k => PV.int (c k))] = _
  rw [em]
  refine check_good K E _ (by rw [List.length_map]; exact g.l1) (by rw [List.length_map]; exact g.l2) (fun x hx => ?_) g.e0 g.e1
  obtain ⟨k, hk, rfl⟩ := List.mem_map.mp hx
  exact g.c1 k hk
theorem equal_gains_of (g : Good l c E) (K : Nat) {xs : List PV} (h : callN PP MM 60 (K + 2) "_gains" [.int E, cT l c] = .ok (.lst xs)) : callN PP MM 60 (K + 3) "equal_gains" [.int E, cT l c] = .ok (.tup xs) := by
  rw [r_equal_gains]
  unfold b_equal_gains
  have s0 : slot 0 [sv (.int E), sv (cT l c)] = .ok (.int E) := rfl
  have s1 : slot 1 [sv (.int E), sv (cT l c)] = .ok (cT l c) := rfl
  rw [s0, s1, own2, show callN PP MM 60 (K + 2) (Str.ofString "_check") [.int E, cT l c] = _ from g.check K, callS_ok, then_nx, s0, s1, own2,
    show callN PP MM 60 (K + 2) (Str.ofString "_gains") [.int E, cT l c] = _ from h]
  rfl
theorem equal_losses_of (g : Good l c E) (K : Nat) {f : α → Rat} (h : callN PP MM 60 (K + 2) "_gains" [.int ((l.map c).sum - E), cT l c] = .ok (qL l f)) (hf : ∀ k ∈ l, f k ≤ (c k : Rat) ∧ (f k).den < 32768) : callN PP MM 60 (K + 3) "equal_losses" [.int E, cT l c] = .ok (qT l fun k => (c k : Rat) - f k) := by
  rw [r_equal_losses]
  unfold b_equal_losses
  have s0 : slot 0 [sv (.int E), sv (cT l c)] = .ok (.int E) := rfl
  have s1 : slot 1 [sv (.int E), sv (cT l c)] = .ok (cT l c) := rfl
  rw [s0, s1, own2, show callN PP MM 60 (K + 2) (Str.ofString "_check") [.int E, cT l c] = _ from g.check K, callS_ok, then_nx, s0, s1, sumT, bopE_sub, own2,
    show callN PP MM 60 (K + 2) (Str.ofString "_gains") [.int ((l.map c).sum - E), cT l c] = _ from h, own2, show callN PP MM 60 (K + 2) (Str.ofString "_less") [cT l c, qL l f] = _ from pless_ok K l c f hf]
  rfl
theorem mk_half (a : Rat) : mkRat a.num (2 * a.den) = a * inv1 2 := by rw [Nat.mul_comm, mk_part]
theorem half_gains_of (K : Nat) {f : α → Rat} (h : callN PP MM 60 (K + 2) "_gains" [.int (2 * E), cT l c] = .ok (qL l f)) (hf : ∀ k ∈ l, 0 ≤ f k ∧ (f k).den < 32768) : callN PP MM 60 (K + 3) "_half_gains" [.int E, cT l c] = .ok (qL l fun k => f k * inv1 2) := by
  rw [r__half_gains]
  unfold b__half_gains
  have ec : ∀ ρ : PyV.Env, ρ = [sv (.int E), sv (cT l c), none, none, none] → (compE false (itmI (ownE (callN PP MM 60 (K + 2)) "_gains" 2 [(bopE .Mult (R.ok (.int 2)) (slot 0 ρ)), (slot 1 ρ)])) (fun x => bindN [3, 4] x (wipes ρ [2, 3, 4])) (fun ρ => noIf) (fun ρ => (ownE (callN PP MM 60 (K + 2)) "_quotient" 2 [(slot 3 ρ), (bopE .Mult (R.ok (.int 2)) (slot 4 ρ))]))) = .ok (qL l fun k => f k * inv1 2) := by
    rintro ρ rfl
    have s0 : slot 0 [sv (.int E), sv (cT l c), none, none, none] = .ok (.int E) := rfl
    have s1 : slot 1 [sv (.int E), sv (cT l c), none, none, none] = .ok (cT l c) := rfl
    rw [s0, s1, mul2, own2, show callN PP MM 60 (K + 2) (Str.ofString "_gains") [.int ((2 : Int) * E), cT l c] = _ from h]
    refine compE_L (fun k => rv (f k)) _ rfl (.inr rfl) fun k hk => ?_
    obtain ⟨h1, h2⟩ := hf k hk
    generalize eρ : (((wipes [sv (.int E), sv (cT l c), none, none, none] [2, 3, 4]).set 3 (some (PV.int (f k).num, false))).set 4 (some (PV.int (f k).den, false))) = ρ
    have eb : bindN [3, 4] (rv (f k)) (wipes [sv (.int E), sv (cT l c), none, none, none] [2, 3, 4]) = .ok ρ := by rw [← eρ]; rfl
    rw [eb, bind_okE]
    have t3 : slot 3 ρ = .ok (.int (f k).num) := by rw [← eρ]; rfl
    have t4 : slot 4 ρ = .ok (.int ((f k).den : Nat)) := by rw [← eρ]; rfl
    have hd := den_pos (f k)
    rw [t3, t4, mul2, own2, show ((2 : Int) * ((f k).den : Int)) = ((2 * (f k).den : Nat) : Int) by omega,
      show callN PP MM 60 (K + 2) (Str.ofString "_quotient") [.int (f k).num, .int ((2 * (f k).den : Nat) : Int)] = _ from quo_okI (K + 1) _ (Rat.num_nonneg.mpr h1) _ (by omega) (by omega), mk_half]
  rw [ec _ rfl, retS_ok, then_ret]
  unfold finS
  rfl
theorem half_low (g : Good l c E) (K : Nat) (h2 : 2 * E ≤ (l.map c).sum) {f : α → Rat} (h : callN PP MM 60 (K + 2) "_gains" [.int (2 * E), cT l c] = .ok (qL l f)) (hf : ∀ k ∈ l, 0 ≤ f k ∧ (f k).den < 32768) : callN PP MM 60 (K + 4) "half_rule" [.int E, cT l c] = .ok (qT l fun k => f k * inv1 2) := by
  rw [r_half_rule]
  unfold b_half_rule
  have s0 : slot 0 [sv (.int E), sv (cT l c)] = .ok (.int E) := rfl
  have s1 : slot 1 [sv (.int E), sv (cT l c)] = .ok (cT l c) := rfl
  rw [s0, s1, own2, show callN PP MM 60 (K + 3) (Str.ofString "_check") [.int E, cT l c] = _ from g.check (K + 1), callS_ok, then_nx, s0, s1, sumT, mul2, cmpT_le, decide_eq_true (by omega), iS_t, own2,
    show callN PP MM 60 (K + 3) (Str.ofString "_half_gains") [.int E, cT l c] = _ from half_gains_of K h hf]
  rfl
theorem half_high (g : Good l c E) (K : Nat) (h2 : ¬ 2 * E ≤ (l.map c).sum) {f : α → Rat} (h : callN PP MM 60 (K + 2) "_gains" [.int (2 * ((l.map c).sum - E)), cT l c] = .ok (qL l f)) (hf : ∀ k ∈ l, 0 ≤ f k ∧ (f k).den < 32768) (hf2 : ∀ k ∈ l, f k * inv1 2 ≤ (c k : Rat) ∧ (f k * inv1 2).den < 32768) : callN PP MM 60 (K + 4) "half_rule" [.int E, cT l c] = .ok (qT l fun k => (c k : Rat) - f k * inv1 2) := by
  rw [r_half_rule]
  unfold b_half_rule
  have s0 : slot 0 [sv (.int E), sv (cT l c)] = .ok (.int E) := rfl
  have s1 : slot 1 [sv (.int E), sv (cT l c)] = .ok (cT l c) := rfl
  rw [s0, s1, own2, show callN PP MM 60 (K + 3) (Str.ofString "_check") [.int E, cT l c] = _ from g.check (K + 1), callS_ok, then_nx, s0, s1, sumT, mul2, cmpT_le, decide_eq_false (by omega), iS_f, then_nx, s0, s1, sumT, bopE_sub, own2, 
    show callN PP MM 60 (K + 3) (Str.ofString "_half_gains") [.int ((l.map c).sum - E), cT l c] = _ from half_gains_of K h hf, own2,
    show callN PP MM 60 (K + 3) (Str.ofString "_less") [cT l c, qL l fun k => f k * inv1 2] = _ from pless_ok (K + 1) l c _ hf2]
  rfl
end
theorem two_ok (K : Nat) (p a b : Int) (ha : 0 ≤ a ∧ a ≤ 100) (hb : 0 ≤ b ∧ b ≤ 100) (h0 : 0 ≤ p) (h1 : p ≤ a + b) : callN PP MM 60 (K + 3) "two_rule" [.int p, .int a, .int b] = .ok (.tup [rv (mkRat (max 0 (p - b) + p - max 0 (p - a)) 2), rv (mkRat (max 0 (p - a) + p - max 0 (p - b)) 2)]) := by
  rw [r_two_rule]
  unfold b_two_rule
  have s0 : slot 0 [sv (.int p), sv (.int a), sv (.int b), none, none, none] = .ok (.int p) := rfl
  have s1 : slot 1 [sv (.int p), sv (.int a), sv (.int b), none, none, none] = .ok (.int a) := rfl
  have s2 : slot 2 [sv (.int p), sv (.int a), sv (.int b), none, none, none] = .ok (.int b) := rfl
  have ech : callN PP MM 60 (K + 2) "_check" [.int p, .tup [.int a, .int b]] = .ok .non := check_good K p [a, b] (by simp) (by simp) (by simp; omega) h0 (by simp; omega)
  have emax : ∀ z : Int, bltE "max" [R.ok (.int 0), R.ok (.int z)] = .ok (.int (max 0 z)) := by
    intro z
    show R.ok (PV.int (if z > 0 then z else 0)) = _
    congr 2; split <;> omega
  rw [s0, s1, s2, tup2, own2, show callN PP MM 60 (K + 2) (Str.ofString "_check") [.int p, .tup [.int a, .int b]] = _ from ech, callS_ok, then_nx, s0, s1, s2, bopE_sub, bopE_sub, emax, emax, tup2, unp2 _ _ _ _ _ _ rfl, then_nx]
  generalize hf : max 0 (p - b) = f
  generalize hs : max 0 (p - a) = s
  have t0 : slot 0 (([sv (.int p), sv (.int a), sv (.int b), none, none, none].set 3 (some (.int f, false))).set 4 (some (.int s, false))) = .ok (.int p) := rfl
  have t3 : slot 3 (([sv (.int p), sv (.int a), sv (.int b), none, none, none].set 3 (some (.int f, false))).set 4 (some (.int s, false))) = .ok (.int f) := rfl
  have t4 : slot 4 (([sv (.int p), sv (.int a), sv (.int b), none, none, none].set 3 (some (.int f, false))).set 4 (some (.int s, false))) = .ok (.int s) := rfl
  rw [t0, t3, t4, bopE_sub, bopE_sub, setS_pure _ _ _ _ _ rfl, then_nx]
  have u3 : slot 3 [sv (.int p), sv (.int a), sv (.int b), sv (.int f), sv (.int s), sv (.int (p - f - s))] = .ok (.int f) := rfl
  have u4 : slot 4 [sv (.int p), sv (.int a), sv (.int b), sv (.int f), sv (.int s), sv (.int (p - f - s))] = .ok (.int s) := rfl
  have u5 : slot 5 [sv (.int p), sv (.int a), sv (.int b), sv (.int f), sv (.int s), sv (.int (p - f - s))] = .ok (.int (p - f - s)) := rfl
  show finS false (SR.then (retS _ (tupE [(ownE (callN PP MM 60 (K + 2)) "_quotient" 2 [(bopE .Add (bopE .Mult (R.ok (.int 2)) (slot 3 [sv (.int p), sv (.int a), sv (.int b), sv (.int f), sv (.int s), sv (.int (p - f - s))])) (slot 5 [sv (.int p), sv (.int a), sv (.int b), sv (.int f), sv (.int s), sv (.int (p - f - s))])), (R.ok (.int 2))]), (ownE (callN PP MM 60 (K + 2)) "_quotient" 2 [(bopE .Add (bopE .Mult (R.ok (.int 2)) (slot 4 [sv (.int p), sv (.int a), sv (.int b), sv (.int f), sv (.int s), sv (.int (p - f - s))])) (slot 5 [sv (.int p), sv (.int a), sv (.int b), sv (.int f), sv (.int s), sv (.int (p - f - s))])), (R.ok (.int 2))])]) true) _) = _
  rw [u3, u4, u5, mul2, mul2, bopE_add, bopE_add, own2, own2,
    show callN PP MM 60 (K + 2) (Str.ofString "_quotient") [.int ((2 : Int) * f + (p - f - s)), .int 2] = _ from quo_okI (K + 1) _ (by omega) 2 (by omega) (by omega),
    show callN PP MM 60 (K + 2) (Str.ofString "_quotient") [.int ((2 : Int) * s + (p - f - s)), .int 2] = _ from quo_okI (K + 1) _ (by omega) 2 (by omega) (by omega), tup2, retS_ok, then_ret,
    show (2 : Int) * f + (p - f - s) = f + p - s by omega, show (2 : Int) * s + (p - f - s) = s + p - f by omega]
  unfold finS
  rfl
end Law34
set_option Elab.async false
set_option linter.all false
set_option maxRecDepth 100000
set_option maxHeartbeats 400000
namespace Law34
open PySem PyV
/-! ### the law's own filling -/
theorem compLoop_F {α : Type} (step : PV → R (Option PV)) (f : α → PV) (h : α → PV) (p : α → Bool) : ∀ l : List α, (∀ a ∈ l, step (f a) = .ok (if p a = true then some (h a) else none)) → compLoop step (l.map f) = .ok ((l.filter p).map h)
  | [], _ => rfl
  | a :: l, hh => by
    have t := compLoop_F step f h p l fun b hb => hh b (List.mem_cons_of_mem _ hb)
    show R.bind (step (f a)) (fun z => match z with | none => compLoop step (l.map f) | some y => R.bind (compLoop step (l.map f)) fun ys => .ok (y :: ys)) = _
    rw [hh a List.mem_cons_self, bind_okE, List.filter_cons]
    by_cases e : p a = true
    · rw [if_pos e, if_pos e, t]; rfl
    · rw [if_neg e, if_neg e]; exact t
theorem compE_F {α : Type} {rng : Bool} {it : R (List PV)} {bd : PV → R PyV.Env} {ifs : PyV.Env → R Bool} {elt : PyV.Env → R PV} {l : List α} (f h : α → PV) (p : α → Bool) (h1 : it = .ok (l.map f)) (h2 : l.length ≤ line ∨ rng = false)
    (hh : ∀ a ∈ l, ∃ ρ, bd (f a) = .ok ρ ∧ ifs ρ = .ok (p a) ∧ elt ρ = .ok (h a)) : compE rng it bd ifs elt = .ok (.lst ((l.filter p).map h)) := by
  unfold compE
  rw [h1, bind_okE, need, if_pos (fun e => by rw [List.length_map]; rcases h2 with h2 | h2; exact h2; rw [h2] at e; cases e), compLoop_F _ f h p l fun a ha => ?_]
  · rfl
  · obtain ⟨ρ, e1, e2, e3⟩ := hh a ha
    rw [e1, bind_okE, e2, bind_okE]
    by_cases e : p a = true
    · rw [if_pos e, if_pos e, e3]; rfl
    · rw [if_neg e, if_neg e]
theorem ixR {n : Nat} (f : Nat → PV) {k : Nat} (h : k < n) : ixE (R.ok (.lst ((List.range n).map f))) (R.ok (.int (k : Nat))) = .ok (f k) := by
  refine ixL (by omega) ?_
  rw [Int.toNat_natCast, List.getElem?_map, List.getElem?_range h]; rfl
theorem ixRT {n : Nat} (f : Nat → PV) {k : Nat} (h : k < n) : ixE (R.ok (.tup ((List.range n).map f))) (R.ok (.int (k : Nat))) = .ok (f k) := by
  refine ixT (by omega) ?_
  rw [Int.toNat_natCast, List.getElem?_map, List.getElem?_range h]; rfl
theorem rv_neg (q : Rat) : tupE [bopE .Sub (R.ok (.int 0)) (R.ok (.int q.num)), R.ok (.int (q.den : Nat))] = .ok (rv (-q)) := by
  rw [bopE_sub, tup2, Int.zero_sub]; rfl
theorem num_pos_iff (q : Rat) : 0 < q.num ↔ 0 < q := by
  rw [Rat.lt_iff]; simp
theorem pos_ok (q : Rat) : cmpT .Gt (ixE (R.ok (rv q)) (R.ok (.int 0))) (R.ok (.int 0)) = .ok (decide (0 < q)) := by
  rw [rv0, cmpT_gt]
  by_cases h : 0 < q
  · rw [decide_eq_true h, decide_eq_true ((num_pos_iff q).mpr h)]
  · rw [decide_eq_false h, decide_eq_false (fun e => h ((num_pos_iff q).mp e))]
abbrev ixs (l : List Nat) : List PV := l.map fun k => PV.int (k : Nat)
theorem pure_ixs (l : List Nat) : arePure (ixs l) = true := arePure_of fun y hy => by obtain ⟨z, _, rfl⟩ := List.mem_map.mp hy; rfl
theorem pure_qs {α : Type} (l : List α) (g : α → Rat) : arePure (l.map fun k => rv (g k)) = true := arePure_of fun y hy => by obtain ⟨z, _, rfl⟩ := List.mem_map.mp hy; rfl
def fW1 (call : Str → List PV → R PV) (ρ : PyV.Env) : SR :=
    (SR.then (setS ρ 7 (ownE call "_law_plus" 2 [(ixE (slot 1 ρ) (slot 4 ρ)), (tupE [(bopE .Sub (R.ok (.int 0)) (ixE (ixE (slot 2 ρ) (slot 4 ρ)) (R.ok (.int 0)))), (ixE (ixE (slot 2 ρ) (slot 4 ρ)) (R.ok (.int 1)))])]) false [1, 4, 2, 4, 2, 4]) fun ρ =>
      SR.then (setS ρ 6 (ifE (orT (cmpT .Is (slot 6 ρ) (R.ok (.non))) (truT (ownE call "_law_less" 2 [(slot 7 ρ), (slot 6 ρ)]))) (slot 7 ρ) (slot 6 ρ)) false [6, 7, 6, 7, 6]) fun ρ =>
      SR.nx ρ)
def fW2 (call : Str → List PV → R PV) (ρ : PyV.Env) : SR :=
    (SR.then (stoS ρ 2 (slot 4 ρ) (ownE call "_law_plus" 2 [(ixE (slot 2 ρ) (slot 4 ρ)), (slot 9 ρ)])) fun ρ =>
      SR.nx ρ)
def fB_2 (call : Str → List PV → R PV) (ρ : PyV.Env) : SR := (forG ρ (slot 5 ρ) false true [5] (fun x ρ => bind1 4 x ρ) (fW1 call))
def fB_3 (call : Str → List PV → R PV) (ρ : PyV.Env) : SR := (setS ρ 8 (ownE call "_law_low" 2 [(ixE (slot 3 ρ) (R.ok (.int 0))), (bopE .Mult (ixE (slot 3 ρ) (R.ok (.int 1))) (bltE "len" [(slot 5 ρ)]))]) false [3, 3, 5])
def fB_4 (call : Str → List PV → R PV) (ρ : PyV.Env) : SR := (setS ρ 9 (ifE (truT (ownE call "_law_less" 2 [(slot 6 ρ), (slot 8 ρ)])) (slot 6 ρ) (slot 8 ρ)) false [6, 8, 6, 8])
def fB_5 (call : Str → List PV → R PV) (ρ : PyV.Env) : SR := (forG ρ (slot 5 ρ) false true [5] (fun x ρ => bind1 4 x ρ) (fW2 call))
def fB_6 (call : Str → List PV → R PV) (ρ : PyV.Env) : SR := (setS ρ 3 (ownE call "_law_plus" 2 [(slot 3 ρ), (tupE [(bopE .Sub (R.ok (.int 0)) (bopE .Mult (ixE (slot 9 ρ) (R.ok (.int 0))) (bltE "len" [(slot 5 ρ)]))), (ixE (slot 9 ρ) (R.ok (.int 1)))])]) false [3, 9, 5, 9])
def fB_7 (call : Str → List PV → R PV) (ρ : PyV.Env) : SR := (setS ρ 5 (compE false (itmI (slot 5 ρ)) (fun x => bind1 4 x (wipes ρ [10, 4])) (fun ρ => (truT (ownE call "_law_less" 2 [(ixE (slot 2 ρ) (slot 4 ρ)), (ixE (slot 1 ρ) (slot 4 ρ))]))) (fun ρ => (slot 4 ρ))) true [4, 5, 2, 4, 1, 4])
def fB (call : Str → List PV → R PV) (ρ : PyV.Env) : SR := SR.then (setS ρ 6 (R.ok (.non)) true []) fun ρ => SR.then (fB_2 call ρ) fun ρ => SR.then (fB_3 call ρ) fun ρ => SR.then (fB_4 call ρ) fun ρ => SR.then (fB_5 call ρ) fun ρ => SR.then (fB_6 call ρ) fun ρ => SR.then (fB_7 call ρ) fun ρ => SR.nx ρ
def fC (ρ : PyV.Env) : R Bool := (cmpT .Gt (ixE (slot 3 ρ) (R.ok (.int 0))) (R.ok (.int 0)))
abbrev rg (n : Nat) := List.range n
abbrev EF (x0 : Sl) (n : Nat) (c g : Nat → Rat) (left : Rat) (x4 : Sl) (os : List Nat) (x6 x7 x8 x9 : Sl) : PyV.Env := [x0, sv (qL (rg n) c), some (qL (rg n) g, true), sv (rv left), x4, some (.lst (ixs os), true), x6, x7, x8, x9, none]
variable {x0 x4 x6 x7 x8 x9 : Sl} {n : Nat} {c g : Nat → Rat} {left y : Rat} {os : List Nat}
/-! the least that one wants -/
theorem w_step (K : Nat) {k : Nat} (hk : k < n) (hc : Hf (c k)) (hg : Hf (g k)) (W : PV) (hW : W = .non ∨ ∃ q, W = rv q ∧ Hf q) :
    fW1 (callN PP MM 60 (K + 2)) (EF x0 n c g left (sv (.int (k : Nat))) os (sv W) x7 x8 x9) = .nx (EF x0 n c g left (sv (.int (k : Nat))) os (sv (rv (match W with | .non => c k - g k | .tup [.int u, .int (.ofNat d)] => mn (mkRat u d) (c k - g k) | _ => 0))) (sv (rv (c k - g k))) x8 x9) := by
  unfold fW1
  generalize eρ : EF x0 n c g left (sv (.int (k : Nat))) os (sv W) x7 x8 x9 = ρ
  have s1 : slot 1 ρ = .ok (qL (rg n) c) := by rw [← eρ]; rfl
  have s2 : slot 2 ρ = .ok (qL (rg n) g) := by rw [← eρ]; rfl
  have s4 : slot 4 ρ = .ok (.int (k : Nat)) := by rw [← eρ]; rfl
  rw [s1, s2, s4, ixR (fun k => rv (c k)) hk, ixR (fun k => rv (g k)) hk, rv0, rv1, rv_neg, own2,
    show callN PP MM 60 (K + 2) (Str.ofString "_law_plus") [rv (c k), rv (-g k)] = _ from plus_ok K _ _ (by have := hc.z.den; omega) (by have := hg.neg.z.den; omega), setS_pure _ _ _ _ _ (pure_rv _), then_nx, ← Rat.sub_eq_add_neg, ← eρ]
  have hs := (hc.sub hg)
  generalize c k - g k = r at *
  show SR.then (setS (EF x0 n c g left (sv (.int (k : Nat))) os (sv W) (sv (rv r)) x8 x9) 6 _ false [6, 7, 6, 7, 6]) _ = _
  have t6 : slot 6 (EF x0 n c g left (sv (.int (k : Nat))) os (sv W) (sv (rv r)) x8 x9) = .ok W := rfl
  have t7 : slot 7 (EF x0 n c g left (sv (.int (k : Nat))) os (sv W) (sv (rv r)) x8 x9) = .ok (rv r) := rfl
  rw [show slot 6 ((EF x0 n c g left (sv (.int (k : Nat))) os (sv W) x7 x8 x9).set 7 (some (rv r, false && ownB (rv r)))) = .ok W from rfl, show slot 7 ((EF x0 n c g left (sv (.int (k : Nat))) os (sv W) x7 x8 x9).set 7 (some (rv r, false && ownB (rv r)))) = .ok (rv r) from rfl]
  rcases hW with rfl | ⟨q, rfl, hq⟩
  · have e : ifE (orT (cmpT .Is (R.ok .non) (R.ok .non)) (truT (ownE (callN PP MM 60 (K + 2)) "_law_less" 2 [R.ok (rv r), R.ok .non]))) (R.ok (rv r)) (R.ok .non) = .ok (rv r) := rfl
    rw [e, setS_pure _ _ _ _ _ (pure_rv _), then_nx]
    rfl
  · have e1 : cmpT .Is (R.ok (rv q)) (R.ok .non) = .ok false := rfl
    rw [e1, oT_f, own2, show callN PP MM 60 (K + 2) (Str.ofString "_law_less") [rv r, rv q] = _ from less_ok (K + 1) r q (by have := hs.z.den; omega) (by have := hq.z.den; omega), truT_b]
    have e2 : ifE (R.ok (decide (r < q))) (R.ok (rv r)) (R.ok (rv q)) = .ok (rv (mn (mkRat q.num q.den) r)) := by
      rw [Rat.mkRat_self]
      unfold mn
      by_cases h : r < q
      · rw [decide_eq_true h, if_pos h, iE_t]
      · rw [decide_eq_false h, if_neg h, iE_f]
    rw [e2, setS_pure _ _ _ _ _ (pure_rv _), then_nx]
    rfl
theorem w_one (K : Nat) {k : Nat} (hk : k < n) (hc : Hf (c k)) (hg : Hf (g k)) : fW1 (callN PP MM 60 (K + 2)) (EF x0 n c g left (sv (.int (k : Nat))) os (sv .non) x7 x8 x9) = .nx (EF x0 n c g left (sv (.int (k : Nat))) os (sv (rv (c k - g k))) (sv (rv (c k - g k))) x8 x9) := w_step K hk hc hg _ (.inl rfl)
theorem w_two (K : Nat) {k : Nat} (hk : k < n) (hc : Hf (c k)) (hg : Hf (g k)) (q : Rat) (hq : Hf q) : fW1 (callN PP MM 60 (K + 2)) (EF x0 n c g left (sv (.int (k : Nat))) os (sv (rv q)) x7 x8 x9) = .nx (EF x0 n c g left (sv (.int (k : Nat))) os (sv (rv (mn q (c k - g k)))) (sv (rv (c k - g k))) x8 x9) := by
  have := w_step (x0 := x0) (left := left) (os := os) (x7 := x7) (x8 := x8) (x9 := x9) K hk hc hg _ (.inr ⟨q, rfl, hq⟩)
  rw [this]
  show SR.nx (EF x0 n c g left (sv (.int (k : Nat))) os (sv (rv (mn (mkRat q.num q.den) (c k - g k)))) (sv (rv (c k - g k))) x8 x9) = _
  rw [Rat.mkRat_self]
theorem w_loop (K : Nat) : ∀ (ks : List Nat) (q : Rat) (x4 x7 : Sl), Hf q → (∀ k ∈ ks, k < n ∧ Hf (c k) ∧ Hf (g k)) →
    ∃ q' x4' x7', forLoop (fun x ρ => liftR ρ (bind1 4 x ρ) (fW1 (callN PP MM 60 (K + 2)))) (ixs ks) (EF x0 n c g left x4 os (sv (rv q)) x7 x8 x9) = .nx (EF x0 n c g left x4' os (sv (rv q')) x7' x8 x9) ∧ Hf q' ∧ q' ≤ q ∧ (∀ k ∈ ks, q' ≤ c k - g k) ∧ (q' = q ∨ ∃ k ∈ ks, q' = c k - g k)
  | [], q, x4, x7, hq, _ => ⟨q, x4, x7, rfl, hq, Rat.le_refl, (fun k hk => by cases hk), .inl rfl⟩
  | k :: ks, q, x4, x7, hq, h => by
    obtain ⟨h1, h2, h3⟩ := h k List.mem_cons_self
    obtain ⟨q', y4, y7, e, hq', hle, hall, hor⟩ := w_loop K ks (mn q (c k - g k)) (sv (.int (k : Nat))) (sv (rv (c k - g k))) (hq.mn (h2.sub h3)) (fun j hj => h j (List.mem_cons_of_mem _ hj))
    refine ⟨q', y4, y7, ?_, hq', ?_, ?_, ?_⟩
    · rw [ixs, List.map_cons, forLoop_cons, e]
      rw [liftR_bind1]
      exact w_two K h1 h2 h3 q hq
    · unfold mn at hle; grind
    · intro j hj
      rcases List.mem_cons.mp hj with rfl | hj
      · unfold mn at hle; grind
      · exact hall j hj
    · rcases hor with rfl | ⟨j, hj, e⟩
      · rcases mn_cases q (c k - g k) with e | e
        · exact .inl e
        · exact .inr ⟨k, List.mem_cons_self, e⟩
      · exact .inr ⟨j, List.mem_cons_of_mem _ hj, e⟩
theorem f2_ok (K : Nat) (x4 x7 : Sl) (hne : os ≠ []) (h : ∀ k ∈ os, k < n ∧ Hf (c k) ∧ Hf (g k)) : ∃ q x4' x7', fB_2 (callN PP MM 60 (K + 2)) (EF x0 n c g left x4 os (sv .non) x7 x8 x9) = .nx (EF x0 n c g left x4' os (sv (rv q)) x7' x8 x9) ∧ Hf q ∧ (∀ k ∈ os, q ≤ c k - g k) ∧ (∃ k ∈ os, q = c k - g k) := by
  have go : ∀ ks : List Nat, ks ≠ [] → (∀ k ∈ ks, k < n ∧ Hf (c k) ∧ Hf (g k)) → ∃ q x4' x7', forLoop (fun x ρ => liftR ρ (bind1 4 x ρ) (fW1 (callN PP MM 60 (K + 2)))) (ixs ks) (EF x0 n c g left x4 os (sv .non) x7 x8 x9) = .nx (EF x0 n c g left x4' os (sv (rv q)) x7' x8 x9) ∧ Hf q ∧ (∀ k ∈ ks, q ≤ c k - g k) ∧ (∃ k ∈ ks, q = c k - g k) := by
    intro ks hk h
    cases ks with
    | nil => exact absurd rfl hk
    | cons k ks =>
      obtain ⟨h1, h2, h3⟩ := h k List.mem_cons_self
      obtain ⟨q', y4, y7, e, hq', hle, hall, hor⟩ := w_loop (x0 := x0) (left := left) (os := os) (x8 := x8) (x9 := x9) (n := n) (c := c) (g := g) K ks (c k - g k) (sv (.int (k : Nat))) (sv (rv (c k - g k))) (h2.sub h3) (fun j hj => h j (List.mem_cons_of_mem _ hj))
      refine ⟨q', y4, y7, ?_, hq', ?_, ?_⟩
      · rw [ixs, List.map_cons, forLoop_cons, e]
        rw [liftR_bind1]
        exact w_one K h1 h2 h3
      · intro j hj
        rcases List.mem_cons.mp hj with rfl | hj
        · exact hle
        · exact hall j hj
      · rcases hor with rfl | ⟨j, hj, e⟩
        · exact ⟨k, List.mem_cons_self, rfl⟩
        · exact ⟨j, List.mem_cons_of_mem _ hj, e⟩
  obtain ⟨q, y4, y7, e, r⟩ := go os hne h
  refine ⟨q, y4, y7, ?_, r⟩
  unfold fB_2 forG
  rw [show slot 5 (EF x0 n c g left x4 os (sv .non) x7 x8 x9) = .ok (.lst (ixs os)) from rfl, liftR_ok, show items (.lst (ixs os)) = .ok (ixs os) from rfl, liftR_ok, if_pos (by rw [Bool.or_true]), if_pos (pure_ixs os)]
  exact e
theorem f3_ok (K : Nat) (hl : Hf left) (ho : 0 < os.length) (ho8 : os.length ≤ 8) : fB_3 (callN PP MM 60 (K + 2)) (EF x0 n c g left x4 os x6 x7 x8 x9) = .nx (EF x0 n c g left x4 os x6 x7 (sv (rv (left * inv1 os.length))) x9) := by
  unfold fB_3
  have hd := hl.z.den
  have hp := den_pos left
  have hm : left.den * os.length ≤ 1680 * 8 := Nat.mul_le_mul hd ho8
  have hm0 : 0 < left.den * os.length := Nat.mul_pos hp ho
  rw [show slot 3 (EF x0 n c g left x4 os x6 x7 x8 x9) = .ok (rv left) from rfl, show slot 5 (EF x0 n c g left x4 os x6 x7 x8 x9) = .ok (.lst (ixs os)) from rfl, rv0, rv1, len_lst, List.length_map, mul_ok _ _ (cmul_r _ _ (by omega)), own2, ← Int.natCast_mul,
    show callN PP MM 60 (K + 2) (Str.ofString "_law_low") [.int left.num, .int ((left.den * os.length : Nat) : Int)] = _ from low_ok (K + 1) _ _ hm0 (by omega), mk_part, setS_pure _ _ _ _ _ (pure_rv _)]
  rfl
theorem f4_ok (K : Nat) (q e : Rat) (hq : Zf q) (he : Zf e) : fB_4 (callN PP MM 60 (K + 2)) (EF x0 n c g left x4 os (sv (rv q)) x7 (sv (rv e)) x9) = .nx (EF x0 n c g left x4 os (sv (rv q)) x7 (sv (rv e)) (sv (rv (mn e q)))) := by
  unfold fB_4
  rw [show slot 6 (EF x0 n c g left x4 os (sv (rv q)) x7 (sv (rv e)) x9) = .ok (rv q) from rfl, show slot 8 (EF x0 n c g left x4 os (sv (rv q)) x7 (sv (rv e)) x9) = .ok (rv e) from rfl, own2,
    show callN PP MM 60 (K + 2) (Str.ofString "_law_less") [rv q, rv e] = _ from less_ok (K + 1) q e (by have := hq.den; omega) (by have := he.den; omega), truT_b]
  have e2 : ifE (R.ok (decide (q < e))) (R.ok (rv q)) (R.ok (rv e)) = .ok (rv (mn e q)) := by
    unfold mn
    by_cases h : q < e
    · rw [decide_eq_true h, if_pos h, iE_t]
    · rw [decide_eq_false h, if_neg h, iE_f]
  rw [e2, setS_pure _ _ _ _ _ (pure_rv _)]
  rfl
/-! each gets more -/
theorem set_range (g : Nat → Rat) (k : Nat) (v : Rat) : ((rg n).map fun j => rv (g j)).set k (rv v) = (rg n).map fun j => rv (if j = k then v else g j) := by
  apply List.ext_getElem?
  intro i
  rw [List.getElem?_set, List.length_map, List.length_range, List.getElem?_map, List.getElem?_map]
  by_cases hi : i < n
  · rw [List.getElem?_range hi]
    by_cases h : k = i
    · subst h
      rw [if_pos rfl, if_pos hi]
      show _ = some (rv (if k = k then v else g k))
      rw [if_pos rfl]
    · rw [if_neg h]
      show _ = some (rv (if i = k then v else g i))
      rw [if_neg (by omega)]; rfl
  · have : (rg n)[i]? = none := List.getElem?_eq_none (by rw [List.length_range]; omega)
    rw [this]
    by_cases h : k = i
    · rw [if_pos h, if_neg (by omega)]; rfl
    · rw [if_neg h]; rfl
theorem g_step (K : Nat) {k : Nat} (hk : k < n) (s : Rat) (hs : s.den < 32768) (hg : (g k).den < 32768) : fW2 (callN PP MM 60 (K + 2)) (EF x0 n c g left (sv (.int (k : Nat))) os x6 x7 x8 (sv (rv s))) = .nx (EF x0 n c (fun j => if j = k then g k + s else g j) left (sv (.int (k : Nat))) os x6 x7 x8 (sv (rv s))) := by
  unfold fW2 stoS
  rw [show ownAt (EF x0 n c g left (sv (.int (k : Nat))) os x6 x7 x8 (sv (rv s))) 2 = some (qL (rg n) g) from rfl]
  show SR.then (liftR _ (ownE (callN PP MM 60 (K + 2)) "_law_plus" 2 [(ixE (slot 2 (EF x0 n c g left (sv (.int (k : Nat))) os x6 x7 x8 (sv (rv s)))) (slot 4 (EF x0 n c g left (sv (.int (k : Nat))) os x6 x7 x8 (sv (rv s))))), (slot 9 (EF x0 n c g left (sv (.int (k : Nat))) os x6 x7 x8 (sv (rv s))))]) _) _ = _
  rw [show slot 2 (EF x0 n c g left (sv (.int (k : Nat))) os x6 x7 x8 (sv (rv s))) = .ok (qL (rg n) g) from rfl, show slot 4 (EF x0 n c g left (sv (.int (k : Nat))) os x6 x7 x8 (sv (rv s))) = .ok (.int (k : Nat)) from rfl, show slot 9 (EF x0 n c g left (sv (.int (k : Nat))) os x6 x7 x8 (sv (rv s))) = .ok (rv s) from rfl, ixR (fun k => rv (g k)) hk, own2,
    show callN PP MM 60 (K + 2) (Str.ofString "_law_plus") [rv (g k), rv s] = _ from plus_ok K _ _ hg hs, liftR_ok, liftR_ok, if_pos (pure_rv _)]
  have est : store (qL (rg n) g) (.int (k : Nat)) (rv (g k + s)) = .ok (qL (rg n) fun j => if j = k then g k + s else g j) := by
    show ofOpt ((place ((rg n).map fun k => rv (g k)).length (k : Nat)).map fun j => PV.lst (((rg n).map fun k => rv (g k)).set j (rv (g k + s)))) = _
    unfold place
    rw [List.length_map, List.length_range, if_pos (by omega), if_pos (by omega), Int.toNat_natCast]
    show R.ok (PV.lst (((rg n).map fun k => rv (g k)).set k (rv (g k + s)))) = _
    rw [set_range]
  rw [est, liftR_ok, then_nx]
  rfl
theorem g_loop (K : Nat) (s : Rat) (hs : s.den < 32768) : ∀ (ks : List Nat) (g : Nat → Rat) (x4 : Sl), ks.Nodup → (∀ k ∈ ks, k < n ∧ (g k).den < 32768) →
    ∃ x4', forLoop (fun x ρ => liftR ρ (bind1 4 x ρ) (fW2 (callN PP MM 60 (K + 2)))) (ixs ks) (EF x0 n c g left x4 os x6 x7 x8 (sv (rv s))) = .nx (EF x0 n c (fun j => if j ∈ ks then g j + s else g j) left x4' os x6 x7 x8 (sv (rv s)))
  | [], g, x4, _, _ => ⟨x4, by
    have : (fun j => if j ∈ ([] : List Nat) then g j + s else g j) = g := by funext j; rw [if_neg (by simp)]
    rw [this]; rfl⟩
  | k :: ks, g, x4, hn, h => by
    obtain ⟨h1, h2⟩ := h k List.mem_cons_self
    obtain ⟨hk, hn2⟩ := List.nodup_cons.mp hn
    obtain ⟨y4, e⟩ := g_loop K s hs ks (fun j => if j = k then g k + s else g j) (sv (.int (k : Nat))) hn2 (fun j hj => by
      obtain ⟨a, b⟩ := h j (List.mem_cons_of_mem _ hj)
      refine ⟨a, ?_⟩
      have : j ≠ k := by rintro rfl; exact hk hj
      rw [if_neg this]; exact b)
    refine ⟨y4, ?_⟩
    rw [ixs, List.map_cons, forLoop_cons _ _ _ _ (EF x0 n c (fun j => if j = k then g k + s else g j) left (sv (.int (k : Nat))) os x6 x7 x8 (sv (rv s))), e]
    · have : (fun j => if j ∈ ks then (if j = k then g k + s else g j) + s else if j = k then g k + s else g j) = (fun j => if j ∈ k :: ks then g j + s else g j) := by
        funext j
        by_cases hj : j = k
        · subst hj
          rw [if_neg hk, if_pos rfl, if_pos List.mem_cons_self]
        · by_cases hj2 : j ∈ ks
          · rw [if_pos hj2, if_neg hj, if_pos (List.mem_cons_of_mem _ hj2)]
          · rw [if_neg hj2, if_neg hj, if_neg (by simp [hj, hj2])]
      rw [this]
    · rw [liftR_bind1]
      exact g_step K h1 s hs h2
theorem f5_ok (K : Nat) (s : Rat) (hs : s.den < 32768) (hn : os.Nodup) (h : ∀ k ∈ os, k < n ∧ (g k).den < 32768) : ∃ x4', fB_5 (callN PP MM 60 (K + 2)) (EF x0 n c g left x4 os x6 x7 x8 (sv (rv s))) = .nx (EF x0 n c (fun j => if j ∈ os then g j + s else g j) left x4' os x6 x7 x8 (sv (rv s))) := by
  obtain ⟨y4, e⟩ := g_loop (x0 := x0) (n := n) (c := c) (left := left) (os := os) (x6 := x6) (x7 := x7) (x8 := x8) K s hs os g x4 hn h
  refine ⟨y4, ?_⟩
  unfold fB_5 forG
  rw [show slot 5 (EF x0 n c g left x4 os x6 x7 x8 (sv (rv s))) = .ok (.lst (ixs os)) from rfl, liftR_ok, show items (.lst (ixs os)) = .ok (ixs os) from rfl, liftR_ok, if_pos (by rw [Bool.or_true]), if_pos (pure_ixs os)]
  exact e
theorem f6_ok (K : Nat) (s : Rat) (hs : s.den < 32768) (hl : left.den < 32768) (ho8 : os.length ≤ 8) : fB_6 (callN PP MM 60 (K + 2)) (EF x0 n c g left x4 os x6 x7 x8 (sv (rv s))) = .nx (EF x0 n c g (left - s * (os.length : Rat)) x4 os x6 x7 x8 (sv (rv s))) := by
  unfold fB_6
  rw [show slot 3 (EF x0 n c g left x4 os x6 x7 x8 (sv (rv s))) = .ok (rv left) from rfl, show slot 5 (EF x0 n c g left x4 os x6 x7 x8 (sv (rv s))) = .ok (.lst (ixs os)) from rfl, show slot 9 (EF x0 n c g left x4 os x6 x7 x8 (sv (rv s))) = .ok (rv s) from rfl, rv0, rv1, len_lst, List.length_map, mul_ok _ _ (cmul_r _ _ (by omega)), bopE_sub, tup2, Int.zero_sub, own2,
    show callN PP MM 60 (K + 2) (Str.ofString "_law_plus") [rv left, .tup [.int (-(s.num * (os.length : Int))), .int (s.den : Nat)]] = _ from plus_pv K left.num _ left.den s.den (den_pos _) hl (den_pos _) hs,
    setS_pure _ _ _ _ _ (pure_rv _), Rat.mkRat_self, ← Rat.neg_mkRat, mk_times, Rat.intCast_natCast, ← Rat.sub_eq_add_neg]
  rfl
theorem f7_ok (K : Nat) (h : ∀ k ∈ os, k < n ∧ (c k).den < 32768 ∧ (g k).den < 32768) : fB_7 (callN PP MM 60 (K + 2)) (EF x0 n c g left x4 os x6 x7 x8 x9) = .nx (EF x0 n c g left x4 (os.filter fun k => decide (g k < c k)) x6 x7 x8 x9) := by
  unfold fB_7
  have e : ∀ ρ, ρ = EF x0 n c g left x4 os x6 x7 x8 x9 → (compE false (itmI (slot 5 ρ)) (fun x => bind1 4 x (wipes ρ [10, 4])) (fun ρ => (truT (ownE (callN PP MM 60 (K + 2)) "_law_less" 2 [(ixE (slot 2 ρ) (slot 4 ρ)), (ixE (slot 1 ρ) (slot 4 ρ))]))) (fun ρ => (slot 4 ρ))) = .ok (.lst (ixs (os.filter fun k => decide (g k < c k)))) := by
    rintro ρ rfl
    refine compE_F (fun (k : Nat) => PV.int (k : Nat)) _ (fun k => decide (g k < c k)) rfl (.inr rfl) fun k hk => ?_
    obtain ⟨h1, h2, h3⟩ := h k hk
    generalize eρ : ((wipes (EF x0 n c g left x4 os x6 x7 x8 x9) [10, 4]).set 4 (some (PV.int (k : Nat), false))) = ρ
    refine ⟨ρ, by rw [← eρ]; rfl, ?_, by rw [← eρ]; rfl⟩
    rw [show slot 1 ρ = .ok (qL (rg n) c) by rw [← eρ]; rfl, show slot 2 ρ = .ok (qL (rg n) g) by rw [← eρ]; rfl, show slot 4 ρ = .ok (.int (k : Nat)) by rw [← eρ]; rfl, ixR (fun k => rv (c k)) h1, ixR (fun k => rv (g k)) h1, own2,
      show callN PP MM 60 (K + 2) (Str.ofString "_law_less") [rv (g k), rv (c k)] = _ from less_ok (K + 1) _ _ h3 h2, truT_b]
  rw [e _ rfl, setS_held _ _ _ _ (pure_ixs _)]
  rfl
end Law34
set_option Elab.async false
set_option linter.all false
set_option maxRecDepth 100000
set_option maxHeartbeats 400000
namespace Law34
open PySem PyV
variable {n : Nat} {c : Nat → Rat}
def opn (n : Nat) (c : Nat → Rat) (y : Rat) : List Nat := (rg n).filter fun k => decide (y < c k)
theorem opn_mem {y : Rat} {k : Nat} : k ∈ opn n c y ↔ k < n ∧ y < c k := by
  unfold opn
  rw [List.mem_filter, List.mem_range, decide_eq_true_iff]
theorem opn_nodup (y : Rat) : (opn n c y).Nodup := List.nodup_range.filter _
theorem opn_len (y : Rat) : (opn n c y).length ≤ n := by
  have := List.length_filter_le (fun k => decide (y < c k)) (rg n)
  rw [List.length_range] at this
  exact this
def fil (n : Nat) (c : Nat → Rat) (y : Rat) : Rat := sq ((rg n).map fun k => mn (c k) y)
theorem g_next {y s : Rat} (hs : 0 ≤ s) (h : ∀ k ∈ opn n c y, y + s ≤ c k) : ((rg n).map fun k => rv (if k ∈ opn n c y then mn (c k) y + s else mn (c k) y)) = (rg n).map fun k => rv (mn (c k) (y + s)) := by
  refine List.map_congr_left fun k hk => ?_
  have hk := List.mem_range.mp hk
  by_cases hm : k ∈ opn n c y
  · rw [if_pos hm]
    have h1 := h k hm
    have h2 := (opn_mem.mp hm).2
    have : mn (c k) y + s = mn (c k) (y + s) := by unfold mn; grind
    rw [this]
  · rw [if_neg hm]
    have h2 : ¬ y < c k := fun e => hm (opn_mem.mpr ⟨hk, e⟩)
    have : mn (c k) y = mn (c k) (y + s) := by unfold mn; grind
    rw [this]
theorem opn_next {y s : Rat} (hs : 0 ≤ s) : ((opn n c y).filter fun k => decide (mn (c k) (y + s) < c k)) = opn n c (y + s) := by
  unfold opn
  rw [List.filter_filter]
  refine List.filter_congr fun k _ => ?_
  rw [Bool.eq_iff_iff]
  simp only [Bool.and_eq_true, decide_eq_true_iff]
  unfold mn
  constructor
  · intro h; grind
  · intro h; grind
theorem EF_congr {x0 x4 x6 x7 x8 x9 : Sl} {os : List Nat} {left : Rat} {g g' : Nat → Rat} (h : ((rg n).map fun k => rv (g k)) = (rg n).map fun k => rv (g' k)) : EF x0 n c g left x4 os x6 x7 x8 x9 = EF x0 n c g' left x4 os x6 x7 x8 x9 := by
  show [x0, sv (qL (rg n) c), some (.lst ((rg n).map fun k => rv (g k)), true), sv (rv left), x4, some (.lst (ixs os), true), x6, x7, x8, x9, none] = _
  rw [h]
/-- one round -/
theorem round (K : Nat) (x0 x4 x6 x7 x8 x9 : Sl) (hn8 : n ≤ 8) (hc : ∀ k, k < n → Hf (c k)) (E : Rat) (hE : Hf E) (hE2 : E ≤ sq ((rg n).map c)) (y left : Rat) (hy : Hf y) (hl : left = E - fil n c y) (hl0 : 0 < left) :
    ∃ s x4' x6' x7' x8' x9', fB (callN PP MM 60 (K + 2)) (EF x0 n c (fun k => mn (c k) y) left x4 (opn n c y) x6 x7 x8 x9) = .nx (EF x0 n c (fun k => mn (c k) (y + s)) (E - fil n c (y + s)) x4' (opn n c (y + s)) x6' x7' x8' x9') ∧ 0 < s ∧ 0 ≤ E - fil n c (y + s) ∧ Zf (y + s) ∧ (0 < E - fil n c (y + s) → Hf (y + s) ∧ (opn n c (y + s)).length < (opn n c y).length) := by
  have hlf : Hf left := by
    rw [hl]
    exact hE.sub (Hf_sq _ _ fun k hk => (hc k (List.mem_range.mp hk)).mn hy)
  have hne : opn n c y ≠ [] := by
    intro h
    have : fil n c y = sq ((rg n).map c) := sq_all c y _ fun k hk => by
      have : ¬ y < c k := fun e => by
        have := opn_mem.mpr ⟨List.mem_range.mp hk, e⟩
        rw [h] at this; cases this
      exact Rat.not_lt.mp this
    rw [this] at hl
    grind
  have hlen : 0 < (opn n c y).length := by
    rcases Nat.eq_zero_or_pos (opn n c y).length with h | h
    · exact absurd (List.length_eq_zero_iff.mp h) hne
    · exact h
  have hlen8 : (opn n c y).length ≤ 8 := Nat.le_trans (opn_len y) hn8
  have hmem : ∀ k ∈ opn n c y, k < n ∧ Hf (c k) ∧ Hf (mn (c k) y) := fun k hk => by
    have := (opn_mem.mp hk).1
    exact ⟨this, hc k this, (hc k this).mn hy⟩
  have hgy : ∀ k ∈ opn n c y, mn (c k) y = y := fun k hk => by
    have := (opn_mem.mp hk).2
    unfold mn; rw [if_pos this]
  obtain ⟨q, y4, y7, e2, hq, hqa, kq, hkq, hqe⟩ := f2_ok (x0 := x0) (n := n) (c := c) (g := fun k => mn (c k) y) (left := left) (os := opn n c y) (x8 := x8) (x9 := x9) K x4 x7 hne hmem
  have hev := hlf.part hlen hlen8
  have hevp := part_pos hl0 hlen
  have hevl : left * inv1 (opn n c y).length * ((opn n c y).length : Rat) = left := by rw [Rat.mul_assoc, inv1_mul hlen, Rat.mul_one]
  generalize hee : left * inv1 (opn n c y).length = ev at *
  have hq0 : 0 < q := by
    have := (opn_mem.mp hkq).2
    rw [hqe, hgy kq hkq]; grind
  have hsz : Zf (mn ev q) := hev.mn hq.z
  have hs0 : 0 < mn ev q := by unfold mn; grind
  have hsq : mn ev q ≤ q := by unfold mn; grind
  have hse : mn ev q ≤ ev := by unfold mn; grind
  have hcase := mn_cases ev q
  generalize hss : mn ev q = s at *
  have hcs : ∀ k ∈ opn n c y, y + s ≤ c k := fun k hk => by
    have h1 := hqa k hk
    have h2 := hgy k hk
    have h1 : q ≤ c k - mn (c k) y := h1
    rw [h2] at h1
    grind
  obtain ⟨z4, e5⟩ := f5_ok (x0 := x0) (n := n) (c := c) (g := fun k => mn (c k) y) (left := left) (os := opn n c y) (x4 := y4) (x6 := sv (rv q)) (x7 := y7) (x8 := sv (rv ev)) K s (by have := hsz.den; omega) (opn_nodup y) (fun k hk => ⟨(hmem k hk).1, by have := (hmem k hk).2.2.z.den; omega⟩)
  have hfil : fil n c (y + s) = fil n c y + s * ((opn n c y).length : Rat) := sq_step c y s (Rat.le_of_lt hs0) (rg n) fun k hk hyk => hcs k (opn_mem.mpr ⟨List.mem_range.mp hk, hyk⟩)
  have hle : E - fil n c (y + s) = left - s * ((opn n c y).length : Rat) := by rw [hfil, hl]; grind
  have hlr : (0 : Rat) ≤ ((opn n c y).length : Rat) := Rat.natCast_nonneg
  refine ⟨s, z4, sv (rv q), y7, sv (rv ev), sv (rv s), ?_, hs0, ?_, ?_, ?_⟩
  · unfold fB
    rw [setS_pure _ _ _ _ _ rfl, then_nx]
    show SR.then (fB_2 (callN PP MM 60 (K + 2)) (EF x0 n c (fun k => mn (c k) y) left x4 (opn n c y) (sv .non) x7 x8 x9)) _ = _
    rw [e2, then_nx, f3_ok K hlf hlen hlen8, then_nx, hee, f4_ok K q ev hq.z hev, then_nx, hss, e5, then_nx, EF_congr (g_next (Rat.le_of_lt hs0) hcs),
      f6_ok K s (by have := hsz.den; omega) (by have := hlf.z.den; omega) hlen8, then_nx, f7_ok K (fun k hk => ⟨(hmem k hk).1, by have := (hmem k hk).2.1.z.den; omega, by have := ((hmem k hk).2.1.z.mn (hy.z.add hsz)).den; omega⟩), then_nx, opn_next (Rat.le_of_lt hs0), hle]
  · rw [hle]
    have := Rat.mul_le_mul_of_nonneg_right hse hlr
    rw [hevl] at this
    grind
  · exact hy.z.add hsz
  · intro hpos
    rcases hcase with h | h
    · exfalso
      rw [hle, h, hevl] at hpos
      grind
    · have hyc : y + s = c kq := by
        have h1 : q = c kq - mn (c kq) y := hqe
        rw [hgy kq hkq] at h1
        rw [h, h1]; grind
      refine ⟨by rw [hyc]; exact hc kq (opn_mem.mp hkq).1, ?_⟩
      rw [← opn_next (Rat.le_of_lt hs0)]
      refine List.length_filter_lt_length_iff_exists.mpr ⟨kq, hkq, ?_⟩
      rw [hyc]
      unfold mn
      simp only [decide_eq_true_iff]
      grind
theorem fC_ok (x0 x4 x6 x7 x8 x9 : Sl) (g : Nat → Rat) (left : Rat) (os : List Nat) : fC (EF x0 n c g left x4 os x6 x7 x8 x9) = .ok (decide (0 < left)) := by
  unfold fC
  rw [show slot 3 (EF x0 n c g left x4 os x6 x7 x8 x9) = .ok (rv left) from rfl]
  exact pos_ok left
theorem fill_loop (K : Nat) (x0 : Sl) (hn8 : n ≤ 8) (hc : ∀ k, k < n → Hf (c k)) (E : Rat) (hE : Hf E) (hE2 : E ≤ sq ((rg n).map c)) : ∀ (m : Nat) (y left : Rat) (x4 x6 x7 x8 x9 : Sl), left = E - fil n c y → 0 ≤ left → (0 < left → Hf y ∧ (opn n c y).length < m) → 0 < m →
    ∃ y' left' x4' os' x6' x7' x8' x9', whileLoop fC (fB (callN PP MM 60 (K + 2))) m (EF x0 n c (fun k => mn (c k) y) left x4 (opn n c y) x6 x7 x8 x9) = .nx (EF x0 n c (fun k => mn (c k) y') left' x4' os' x6' x7' x8' x9') ∧ fil n c y' = E
  | 0, _, _, _, _, _, _, _, _, _, _, h => absurd h (by omega)
  | m + 1, y, left, x4, x6, x7, x8, x9, hl, h0, hp, _ => by
    by_cases hpos : 0 < left
    · obtain ⟨hy, hm⟩ := hp hpos
      obtain ⟨s, y4, y6, y7, y8, y9, e, hs, h0', _, hn⟩ := round (c := c) K x0 x4 x6 x7 x8 x9 hn8 hc E hE hE2 y left hy hl hpos
      rw [wh_go (by rw [fC_ok, decide_eq_true hpos]) e]
      refine fill_loop K x0 hn8 hc E hE hE2 m (y + s) _ y4 y6 y7 y8 y9 rfl h0' (fun h => ?_) ?_
      · obtain ⟨a, b⟩ := hn h
        exact ⟨a, by omega⟩
      · by_cases hz : 0 < E - fil n c (y + s)
        · obtain ⟨a, b⟩ := hn hz; omega
        · rcases Nat.eq_zero_or_pos m with h | h
          · exfalso
            have : (opn n c y).length = 0 := by omega
            have hno := List.length_eq_zero_iff.mp this
            have : fil n c y = sq ((rg n).map c) := sq_all c y _ fun k hk => by
              have : ¬ y < c k := fun e => by
                have := opn_mem.mpr ⟨List.mem_range.mp hk, e⟩
                rw [hno] at this; cases this
              exact Rat.not_lt.mp this
            rw [this] at hl
            grind
          · exact h
    · rw [wh_end (by rw [fC_ok, decide_eq_false hpos])]
      exact ⟨y, left, x4, _, x6, x7, x8, x9, rfl, by grind⟩
theorem reps_len (k : Nat) (x : PV) : reps (k : Int) [x] = List.replicate k x := by
  unfold reps
  rw [Int.toNat_natCast]
  induction k with
  | zero => rfl
  | succ k ih => rw [List.replicate_succ, List.flatten_cons, ih]; rfl
theorem map_const {α : Type} (l : List α) (f : α → PV) (v : PV) (h : ∀ k ∈ l, f k = v) : l.map f = List.replicate l.length v := by
  rw [List.map_congr_left h]
  exact List.map_const'
theorem lst_mul (x : PV) (k : Int) (h : 0 ≤ k ∧ k ≤ 1000) : bopE .Mult (R.ok (.lst [x])) (R.ok (.int k)) = .ok (.lst (reps k [x])) := by
  show need (-(2 ^ 63) ≤ k ∧ k < 2 ^ 63 ∧ [x].length * k.toNat ≤ line) (R.ok (PV.lst (reps k [x]))) = _
  have := line_big
  rw [need, if_pos ⟨by omega, by omega, by simp; omega⟩]
theorem filled_ok (K : Nat) (hn8 : n ≤ 8) (hc : ∀ k, k < n → Hf (c k) ∧ 0 ≤ c k) (E : Int) (h0 : 0 ≤ E) (hE2 : (E : Rat) ≤ sq ((rg n).map c)) (q : Rat) (hq : fil n c q = (E : Rat)) :
    callN PP MM 60 (K + 3) "_law_filled" [.tup [.int E, .int 1], qL (rg n) c] = .ok (qL (rg n) fun k => mn (c k) q) := by
  rw [r__law_filled]
  unfold b__law_filled
  generalize eρ : ([some (PV.tup [.int E, .int 1], false), some (qL (rg n) c, false), none, none, none, none, none, none, none, none, none] : PyV.Env) = ρ
  have s0 : slot 0 ρ = .ok (rv (E : Rat)) := by rw [← eρ]; rfl
  have s1 : slot 1 ρ = .ok (qL (rg n) c) := by rw [← eρ]; rfl
  have hz : ∀ k ∈ rg n, rv (mn (c k) 0) = rv 0 := fun k hk => by
    have := (hc k (List.mem_range.mp hk)).2
    have : mn (c k) 0 = 0 := by unfold mn; grind
    rw [this]
  have em : bopE .Mult (lstE [(tupE [(R.ok (.int 0)), (R.ok (.int 1))])]) (bltE "len" [(slot 1 ρ)]) = .ok (qL (rg n) fun k => mn (c k) 0) := by
    rw [s1, len_lst, List.length_map, List.length_range]
    rw [show lstE [(tupE [(R.ok (.int 0)), (R.ok (.int 1))])] = R.ok (.lst [rv 0]) from rfl, lst_mul _ _ ⟨by omega, by omega⟩, reps_len]
    show _ = R.ok (PV.lst ((rg n).map fun k => rv (mn (c k) 0)))
    rw [map_const _ _ _ hz, List.length_range]
  have eu : unpO ρ [2, 3] 0 2 (tupE [(bopE .Mult (lstE [(tupE [(R.ok (.int 0)), (R.ok (.int 1))])]) (bltE "len" [(slot 1 ρ)])), (slot 0 ρ)]) [1, 0] = .nx [some (PV.tup [.int E, .int 1], false), some (qL (rg n) c, false), some (qL (rg n) fun k => mn (c k) 0, true), some (rv (E : Rat), false), none, none, none, none, none, none, none] := by
    rw [em, s0, tup2]
    unfold unpO
    rw [liftR_ok]
    rw [show bindN [2, 3] (.tup [qL (rg n) fun k => mn (c k) 0, rv (E : Rat)]) ρ = .ok [some (PV.tup [.int E, .int 1], false), some (qL (rg n) c, false), some (qL (rg n) fun k => mn (c k) 0, false), some (rv (E : Rat), false), none, none, none, none, none, none, none] by rw [← eρ]; rfl]
    have e2 : unpOwn [2, 3] 0 2 (.tup [qL (rg n) fun k => mn (c k) 0, rv (E : Rat)]) ρ [some (PV.tup [.int E, .int 1], false), some (qL (rg n) c, false), some (qL (rg n) fun k => mn (c k) 0, false), some (rv (E : Rat), false), none, none, none, none, none, none, none] = some [some (PV.tup [.int E, .int 1], false), some (qL (rg n) c, false), some (qL (rg n) fun k => mn (c k) 0, true), some (rv (E : Rat), false), none, none, none, none, none, none, none] := by
      unfold unpOwn
      show (if (arePure [rv (E : Rat)] && arePure ((rg n).map fun k => rv (mn (c k) 0)) && _ && decide (2 < ρ.length)) = true then _ else _) = _
      rw [pure_qs, if_pos (by rw [← eρ]; rfl)]
      rfl
    show (match unpOwn [2, 3] 0 2 (.tup [qL (rg n) fun k => mn (c k) 0, rv (E : Rat)]) ρ [some (PV.tup [.int E, .int 1], false), some (qL (rg n) c, false), some (qL (rg n) fun k => mn (c k) 0, false), some (rv (E : Rat), false), none, none, none, none, none, none, none] with | some ρ2 => SR.nx ρ2 | none => _) = _
    rw [e2]
  rw [eu, then_nx]
  generalize eρ2 : ([some (PV.tup [.int E, .int 1], false), some (qL (rg n) c, false), some (qL (rg n) fun k => mn (c k) 0, true), some (rv (E : Rat), false), none, none, none, none, none, none, none] : PyV.Env) = ρ2
  have t1 : slot 1 ρ2 = .ok (qL (rg n) c) := by rw [← eρ2]; rfl
  have eo : (compE true (rngI [(bltE "len" [(slot 1 ρ2)])]) (fun x => bind1 4 x (wipes ρ2 [10, 4])) (fun ρ => (cmpT .Gt (ixE (ixE (slot 1 ρ) (slot 4 ρ)) (R.ok (.int 0))) (R.ok (.int 0)))) (fun ρ => (slot 4 ρ))) = .ok (.lst (ixs (opn n c 0))) := by
    have hlb := line_big
    refine compE_F (fun (k : Nat) => PV.int (k : Nat)) _ (fun k => decide (0 < c k)) ?_ (.inl (by rw [List.length_range]; omega)) fun k hk => ?_
    · rw [t1, len_lst, List.length_map, List.length_range, range1 n (by omega), rangeL_map]
    · have hk := List.mem_range.mp hk
      generalize eρ3 : ((wipes ρ2 [10, 4]).set 4 (some (PV.int (k : Nat), false))) = ρ3
      refine ⟨ρ3, by rw [← eρ3]; rfl, ?_, by rw [← eρ3, ← eρ2]; rfl⟩
      rw [show slot 1 ρ3 = .ok (qL (rg n) c) by rw [← eρ3, ← eρ2]; rfl, show slot 4 ρ3 = .ok (.int (k : Nat)) by rw [← eρ3, ← eρ2]; rfl, ixR (fun k => rv (c k)) hk]
      exact pos_ok _
  rw [eo, setS_held _ _ _ _ (pure_ixs _), then_nx, ← eρ2]
  show finS false (SR.then (whileLoop fC (fB (callN PP MM 60 (K + 2))) 100 (EF (sv (.tup [.int E, .int 1])) n c (fun k => mn (c k) 0) (E : Rat) none (opn n c 0) none none none none)) _) = _
  have hf0 : fil n c 0 = 0 := by
    have : fil n c 0 = sq ((rg n).map fun _ => (0 : Rat)) := by
      unfold fil
      congr 1
      refine List.map_congr_left fun k hk => ?_
      have := (hc k (List.mem_range.mp hk)).2
      unfold mn; grind
    rw [this]
    have : ∀ l : List Nat, sq (l.map fun _ => (0 : Rat)) = 0 := by
      intro l
      induction l with
      | nil => rfl
      | cons a l ih => show 0 + sq (l.map fun _ => (0 : Rat)) = 0; rw [ih]; grind
    exact this _
  obtain ⟨y', l', x4', os', x6', x7', x8', x9', e, hy⟩ := fill_loop (c := c) K (sv (.tup [.int E, .int 1])) hn8 (fun k hk => (hc k hk).1) (E : Rat) (Hf.int E) hE2 100 0 (E : Rat) none none none none none (by rw [hf0]; grind) (Rat.intCast_nonneg.mpr h0) (fun _ => ⟨Hf.int 0, by have := opn_len (n := n) (c := c) 0; omega⟩) (by omega)
  rw [e, then_nx]
  show finS false (SR.then (SR.ret (qL (rg n) fun k => mn (c k) y') _) _) = _
  rw [then_ret]
  have : ((rg n).map fun k => rv (mn (c k) y')) = (rg n).map fun k => rv (mn (c k) q) := List.map_congr_left fun k hk => by rw [uniq c (rg n) y' q (by unfold fil at hy hq; rw [hy, hq]) k hk]
  show finS false (SR.ret (.lst ((rg n).map fun k => rv (mn (c k) y'))) true) = .ok (.lst ((rg n).map fun k => rv (mn (c k) q)))
  rw [this]
  unfold finS
  rfl
end Law34
set_option Elab.async false
set_option linter.all false
set_option maxRecDepth 100000
set_option maxHeartbeats 400000
namespace Law34
open PySem PyV
/-! ### the law's own body, in parts (printed by cutlaw.py) -/
def sumB (call : Str → List PV → R PV) (ρ : PyV.Env) : SR :=
  (SR.then (setS ρ 16 (ownE call "_law_plus" 2 [(slot 16 ρ), (ixE (slot 15 ρ) (slot 3 ρ))]) false [16, 15, 3]) fun ρ =>
        SR.then (ifS ρ (orT (cmpT .Lt (ixE (ixE (slot 15 ρ) (slot 3 ρ)) (R.ok (.int 0))) (R.ok (.int 0))) (truT (ownE call "_law_less" 2 [(tupE [(ixE (slot 4 ρ) (slot 3 ρ)), (R.ok (.int 1))]), (ixE (slot 15 ρ) (slot 3 ρ))])))
        (SR.then (retS ρ (R.ok (.bl false)) (true)) fun ρ =>
          SR.nx ρ)
        (SR.nx ρ)) fun ρ =>
        SR.nx ρ)
def sumB_1 (call : Str → List PV → R PV) (ρ : PyV.Env) : SR :=
  (setS ρ 16 (ownE call "_law_plus" 2 [(slot 16 ρ), (ixE (slot 15 ρ) (slot 3 ρ))]) false [16, 15, 3])
def sumB_2 (call : Str → List PV → R PV) (ρ : PyV.Env) : SR :=
  (ifS ρ (orT (cmpT .Lt (ixE (ixE (slot 15 ρ) (slot 3 ρ)) (R.ok (.int 0))) (R.ok (.int 0))) (truT (ownE call "_law_less" 2 [(tupE [(ixE (slot 4 ρ) (slot 3 ρ)), (R.ok (.int 1))]), (ixE (slot 15 ρ) (slot 3 ρ))])))
        (SR.then (retS ρ (R.ok (.bl false)) (true)) fun ρ =>
          SR.nx ρ)
        (SR.nx ρ))
theorem sumB_eq (call : Str → List PV → R PV) (ρ : PyV.Env) : sumB call ρ = (SR.then (sumB_1 call ρ) fun ρ => SR.then (sumB_2 call ρ) fun ρ => SR.nx ρ) := rfl
def rowB (call : Str → List PV → R PV) (ρ : PyV.Env) : SR :=
  (SR.then (setS ρ 16 (tupE [(R.ok (.int 0)), (R.ok (.int 1))]) true []) fun ρ =>
      SR.then (forR ρ (rngI [(bltE "len" [(slot 4 ρ)])]) (fun x ρ => bind1 3 x ρ) (sumB call)) fun ρ =>
      SR.then (ifS ρ (cmpT .NotEq (slot 16 ρ) (tupE [(slot 6 ρ), (R.ok (.int 1))]))
      (SR.then (retS ρ (R.ok (.bl false)) (true)) fun ρ =>
        SR.nx ρ)
      (SR.nx ρ)) fun ρ =>
      SR.nx ρ)
def rowB_1 (call : Str → List PV → R PV) (ρ : PyV.Env) : SR :=
  (setS ρ 16 (tupE [(R.ok (.int 0)), (R.ok (.int 1))]) true [])
def rowB_2 (call : Str → List PV → R PV) (ρ : PyV.Env) : SR :=
  (forR ρ (rngI [(bltE "len" [(slot 4 ρ)])]) (fun x ρ => bind1 3 x ρ) (sumB call))
def rowB_3 (call : Str → List PV → R PV) (ρ : PyV.Env) : SR :=
  (ifS ρ (cmpT .NotEq (slot 16 ρ) (tupE [(slot 6 ρ), (R.ok (.int 1))]))
      (SR.then (retS ρ (R.ok (.bl false)) (true)) fun ρ =>
        SR.nx ρ)
      (SR.nx ρ))
theorem rowB_eq (call : Str → List PV → R PV) (ρ : PyV.Env) : rowB call ρ = (SR.then (rowB_1 call ρ) fun ρ => SR.then (rowB_2 call ρ) fun ρ => SR.then (rowB_3 call ρ) fun ρ => SR.nx ρ) := rfl
def nB (call : Str → List PV → R PV) (ρ : PyV.Env) : SR :=
  (SR.then (setS ρ 18 (ownE call "_law_plus" 2 [(ixE (slot 14 ρ) (slot 3 ρ)), (ixE (slot 14 ρ) (slot 17 ρ))]) false [14, 3, 14, 17]) fun ρ =>
        SR.then (unpS ρ [7, 19, 20] (tupE [(bopE .Mult (ixE (slot 4 ρ) (slot 3 ρ)) (ixE (slot 18 ρ) (R.ok (.int 1)))), (bopE .Mult (ixE (slot 4 ρ) (slot 17 ρ)) (ixE (slot 18 ρ) (R.ok (.int 1)))), (ixE (slot 18 ρ) (R.ok (.int 0)))]) [4, 3, 18, 4, 17, 18, 18]) fun ρ =>
        SR.then (unpS ρ [21, 22] (tupE [(bltE "max" [(R.ok (.int 0)), (bopE .Sub (slot 20 ρ) (slot 19 ρ))]), (bltE "max" [(R.ok (.int 0)), (bopE .Sub (slot 20 ρ) (slot 7 ρ))])]) [20, 19, 20, 7]) fun ρ =>
        SR.then (ifS ρ (cmpT .NotEq (ixE (slot 14 ρ) (slot 3 ρ)) (ownE call "_law_low" 2 [(bopE .Sub (bopE .Add (slot 21 ρ) (slot 20 ρ)) (slot 22 ρ)), (bopE .Mult (R.ok (.int 2)) (ixE (slot 18 ρ) (R.ok (.int 1))))]))
        (SR.then (retS ρ (R.ok (.bl false)) (true)) fun ρ =>
          SR.nx ρ)
        (SR.nx ρ)) fun ρ =>
        SR.then (ifS ρ (andT (cmpT .Eq (ixE (slot 18 ρ) (R.ok (.int 1))) (R.ok (.int 1))) (cmpT .NotEq (ownE call "two_rule" 3 [(ixE (slot 18 ρ) (R.ok (.int 0))), (ixE (slot 4 ρ) (slot 3 ρ)), (ixE (slot 4 ρ) (slot 17 ρ))]) (tupE [(ixE (slot 14 ρ) (slot 3 ρ)), (ixE (slot 14 ρ) (slot 17 ρ))])))
        (SR.then (retS ρ (R.ok (.bl false)) (true)) fun ρ =>
          SR.nx ρ)
        (SR.nx ρ)) fun ρ =>
        SR.nx ρ)
def nB_1 (call : Str → List PV → R PV) (ρ : PyV.Env) : SR :=
  (setS ρ 18 (ownE call "_law_plus" 2 [(ixE (slot 14 ρ) (slot 3 ρ)), (ixE (slot 14 ρ) (slot 17 ρ))]) false [14, 3, 14, 17])
def nB_2 (call : Str → List PV → R PV) (ρ : PyV.Env) : SR :=
  (unpS ρ [7, 19, 20] (tupE [(bopE .Mult (ixE (slot 4 ρ) (slot 3 ρ)) (ixE (slot 18 ρ) (R.ok (.int 1)))), (bopE .Mult (ixE (slot 4 ρ) (slot 17 ρ)) (ixE (slot 18 ρ) (R.ok (.int 1)))), (ixE (slot 18 ρ) (R.ok (.int 0)))]) [4, 3, 18, 4, 17, 18, 18])
def nB_3 (call : Str → List PV → R PV) (ρ : PyV.Env) : SR :=
  (unpS ρ [21, 22] (tupE [(bltE "max" [(R.ok (.int 0)), (bopE .Sub (slot 20 ρ) (slot 19 ρ))]), (bltE "max" [(R.ok (.int 0)), (bopE .Sub (slot 20 ρ) (slot 7 ρ))])]) [20, 19, 20, 7])
def nB_4 (call : Str → List PV → R PV) (ρ : PyV.Env) : SR :=
  (ifS ρ (cmpT .NotEq (ixE (slot 14 ρ) (slot 3 ρ)) (ownE call "_law_low" 2 [(bopE .Sub (bopE .Add (slot 21 ρ) (slot 20 ρ)) (slot 22 ρ)), (bopE .Mult (R.ok (.int 2)) (ixE (slot 18 ρ) (R.ok (.int 1))))]))
        (SR.then (retS ρ (R.ok (.bl false)) (true)) fun ρ =>
          SR.nx ρ)
        (SR.nx ρ))
def nB_5 (call : Str → List PV → R PV) (ρ : PyV.Env) : SR :=
  (ifS ρ (andT (cmpT .Eq (ixE (slot 18 ρ) (R.ok (.int 1))) (R.ok (.int 1))) (cmpT .NotEq (ownE call "two_rule" 3 [(ixE (slot 18 ρ) (R.ok (.int 0))), (ixE (slot 4 ρ) (slot 3 ρ)), (ixE (slot 4 ρ) (slot 17 ρ))]) (tupE [(ixE (slot 14 ρ) (slot 3 ρ)), (ixE (slot 14 ρ) (slot 17 ρ))])))
        (SR.then (retS ρ (R.ok (.bl false)) (true)) fun ρ =>
          SR.nx ρ)
        (SR.nx ρ))
theorem nB_eq (call : Str → List PV → R PV) (ρ : PyV.Env) : nB call ρ = (SR.then (nB_1 call ρ) fun ρ => SR.then (nB_2 call ρ) fun ρ => SR.then (nB_3 call ρ) fun ρ => SR.then (nB_4 call ρ) fun ρ => SR.then (nB_5 call ρ) fun ρ => SR.nx ρ) := rfl
def kB (call : Str → List PV → R PV) (ρ : PyV.Env) : SR :=
  (SR.then (forR ρ (rngI [(bopE .Add (slot 3 ρ) (R.ok (.int 1))), (bltE "len" [(slot 4 ρ)])]) (fun x ρ => bind1 17 x ρ) (nB call)) fun ρ =>
      SR.nx ρ)
def wrB (call : Str → List PV → R PV) (ρ : PyV.Env) : SR :=
  (SR.then (ifS ρ (cmpT .NotEq (compE true (rngI [(R.ok (.int 3))]) (fun x => bind1 25 x (wipes ρ [24, 25])) (fun ρ => noIf) (fun ρ => (ownE call "_law_word" 3 [(slot 25 ρ), (R.ok (.int 0)), (slot 23 ρ)]))) (bopE .Mult (lstE [(R.ok (.str [99, 108, 97, 105, 109, 115]))]) (R.ok (.int 3))))
      (SR.then (retS ρ (R.ok (.bl false)) (true)) fun ρ =>
        SR.nx ρ)
      (SR.nx ρ)) fun ρ =>
      SR.nx ρ)
def trB (call : Str → List PV → R PV) (ρ : PyV.Env) : SR :=
  (SR.then (setS ρ 4 (bltTE "tuple" [(compE true (rngI [(bopE .Add (R.ok (.int 1)) (bopE .Mod (bltTE "int" [(ixE (slot 1 ρ) (bopE .Add (R.ok (.int 50)) (slot 2 ρ)))]) (R.ok (.int 8))))]) (fun x => bind1 3 x (wipes ρ [24, 3])) (fun ρ => noIf) (fun ρ => (bopE .Mod (bltTE "int" [(ixE (slot 1 ρ) (bopE .Add (bopE .Mult (R.ok (.int 8)) (slot 2 ρ)) (slot 3 ρ)))]) (ixE (lstE [(R.ok (.int 101)), (R.ok (.int 9)), (R.ok (.int 30)), (R.ok (.int 4)), (R.ok (.int 60)), (R.ok (.int 12))]) (slot 2 ρ)))))]) true [1, 2, 3, 2, 1, 2]) fun ρ =>
    SR.then (setS ρ 5 (bltE "sum" [(slot 4 ρ)]) true [4]) fun ρ =>
    SR.then (setS ρ 6 (bopE .Mod (bopE .FloorDiv (bltTE "int" [(ixE (slot 1 ρ) (R.ok (.int 54)))]) (bopE .Add (R.ok (.int 1)) (slot 2 ρ))) (bopE .Add (slot 5 ρ) (R.ok (.int 1)))) true [1, 2, 5]) fun ρ =>
    SR.then (unpS ρ [8, 9] (tupE [(compE false (itmI (slot 4 ρ)) (fun x => bind1 7 x (wipes ρ [24, 7])) (fun ρ => noIf) (fun ρ => (tupE [(slot 7 ρ), (R.ok (.int 1))]))), (compE false (itmI (slot 4 ρ)) (fun x => bind1 7 x (wipes ρ [24, 7])) (fun ρ => noIf) (fun ρ => (ownE call "_law_low" 2 [(slot 7 ρ), (R.ok (.int 2))])))]) [7, 4, 7, 4]) fun ρ =>
    SR.then (setS ρ 10 (ownE call "_law_filled" 2 [(tupE [(slot 6 ρ), (R.ok (.int 1))]), (slot 8 ρ)]) false [6, 8]) fun ρ =>
    SR.then (setS ρ 11 (ownE call "_law_filled" 2 [(tupE [(bopE .Sub (slot 5 ρ) (slot 6 ρ)), (R.ok (.int 1))]), (slot 8 ρ)]) false [5, 6, 8]) fun ρ =>
    SR.then (ifS ρ (orT (cmpT .NotEq (ownE call "equal_gains" 2 [(slot 6 ρ), (slot 4 ρ)]) (bltTE "tuple" [(slot 10 ρ)])) (cmpT .NotEq (ownE call "equal_losses" 2 [(slot 6 ρ), (slot 4 ρ)]) (bltTE "tuple" [(compE true (rngI [(bltE "len" [(slot 4 ρ)])]) (fun x => bind1 3 x (wipes ρ [24, 3])) (fun ρ => noIf) (fun ρ => (ownE call "_law_plus" 2 [(ixE (slot 8 ρ) (slot 3 ρ)), (tupE [(bopE .Sub (R.ok (.int 0)) (ixE (ixE (slot 11 ρ) (slot 3 ρ)) (R.ok (.int 0)))), (ixE (ixE (slot 11 ρ) (slot 3 ρ)) (R.ok (.int 1)))])])))])))
    (SR.then (retS ρ (R.ok (.bl false)) (true)) fun ρ =>
      SR.nx ρ)
    (SR.nx ρ)) fun ρ =>
    SR.then (ifS ρ (cmpT .LtE (bopE .Mult (R.ok (.int 2)) (slot 6 ρ)) (slot 5 ρ))
    (SR.then (setS ρ 12 (ownE call "_law_filled" 2 [(tupE [(slot 6 ρ), (R.ok (.int 1))]), (slot 9 ρ)]) false [6, 9]) fun ρ =>
      SR.nx ρ)
    (SR.then (setS ρ 13 (ownE call "_law_filled" 2 [(tupE [(bopE .Sub (slot 5 ρ) (slot 6 ρ)), (R.ok (.int 1))]), (slot 9 ρ)]) false [5, 6, 9]) fun ρ =>
      SR.then (setS ρ 12 (compE true (rngI [(bltE "len" [(slot 4 ρ)])]) (fun x => bind1 3 x (wipes ρ [24, 3])) (fun ρ => noIf) (fun ρ => (ownE call "_law_plus" 2 [(ixE (slot 8 ρ) (slot 3 ρ)), (tupE [(bopE .Sub (R.ok (.int 0)) (ixE (ixE (slot 13 ρ) (slot 3 ρ)) (R.ok (.int 0)))), (ixE (ixE (slot 13 ρ) (slot 3 ρ)) (R.ok (.int 1)))])]))) true [8, 3, 13, 3, 13, 3, 4]) fun ρ =>
      SR.nx ρ)) fun ρ =>
    SR.then (setS ρ 14 (ownE call "half_rule" 2 [(slot 6 ρ), (slot 4 ρ)]) false [6, 4]) fun ρ =>
    SR.then (ifS ρ (cmpT .NotEq (slot 14 ρ) (bltTE "tuple" [(slot 12 ρ)]))
    (SR.then (retS ρ (R.ok (.bl false)) (true)) fun ρ =>
      SR.nx ρ)
    (SR.nx ρ)) fun ρ =>
    SR.then (forG ρ (lstE [(ownE call "equal_gains" 2 [(slot 6 ρ), (slot 4 ρ)]), (ownE call "equal_losses" 2 [(slot 6 ρ), (slot 4 ρ)]), (slot 14 ρ)]) true true [6, 4, 6, 4, 14] (fun x ρ => bind1 15 x ρ) (rowB call)) fun ρ =>
    SR.then (forR ρ (rngI [(bltE "len" [(slot 4 ρ)])]) (fun x ρ => bind1 3 x ρ) (kB call)) fun ρ =>
    SR.then (forG ρ (lstE [(R.ok (.non)), (tupE []), (bltTE "list" [(slot 4 ρ)]), (bopE .Add (slot 4 ρ) (tupE [(R.ok (.int 101))])), (bopE .Add (slot 4 ρ) (tupE [(uopE .USub (R.ok (.int 1)))])), (bopE .Add (slot 4 ρ) (tupE [(R.ok (.bl true))])), (bopE .Mult (tupE [(R.ok (.int 1))]) (R.ok (.int 9))), (R.ok (.int 5)), (bopE .Add (slot 4 ρ) (tupE [(R.ok (.non))]))]) true true [4, 4, 4, 4, 4] (fun x ρ => bind1 23 x ρ) (wrB call)) fun ρ =>
    SR.then (ifS ρ (notT (truT (bltE "all" [(compE false (itmI (lstE [(R.ok (.non)), (uopE .USub (R.ok (.int 1))), (bopE .Add (slot 5 ρ) (R.ok (.int 1))), (ifE (cmpT .Gt (slot 5 ρ) (R.ok (.int 0))) (R.ok (.bl true)) (uopE .USub (R.ok (.int 2)))), (R.ok (.str [49]))])) (fun x => bind1 23 x (wipes ρ [24, 23])) (fun ρ => noIf) (fun ρ => (cmpE .Eq (compE true (rngI [(R.ok (.int 3))]) (fun x => bind1 25 x (wipes ρ [24, 25])) (fun ρ => noIf) (fun ρ => (ownE call "_law_word" 3 [(slot 25 ρ), (slot 23 ρ), (slot 4 ρ)]))) (bopE .Mult (lstE [(R.ok (.str [101, 115, 116, 97, 116, 101]))]) (R.ok (.int 3))))))])))
    (SR.then (retS ρ (R.ok (.bl false)) (true)) fun ρ =>
      SR.nx ρ)
    (SR.nx ρ)) fun ρ =>
    SR.nx ρ)
def trB_1 (call : Str → List PV → R PV) (ρ : PyV.Env) : SR :=
  (setS ρ 4 (bltTE "tuple" [(compE true (rngI [(bopE .Add (R.ok (.int 1)) (bopE .Mod (bltTE "int" [(ixE (slot 1 ρ) (bopE .Add (R.ok (.int 50)) (slot 2 ρ)))]) (R.ok (.int 8))))]) (fun x => bind1 3 x (wipes ρ [24, 3])) (fun ρ => noIf) (fun ρ => (bopE .Mod (bltTE "int" [(ixE (slot 1 ρ) (bopE .Add (bopE .Mult (R.ok (.int 8)) (slot 2 ρ)) (slot 3 ρ)))]) (ixE (lstE [(R.ok (.int 101)), (R.ok (.int 9)), (R.ok (.int 30)), (R.ok (.int 4)), (R.ok (.int 60)), (R.ok (.int 12))]) (slot 2 ρ)))))]) true [1, 2, 3, 2, 1, 2])
def trB_2 (call : Str → List PV → R PV) (ρ : PyV.Env) : SR :=
  (setS ρ 5 (bltE "sum" [(slot 4 ρ)]) true [4])
def trB_3 (call : Str → List PV → R PV) (ρ : PyV.Env) : SR :=
  (setS ρ 6 (bopE .Mod (bopE .FloorDiv (bltTE "int" [(ixE (slot 1 ρ) (R.ok (.int 54)))]) (bopE .Add (R.ok (.int 1)) (slot 2 ρ))) (bopE .Add (slot 5 ρ) (R.ok (.int 1)))) true [1, 2, 5])
def trB_4 (call : Str → List PV → R PV) (ρ : PyV.Env) : SR :=
  (unpS ρ [8, 9] (tupE [(compE false (itmI (slot 4 ρ)) (fun x => bind1 7 x (wipes ρ [24, 7])) (fun ρ => noIf) (fun ρ => (tupE [(slot 7 ρ), (R.ok (.int 1))]))), (compE false (itmI (slot 4 ρ)) (fun x => bind1 7 x (wipes ρ [24, 7])) (fun ρ => noIf) (fun ρ => (ownE call "_law_low" 2 [(slot 7 ρ), (R.ok (.int 2))])))]) [7, 4, 7, 4])
def trB_5 (call : Str → List PV → R PV) (ρ : PyV.Env) : SR :=
  (setS ρ 10 (ownE call "_law_filled" 2 [(tupE [(slot 6 ρ), (R.ok (.int 1))]), (slot 8 ρ)]) false [6, 8])
def trB_6 (call : Str → List PV → R PV) (ρ : PyV.Env) : SR :=
  (setS ρ 11 (ownE call "_law_filled" 2 [(tupE [(bopE .Sub (slot 5 ρ) (slot 6 ρ)), (R.ok (.int 1))]), (slot 8 ρ)]) false [5, 6, 8])
def trB_7 (call : Str → List PV → R PV) (ρ : PyV.Env) : SR :=
  (ifS ρ (orT (cmpT .NotEq (ownE call "equal_gains" 2 [(slot 6 ρ), (slot 4 ρ)]) (bltTE "tuple" [(slot 10 ρ)])) (cmpT .NotEq (ownE call "equal_losses" 2 [(slot 6 ρ), (slot 4 ρ)]) (bltTE "tuple" [(compE true (rngI [(bltE "len" [(slot 4 ρ)])]) (fun x => bind1 3 x (wipes ρ [24, 3])) (fun ρ => noIf) (fun ρ => (ownE call "_law_plus" 2 [(ixE (slot 8 ρ) (slot 3 ρ)), (tupE [(bopE .Sub (R.ok (.int 0)) (ixE (ixE (slot 11 ρ) (slot 3 ρ)) (R.ok (.int 0)))), (ixE (ixE (slot 11 ρ) (slot 3 ρ)) (R.ok (.int 1)))])])))])))
    (SR.then (retS ρ (R.ok (.bl false)) (true)) fun ρ =>
      SR.nx ρ)
    (SR.nx ρ))
def trB_8 (call : Str → List PV → R PV) (ρ : PyV.Env) : SR :=
  (ifS ρ (cmpT .LtE (bopE .Mult (R.ok (.int 2)) (slot 6 ρ)) (slot 5 ρ))
    (SR.then (setS ρ 12 (ownE call "_law_filled" 2 [(tupE [(slot 6 ρ), (R.ok (.int 1))]), (slot 9 ρ)]) false [6, 9]) fun ρ =>
      SR.nx ρ)
    (SR.then (setS ρ 13 (ownE call "_law_filled" 2 [(tupE [(bopE .Sub (slot 5 ρ) (slot 6 ρ)), (R.ok (.int 1))]), (slot 9 ρ)]) false [5, 6, 9]) fun ρ =>
      SR.then (setS ρ 12 (compE true (rngI [(bltE "len" [(slot 4 ρ)])]) (fun x => bind1 3 x (wipes ρ [24, 3])) (fun ρ => noIf) (fun ρ => (ownE call "_law_plus" 2 [(ixE (slot 8 ρ) (slot 3 ρ)), (tupE [(bopE .Sub (R.ok (.int 0)) (ixE (ixE (slot 13 ρ) (slot 3 ρ)) (R.ok (.int 0)))), (ixE (ixE (slot 13 ρ) (slot 3 ρ)) (R.ok (.int 1)))])]))) true [8, 3, 13, 3, 13, 3, 4]) fun ρ =>
      SR.nx ρ))
def trB_9 (call : Str → List PV → R PV) (ρ : PyV.Env) : SR :=
  (setS ρ 14 (ownE call "half_rule" 2 [(slot 6 ρ), (slot 4 ρ)]) false [6, 4])
def trB_10 (call : Str → List PV → R PV) (ρ : PyV.Env) : SR :=
  (ifS ρ (cmpT .NotEq (slot 14 ρ) (bltTE "tuple" [(slot 12 ρ)]))
    (SR.then (retS ρ (R.ok (.bl false)) (true)) fun ρ =>
      SR.nx ρ)
    (SR.nx ρ))
def trB_11 (call : Str → List PV → R PV) (ρ : PyV.Env) : SR :=
  (forG ρ (lstE [(ownE call "equal_gains" 2 [(slot 6 ρ), (slot 4 ρ)]), (ownE call "equal_losses" 2 [(slot 6 ρ), (slot 4 ρ)]), (slot 14 ρ)]) true true [6, 4, 6, 4, 14] (fun x ρ => bind1 15 x ρ) (rowB call))
def trB_12 (call : Str → List PV → R PV) (ρ : PyV.Env) : SR :=
  (forR ρ (rngI [(bltE "len" [(slot 4 ρ)])]) (fun x ρ => bind1 3 x ρ) (kB call))
def trB_13 (call : Str → List PV → R PV) (ρ : PyV.Env) : SR :=
  (forG ρ (lstE [(R.ok (.non)), (tupE []), (bltTE "list" [(slot 4 ρ)]), (bopE .Add (slot 4 ρ) (tupE [(R.ok (.int 101))])), (bopE .Add (slot 4 ρ) (tupE [(uopE .USub (R.ok (.int 1)))])), (bopE .Add (slot 4 ρ) (tupE [(R.ok (.bl true))])), (bopE .Mult (tupE [(R.ok (.int 1))]) (R.ok (.int 9))), (R.ok (.int 5)), (bopE .Add (slot 4 ρ) (tupE [(R.ok (.non))]))]) true true [4, 4, 4, 4, 4] (fun x ρ => bind1 23 x ρ) (wrB call))
def trB_14 (call : Str → List PV → R PV) (ρ : PyV.Env) : SR :=
  (ifS ρ (notT (truT (bltE "all" [(compE false (itmI (lstE [(R.ok (.non)), (uopE .USub (R.ok (.int 1))), (bopE .Add (slot 5 ρ) (R.ok (.int 1))), (ifE (cmpT .Gt (slot 5 ρ) (R.ok (.int 0))) (R.ok (.bl true)) (uopE .USub (R.ok (.int 2)))), (R.ok (.str [49]))])) (fun x => bind1 23 x (wipes ρ [24, 23])) (fun ρ => noIf) (fun ρ => (cmpE .Eq (compE true (rngI [(R.ok (.int 3))]) (fun x => bind1 25 x (wipes ρ [24, 25])) (fun ρ => noIf) (fun ρ => (ownE call "_law_word" 3 [(slot 25 ρ), (slot 23 ρ), (slot 4 ρ)]))) (bopE .Mult (lstE [(R.ok (.str [101, 115, 116, 97, 116, 101]))]) (R.ok (.int 3))))))])))
    (SR.then (retS ρ (R.ok (.bl false)) (true)) fun ρ =>
      SR.nx ρ)
    (SR.nx ρ))
theorem trB_eq (call : Str → List PV → R PV) (ρ : PyV.Env) : trB call ρ = (SR.then (trB_1 call ρ) fun ρ => SR.then (trB_2 call ρ) fun ρ => SR.then (trB_3 call ρ) fun ρ => SR.then (trB_4 call ρ) fun ρ => SR.then (trB_5 call ρ) fun ρ => SR.then (trB_6 call ρ) fun ρ => SR.then (trB_7 call ρ) fun ρ => SR.then (trB_8 call ρ) fun ρ => SR.then (trB_9 call ρ) fun ρ => SR.then (trB_10 call ρ) fun ρ => SR.then (trB_11 call ρ) fun ρ => SR.then (trB_12 call ρ) fun ρ => SR.then (trB_13 call ρ) fun ρ => SR.then (trB_14 call ρ) fun ρ => SR.nx ρ) := rfl
def b_lawS (call : Str → List PV → R PV) (ρ : PyV.Env) : SR :=
  (SR.then (setS ρ 1 (ownE call "_law_draws" 2 [(slot 0 ρ), (R.ok (.int 60))]) false [0]) fun ρ =>
  SR.then (forR ρ (rngI [(R.ok (.int 6))]) (fun x ρ => bind1 2 x ρ) (trB call)) fun ρ =>
  SR.then (ifS ρ (orT (cmpT .NotEq (compE false (itmI (lstE [(R.ok (.non)), (uopE .USub (R.ok (.int 1))), (R.ok (.int 101)), (R.ok (.bl true))])) (fun x => bind1 23 x (wipes ρ [24, 23])) (fun ρ => noIf) (fun ρ => (ownE call "_law_word" 3 [(R.ok (.int 3)), (R.ok (.int 0)), (slot 23 ρ)]))) (bopE .Mult (lstE [(R.ok (.str [99, 108, 97, 105, 109, 115]))]) (R.ok (.int 4)))) (cmpT .NotEq (compE false (itmI (lstE [(R.ok (.non)), (uopE .USub (R.ok (.int 1))), (R.ok (.int 9))])) (fun x => bind1 23 x (wipes ρ [24, 23])) (fun ρ => noIf) (fun ρ => (ownE call "_law_word" 3 [(R.ok (.int 3)), (slot 23 ρ), (R.ok (.int 3))]))) (bopE .Mult (lstE [(R.ok (.str [101, 115, 116, 97, 116, 101]))]) (R.ok (.int 3)))))
  (SR.then (retS ρ (R.ok (.bl false)) (true)) fun ρ =>
    SR.nx ρ)
  (SR.nx ρ)) fun ρ =>
  SR.then (ifS ρ (orT (cmpT .NotEq (ownE call "half_rule" 2 [(R.ok (.int 100)), (bopE .Add (slE (tupE [(R.ok (.int 100)), (R.ok (.int 200)), (R.ok (.int 300))]) optN (optS (R.ok (.int 1)))) (tupE [(R.ok (.int 100)), (R.ok (.int 100))]))]) (bopE .Mult (tupE [(tupE [(R.ok (.int 100)), (R.ok (.int 3))])]) (R.ok (.int 3)))) (orT (cmpT .NotEq (ownE call "half_rule" 2 [(R.ok (.int 50)), (tupE [(R.ok (.int 25)), (R.ok (.int 50)), (R.ok (.int 75))])]) (tupE [(tupE [(R.ok (.int 25)), (R.ok (.int 2))]), (tupE [(R.ok (.int 75)), (R.ok (.int 4))]), (tupE [(R.ok (.int 75)), (R.ok (.int 4))])])) (cmpT .NotEq (ownE call "two_rule" 3 [(R.ok (.int 50)), (R.ok (.int 50)), (R.ok (.int 25))]) (tupE [(tupE [(R.ok (.int 75)), (R.ok (.int 2))]), (tupE [(R.ok (.int 25)), (R.ok (.int 2))])]))))
  (SR.then (retS ρ (R.ok (.bl false)) (true)) fun ρ =>
    SR.nx ρ)
  (SR.nx ρ)) fun ρ =>
  SR.then (ifS ρ (orT (cmpT .NotEq (ownE call "equal_gains" 2 [(R.ok (.int 50)), (tupE [(R.ok (.int 25)), (R.ok (.int 50)), (R.ok (.int 75))])]) (bopE .Mult (tupE [(tupE [(R.ok (.int 50)), (R.ok (.int 3))])]) (R.ok (.int 3)))) (cmpT .NotEq (ownE call "equal_losses" 2 [(R.ok (.int 50)), (tupE [(R.ok (.int 25)), (R.ok (.int 50)), (R.ok (.int 75))])]) (tupE [(tupE [(R.ok (.int 0)), (R.ok (.int 1))]), (tupE [(R.ok (.int 25)), (R.ok (.int 2))]), (tupE [(R.ok (.int 75)), (R.ok (.int 2))])])))
  (SR.then (retS ρ (R.ok (.bl false)) (true)) fun ρ =>
    SR.nx ρ)
  (SR.nx ρ)) fun ρ =>
  SR.then (retS ρ (andE (cmpE .Eq (ownE call "two_rule" 3 [(R.ok (.int 0)), (R.ok (.int 0)), (R.ok (.int 0))]) (tupE [(tupE [(R.ok (.int 0)), (R.ok (.int 1))]), (tupE [(R.ok (.int 0)), (R.ok (.int 1))])])) (cmpE .Eq (ownE call "half_rule" 2 [(R.ok (.int 100)), (tupE [(R.ok (.int 25)), (R.ok (.int 50)), (R.ok (.int 75))])]) (tupE [(tupE [(R.ok (.int 25)), (R.ok (.int 2))]), (tupE [(R.ok (.int 125)), (R.ok (.int 4))]), (tupE [(R.ok (.int 225)), (R.ok (.int 4))])]))) (false)) fun ρ =>
  SR.nx ρ)
theorem b_law_split (call : Str → List PV → R PV) (ρ : PyV.Env) : b_law call ρ = b_lawS call ρ := rfl
def b_lawS_1 (call : Str → List PV → R PV) (ρ : PyV.Env) : SR :=
  (setS ρ 1 (ownE call "_law_draws" 2 [(slot 0 ρ), (R.ok (.int 60))]) false [0])
def b_lawS_2 (call : Str → List PV → R PV) (ρ : PyV.Env) : SR :=
  (forR ρ (rngI [(R.ok (.int 6))]) (fun x ρ => bind1 2 x ρ) (trB call))
def b_lawS_3 (call : Str → List PV → R PV) (ρ : PyV.Env) : SR :=
  (ifS ρ (orT (cmpT .NotEq (compE false (itmI (lstE [(R.ok (.non)), (uopE .USub (R.ok (.int 1))), (R.ok (.int 101)), (R.ok (.bl true))])) (fun x => bind1 23 x (wipes ρ [24, 23])) (fun ρ => noIf) (fun ρ => (ownE call "_law_word" 3 [(R.ok (.int 3)), (R.ok (.int 0)), (slot 23 ρ)]))) (bopE .Mult (lstE [(R.ok (.str [99, 108, 97, 105, 109, 115]))]) (R.ok (.int 4)))) (cmpT .NotEq (compE false (itmI (lstE [(R.ok (.non)), (uopE .USub (R.ok (.int 1))), (R.ok (.int 9))])) (fun x => bind1 23 x (wipes ρ [24, 23])) (fun ρ => noIf) (fun ρ => (ownE call "_law_word" 3 [(R.ok (.int 3)), (slot 23 ρ), (R.ok (.int 3))]))) (bopE .Mult (lstE [(R.ok (.str [101, 115, 116, 97, 116, 101]))]) (R.ok (.int 3)))))
  (SR.then (retS ρ (R.ok (.bl false)) (true)) fun ρ =>
    SR.nx ρ)
  (SR.nx ρ))
def b_lawS_4 (call : Str → List PV → R PV) (ρ : PyV.Env) : SR :=
  (ifS ρ (orT (cmpT .NotEq (ownE call "half_rule" 2 [(R.ok (.int 100)), (bopE .Add (slE (tupE [(R.ok (.int 100)), (R.ok (.int 200)), (R.ok (.int 300))]) optN (optS (R.ok (.int 1)))) (tupE [(R.ok (.int 100)), (R.ok (.int 100))]))]) (bopE .Mult (tupE [(tupE [(R.ok (.int 100)), (R.ok (.int 3))])]) (R.ok (.int 3)))) (orT (cmpT .NotEq (ownE call "half_rule" 2 [(R.ok (.int 50)), (tupE [(R.ok (.int 25)), (R.ok (.int 50)), (R.ok (.int 75))])]) (tupE [(tupE [(R.ok (.int 25)), (R.ok (.int 2))]), (tupE [(R.ok (.int 75)), (R.ok (.int 4))]), (tupE [(R.ok (.int 75)), (R.ok (.int 4))])])) (cmpT .NotEq (ownE call "two_rule" 3 [(R.ok (.int 50)), (R.ok (.int 50)), (R.ok (.int 25))]) (tupE [(tupE [(R.ok (.int 75)), (R.ok (.int 2))]), (tupE [(R.ok (.int 25)), (R.ok (.int 2))])]))))
  (SR.then (retS ρ (R.ok (.bl false)) (true)) fun ρ =>
    SR.nx ρ)
  (SR.nx ρ))
def b_lawS_5 (call : Str → List PV → R PV) (ρ : PyV.Env) : SR :=
  (ifS ρ (orT (cmpT .NotEq (ownE call "equal_gains" 2 [(R.ok (.int 50)), (tupE [(R.ok (.int 25)), (R.ok (.int 50)), (R.ok (.int 75))])]) (bopE .Mult (tupE [(tupE [(R.ok (.int 50)), (R.ok (.int 3))])]) (R.ok (.int 3)))) (cmpT .NotEq (ownE call "equal_losses" 2 [(R.ok (.int 50)), (tupE [(R.ok (.int 25)), (R.ok (.int 50)), (R.ok (.int 75))])]) (tupE [(tupE [(R.ok (.int 0)), (R.ok (.int 1))]), (tupE [(R.ok (.int 25)), (R.ok (.int 2))]), (tupE [(R.ok (.int 75)), (R.ok (.int 2))])])))
  (SR.then (retS ρ (R.ok (.bl false)) (true)) fun ρ =>
    SR.nx ρ)
  (SR.nx ρ))
def b_lawS_6 (call : Str → List PV → R PV) (ρ : PyV.Env) : SR :=
  (retS ρ (andE (cmpE .Eq (ownE call "two_rule" 3 [(R.ok (.int 0)), (R.ok (.int 0)), (R.ok (.int 0))]) (tupE [(tupE [(R.ok (.int 0)), (R.ok (.int 1))]), (tupE [(R.ok (.int 0)), (R.ok (.int 1))])])) (cmpE .Eq (ownE call "half_rule" 2 [(R.ok (.int 100)), (tupE [(R.ok (.int 25)), (R.ok (.int 50)), (R.ok (.int 75))])]) (tupE [(tupE [(R.ok (.int 25)), (R.ok (.int 2))]), (tupE [(R.ok (.int 125)), (R.ok (.int 4))]), (tupE [(R.ok (.int 225)), (R.ok (.int 4))])]))) (false))
theorem b_lawS_eq (call : Str → List PV → R PV) (ρ : PyV.Env) : b_lawS call ρ = (SR.then (b_lawS_1 call ρ) fun ρ => SR.then (b_lawS_2 call ρ) fun ρ => SR.then (b_lawS_3 call ρ) fun ρ => SR.then (b_lawS_4 call ρ) fun ρ => SR.then (b_lawS_5 call ρ) fun ρ => SR.then (b_lawS_6 call ρ) fun ρ => SR.nx ρ) := rfl
end Law34
set_option Elab.async false
set_option linter.all false
set_option maxRecDepth 100000
set_option maxHeartbeats 400000
namespace Law34
open PySem PyV
/-! ### rows and pairs -/
def mx0 (x : Rat) : Rat := if 0 < x then x else 0
theorem cast_max (m : Int) : ((max 0 m : Int) : Rat) = mx0 (m : Rat) := by
  unfold mx0
  by_cases h : 0 < m
  · rw [if_pos (Rat.intCast_pos.mpr h), show max 0 m = m by omega]
  · rw [if_neg (fun e => h (Rat.intCast_pos.mp e)), show max 0 m = 0 by omega]; rfl
theorem num_eq (p : Rat) : (p.num : Rat) = p * (p.den : Rat) := by
  have h := mk_int p.num p.den
  rw [Rat.mkRat_self] at h
  have h2 := inv1_mul (den_pos p)
  have : ∀ u v d q : Rat, q = u * v → v * d = 1 → u = q * d := by
    intro u v d q h h2
    rw [h, Rat.mul_assoc, h2, Rat.mul_one]
  exact this _ _ _ _ h h2
theorem mx0_mul (x d : Rat) (h : 0 < d) : mx0 (x * d) = mx0 x * d := by
  unfold mx0
  by_cases hx : 0 < x
  · rw [if_pos hx, if_pos (Rat.mul_pos hx h)]
  · rw [if_neg hx, if_neg (fun e => hx ((Rat.mul_pos_iff_of_pos_right h).mp e)), Rat.zero_mul]
theorem pr1 (a b q h x y : Rat) (hx : x = mn a q * h) (hy : y = mn b q * h) (hh : h * 2 = 1) (h0 : 0 ≤ q) (ha : 0 ≤ a) (hb : 0 ≤ b) : x - y = mx0 (x + y - b) - mx0 (x + y - a) := by
  have : x * 2 = mn a q := by rw [hx]; grind
  have : y * 2 = mn b q := by rw [hy]; grind
  unfold mx0 mn at *
  grind
theorem pr2 (a b q h x y : Rat) (hx : x = a - mn a q * h) (hy : y = b - mn b q * h) (hh : h * 2 = 1) (h0 : 0 ≤ q) (ha : 0 ≤ a) (hb : 0 ≤ b) : x - y = mx0 (x + y - b) - mx0 (x + y - a) := by
  have : (a - x) * 2 = mn a q := by rw [hx]; grind
  have : (b - y) * 2 = mn b q := by rw [hy]; grind
  unfold mx0 mn at *
  grind
theorem pair_low (x y : Rat) (a b : Int) (hp : x - y = mx0 (x + y - (b : Rat)) - mx0 (x + y - (a : Rat))) :
    mkRat (max 0 ((x + y).num - b * ((x + y).den : Int)) + (x + y).num - max 0 ((x + y).num - a * ((x + y).den : Int))) (2 * (x + y).den) = x := by
  have hn := num_eq (x + y)
  have hd0 : (0 : Rat) < ((x + y).den : Rat) := Rat.natCast_pos.mpr (den_pos _)
  have hi := inv1_mul (n := 2 * (x + y).den) (by have := den_pos (x + y); omega)
  rw [mk_int, Rat.intCast_sub, Rat.intCast_add, cast_max, cast_max, Rat.intCast_sub, Rat.intCast_sub, Rat.intCast_mul, Rat.intCast_mul, Rat.intCast_natCast, hn]
  have e2 : ((2 * (x + y).den : Nat) : Rat) = 2 * ((x + y).den : Rat) := by rw [Rat.natCast_mul]; rfl
  rw [e2] at hi
  generalize ((x + y).den : Rat) = d at *
  generalize inv1 (2 * (x + y).den) = v at *
  have e3 : (x + y) * d - (b : Rat) * d = (x + y - (b : Rat)) * d := by grind
  have e4 : (x + y) * d - (a : Rat) * d = (x + y - (a : Rat)) * d := by grind
  rw [e3, e4, mx0_mul _ _ hd0, mx0_mul _ _ hd0]
  have : (mx0 (x + y - (b : Rat)) * d + (x + y) * d - mx0 (x + y - (a : Rat)) * d) = x * (2 * d) := by
    have : mx0 (x + y - (b : Rat)) = x - y + mx0 (x + y - (a : Rat)) := by grind
    rw [this]; grind
  rw [this, Rat.mul_assoc]
  have : 2 * d * v = v * (2 * d) := by grind
  rw [this, hi, Rat.mul_one]
structure RowQ (n : Nat) (c : Nat → Int) (E : Int) (r : Nat → Rat) : Prop where
  b : ∀ k, k < n → 0 ≤ r k ∧ r k ≤ (c k : Rat) ∧ Zf (r k)
  s : sq ((rg n).map r) = (E : Rat)
def PairQ (n : Nat) (c : Nat → Int) (r : Nat → Rat) : Prop := ∀ k j, k < n → j < n → r k - r j = mx0 (r k + r j - (c j : Rat)) - mx0 (r k + r j - (c k : Rat))
theorem den_of {q : Rat} (h : Zf q) : q.den < 32768 := by have := h.den; omega
theorem mn_nonneg {a q : Rat} (ha : 0 ≤ a) (hq : 0 ≤ q) : 0 ≤ mn a q := by unfold mn; grind
theorem mn_le {a q : Rat} : mn a q ≤ a := by unfold mn; grind
theorem mn_half (a q : Rat) : mn (a * inv1 2) (q * inv1 2) = mn a q * inv1 2 := by
  have ea : a * inv1 2 * 2 = a := by rw [Rat.mul_assoc, half_mul, Rat.mul_one]
  have eq : q * inv1 2 * 2 = q := by rw [Rat.mul_assoc, half_mul, Rat.mul_one]
  unfold mn
  by_cases h : q < a
  · rw [if_pos h, if_pos (by grind)]
  · rw [if_neg h, if_neg (by grind)]
theorem half_le {x a : Rat} (h : x ≤ a) (h0 : 0 ≤ x) : x * inv1 2 ≤ a ∧ 0 ≤ x * inv1 2 := by
  have ea : x * inv1 2 * 2 = x := by rw [Rat.mul_assoc, half_mul, Rat.mul_one]
  constructor <;> grind
theorem half_up {f w : Rat} (h : 2 * f ≤ w) : f ≤ w * inv1 2 := by
  have ea : w * inv1 2 * 2 = w := by rw [Rat.mul_assoc, half_mul, Rat.mul_one]
  grind
variable {n : Nat} {c : Nat → Int} {E : Int}
abbrev full (n : Nat) (c : Nat → Int) : PV := qL (rg n) fun k => (c k : Rat)
abbrev halves (n : Nat) (c : Nat → Int) : PV := qL (rg n) fun k => (c k : Rat) * inv1 2
structure Told (n : Nat) (c : Nat → Int) (E W : Int) (r1 r2 r3 l2 l3 : Nat → Rat) (K : Nat) : Prop where
  g1 : callN PP MM 60 (K + 4) "equal_gains" [.int E, cT (rg n) c] = .ok (qT (rg n) r1)
  g2 : callN PP MM 60 (K + 4) "equal_losses" [.int E, cT (rg n) c] = .ok (qT (rg n) r2)
  g3 : callN PP MM 60 (K + 4) "half_rule" [.int E, cT (rg n) c] = .ok (qT (rg n) r3)
  f1 : callN PP MM 60 (K + 4) "_law_filled" [.tup [.int E, .int 1], full n c] = .ok (qL (rg n) r1)
  f2 : callN PP MM 60 (K + 4) "_law_filled" [.tup [.int (W - E), .int 1], full n c] = .ok (qL (rg n) l2)
  f3 : 2 * E ≤ W → callN PP MM 60 (K + 4) "_law_filled" [.tup [.int E, .int 1], halves n c] = .ok (qL (rg n) r3)
  f4 : ¬ 2 * E ≤ W → callN PP MM 60 (K + 4) "_law_filled" [.tup [.int (W - E), .int 1], halves n c] = .ok (qL (rg n) l3)
theorem told_ok (g : Good (rg n) c E) (W : Int) (hW : W = ((rg n).map c).sum) : ∃ r1 r2 r3 l2 l3 : Nat → Rat, RowQ n c E r1 ∧ RowQ n c E r2 ∧ RowQ n c E r3 ∧ PairQ n c r3 ∧ (∀ k, k < n → Zf (l2 k) ∧ r2 k = (c k : Rat) - l2 k) ∧ (¬ 2 * E ≤ W → ∀ k, k < n → Zf (l3 k) ∧ r3 k = (c k : Rat) - l3 k) ∧ ∀ K, Told n c E W r1 r2 r3 l2 l3 K := by
  have hn8 : n ≤ 8 := by have := g.l2; rwa [List.length_range] at this
  have hmem : ∀ k, k < n → k ∈ rg n := fun k hk => List.mem_range.mpr hk
  have hc0 : ∀ k, k < n → (0 : Rat) ≤ (c k : Rat) := fun k hk => Rat.intCast_nonneg.mpr (g.c1 k (hmem k hk)).1
  have hE0 := g.e0
  have hE1 := g.e1
  rw [← hW] at hE1
  have hWr : sq ((rg n).map fun k => (c k : Rat)) = (W : Rat) := by rw [sq_int, ← hW]
  have hWh : sq ((rg n).map fun k => (c k : Rat) * inv1 2) = (W : Rat) * inv1 2 := by rw [sq_scale, hWr]
  have hh := half_mul
  have hl : 1 ≤ (rg n).length ∧ (rg n).length ≤ 8 := ⟨g.l1, g.l2⟩
  obtain ⟨q1, hq1, hy1, hs1, hg1⟩ := gains_ok (rg n) c hl g.c1 E g.e0 g.e1
  obtain ⟨q2, hq2, hy2, hs2, hg2⟩ := gains_ok (rg n) c hl g.c1 (W - E) (by omega) (by rw [← hW]; omega)
  have hfull : ∀ (K : Nat) (F : Int) (q : Rat), 0 ≤ F → F ≤ W → sq ((rg n).map fun k => mn (c k : Rat) q) = (F : Rat) → callN PP MM 60 (K + 4) "_law_filled" [.tup [.int F, .int 1], full n c] = .ok (qL (rg n) fun k => mn (c k : Rat) q) := fun K F q h0 h1 h2 =>
    filled_ok (n := n) (c := fun k => (c k : Rat)) (K + 1) hn8 (fun k hk => ⟨Hf.int _, hc0 k hk⟩) F h0 (by rw [hWr]; exact Rat.intCast_le_intCast.mpr h1) q h2
  have hhalf : ∀ (K : Nat) (F : Int) (q : Rat), 0 ≤ F → 2 * F ≤ W → sq ((rg n).map fun k => mn (c k : Rat) q) = ((2 * F : Int) : Rat) → callN PP MM 60 (K + 4) "_law_filled" [.tup [.int F, .int 1], halves n c] = .ok (qL (rg n) fun k => mn (c k : Rat) q * inv1 2) := fun K F q h0 h1 h2 => by
    have h3 : (2 : Rat) * (F : Rat) ≤ (W : Rat) := by
      have := Rat.intCast_le_intCast.mpr h1
      rw [Rat.intCast_mul] at this
      exact this
    rw [Rat.intCast_mul] at h2
    have h2 : sq ((rg n).map fun k => mn (c k : Rat) q) = (2 : Rat) * (F : Rat) := h2
    have := filled_ok (n := n) (c := fun k => (c k : Rat) * inv1 2) (K + 1) hn8 (fun k hk => ⟨⟨c k, by rw [Rat.mul_assoc, hh, Rat.mul_one]⟩, (half_le (Rat.le_refl (a := (c k : Rat))) (hc0 k hk)).2⟩) F h0 (by rw [hWh]; exact half_up h3) (q * inv1 2) (by
      unfold fil
      rw [List.map_congr_left (g := fun k => mn (c k : Rat) q * inv1 2) (fun k _ => mn_half _ _), sq_scale, h2]; grind)
    rw [this]
    show R.ok (PV.lst ((rg n).map fun k => rv (mn ((c k : Rat) * inv1 2) (q * inv1 2)))) = .ok (PV.lst ((rg n).map fun k => rv (mn (c k : Rat) q * inv1 2)))
    rw [List.map_congr_left (g := fun k => rv (mn (c k : Rat) q * inv1 2)) (fun k _ => by rw [mn_half])]
  have row1 : ∀ (q : Rat) (F : Int), 0 ≤ q → Yf q → ∀ k, k < n → 0 ≤ mn (c k : Rat) q ∧ mn (c k : Rat) q ≤ (c k : Rat) ∧ Zf (mn (c k : Rat) q) := fun q F hq hy k hk => ⟨mn_nonneg (hc0 k hk) hq, mn_le, ((Yf.int _).mn hy).z⟩
  by_cases hlow : 2 * E ≤ W
  · obtain ⟨q3, hq3, hy3, hs3, hg3⟩ := gains_ok (rg n) c hl g.c1 (2 * E) (by omega) (by rw [← hW]; omega)
    refine ⟨fun k => mn (c k : Rat) q1, fun k => (c k : Rat) - mn (c k : Rat) q2, fun k => mn (c k : Rat) q3 * inv1 2, fun k => mn (c k : Rat) q2, fun _ => 0, ⟨row1 q1 E hq1 hy1, hs1⟩, ⟨fun k hk => ?_, ?_⟩, ⟨fun k hk => ?_, ?_⟩, fun k j hk hj => ?_, fun k hk => ⟨(row1 q2 E hq2 hy2 k hk).2.2, rfl⟩, fun h => absurd hlow h, fun K => ⟨?_, ?_, ?_, ?_, ?_, ?_, ?_⟩⟩
    · obtain ⟨a, b, d⟩ := row1 q2 E hq2 hy2 k hk
      exact ⟨by grind, by grind, (Hf.int _).z.sub d⟩
    · rw [sq_sub, hWr, hs2, Rat.intCast_sub]; grind
    · obtain ⟨a, b, d⟩ := row1 q3 E hq3 hy3 k hk
      exact ⟨(half_le b a).2, (half_le b a).1, ((Yf.int _).mn hy3).half⟩
    · rw [sq_scale, hs3, Rat.intCast_mul]
      show (2 : Rat) * (E : Rat) * inv1 2 = _
      grind
    · exact pr1 _ _ q3 (inv1 2) _ _ rfl rfl hh hq3 (hc0 k hk) (hc0 j hj)
    · exact equal_gains_of g (K + 1) (hg1 (K + 1))
    · exact equal_losses_of g (K + 1) (by rw [← hW]; exact hg2 (K + 1)) (fun k hk => by
        obtain ⟨a, b, d⟩ := row1 q2 E hq2 hy2 k (List.mem_range.mp hk)
        exact ⟨b, den_of d⟩)
    · exact half_low g K (by rw [← hW]; exact hlow) (hg3 K) (fun k hk => by
        obtain ⟨a, b, d⟩ := row1 q3 E hq3 hy3 k (List.mem_range.mp hk)
        exact ⟨a, den_of d⟩)
    · exact hfull K E q1 g.e0 hE1 hs1
    · exact hfull K (W - E) q2 (by omega) (by omega) hs2
    · intro _; exact hhalf K E q3 g.e0 hlow hs3
    · intro h; exact absurd hlow h
  · obtain ⟨q3, hq3, hy3, hs3, hg3⟩ := gains_ok (rg n) c hl g.c1 (2 * (W - E)) (by omega) (by rw [← hW]; omega)
    refine ⟨fun k => mn (c k : Rat) q1, fun k => (c k : Rat) - mn (c k : Rat) q2, fun k => (c k : Rat) - mn (c k : Rat) q3 * inv1 2, fun k => mn (c k : Rat) q2, fun k => mn (c k : Rat) q3 * inv1 2, ⟨row1 q1 E hq1 hy1, hs1⟩, ⟨fun k hk => ?_, ?_⟩, ⟨fun k hk => ?_, ?_⟩, fun k j hk hj => ?_, fun k hk => ⟨(row1 q2 E hq2 hy2 k hk).2.2, rfl⟩, fun _ k hk => ⟨((Yf.int _).mn hy3).half, rfl⟩, fun K => ⟨?_, ?_, ?_, ?_, ?_, ?_, ?_⟩⟩
    · obtain ⟨a, b, d⟩ := row1 q2 E hq2 hy2 k hk
      exact ⟨by grind, by grind, (Hf.int _).z.sub d⟩
    · rw [sq_sub, hWr, hs2, Rat.intCast_sub]; grind
    · obtain ⟨a, b, d⟩ := row1 q3 E hq3 hy3 k hk
      obtain ⟨e, f⟩ := half_le b a
      exact ⟨by grind, by grind, (Hf.int _).z.sub ((Yf.int _).mn hy3).half⟩
    · rw [sq_sub, hWr, sq_scale, hs3, Rat.intCast_mul, Rat.intCast_sub]
      show (W : Rat) - (2 : Rat) * ((W : Rat) - (E : Rat)) * inv1 2 = _
      grind
    · exact pr2 _ _ q3 (inv1 2) _ _ rfl rfl hh hq3 (hc0 k hk) (hc0 j hj)
    · exact equal_gains_of g (K + 1) (hg1 (K + 1))
    · exact equal_losses_of g (K + 1) (by rw [← hW]; exact hg2 (K + 1)) (fun k hk => by
        obtain ⟨a, b, d⟩ := row1 q2 E hq2 hy2 k (List.mem_range.mp hk)
        exact ⟨b, den_of d⟩)
    · exact half_high g K (by rw [← hW]; exact hlow) (by rw [← hW]; exact hg3 K) (fun k hk => by
        obtain ⟨a, b, d⟩ := row1 q3 E hq3 hy3 k (List.mem_range.mp hk)
        exact ⟨a, den_of d⟩) (fun k hk => by
        obtain ⟨a, b, d⟩ := row1 q3 E hq3 hy3 k (List.mem_range.mp hk)
        exact ⟨(half_le b a).1, den_of ((Yf.int _).mn hy3).half⟩)
    · exact hfull K E q1 g.e0 hE1 hs1
    · exact hfull K (W - E) q2 (by omega) (by omega) hs2
    · intro h; exact absurd h hlow
    · intro _; exact hhalf K (W - E) q3 (by omega) (by omega) hs3
end Law34
set_option Elab.async false
set_option linter.all false
set_option maxRecDepth 100000
set_option maxHeartbeats 400000
namespace Law34
open PySem PyV
/-! ### the law's tests of rows and of pairs -/
abbrev EL (x0 x1 x2 x3 x4 x5 x6 x7 x8 x9 x10 x11 x12 x13 x14 x15 x16 x17 x18 x19 x20 x21 x22 x23 x24 x25 : Sl) : PyV.Env := [x0, x1, x2, x3, x4, x5, x6, x7, x8, x9, x10, x11, x12, x13, x14, x15, x16, x17, x18, x19, x20, x21, x22, x23, x24, x25]
theorem range2 (a b : Nat) (ha : a ≤ 1000) (hb : b ≤ 1000) : rngI [R.ok (.int (a : Nat)), R.ok (.int (b : Nat))] = .ok ((List.range (b - a)).map fun (j : Nat) => PV.int ((a + j : Nat) : Int)) := by
  show R.bind (R.ok [PV.int (a : Nat), PV.int (b : Nat)]) rangeOf = _
  rw [bind_okE]
  show need (small (a : Nat) ∧ small (b : Nat)) (R.ok (rangeL (a : Nat) (((b : Nat) : Int) - (a : Nat)).toNat)) = _
  rw [need_if ⟨hs1 a (by omega), hs1 b (by omega)⟩, show (((b : Nat) : Int) - (a : Nat)).toNat = b - a by omega]
  rfl
theorem unp3 (ρ : PyV.Env) (i j m : Nat) (a b d : PV) (I : List Nat) (h : calmAt I ρ = true) : unpS ρ [i, j, m] (R.ok (.tup [a, b, d])) I = .nx (((ρ.set i (some (a, false))).set j (some (b, false))).set m (some (d, false))) := by
  unfold unpS PyV.settle
  rw [liftR_ok, freeze_id I ρ h]
  split <;> rfl
theorem emax (z : Int) : bltE "max" [R.ok (.int 0), R.ok (.int z)] = .ok (.int (max 0 z)) := by
  show R.ok (PV.int (if z > 0 then z else 0)) = _
  congr 2; split <;> omega
theorem deeps_of {xs : List PV} {k : Nat} (h : ∀ x ∈ xs, deep x ≤ k) : deeps xs ≤ k := by
  induction xs with
  | nil => exact Nat.zero_le _
  | cons x xs ih =>
    show max (deep x) (deeps xs) ≤ k
    exact Nat.max_le.mpr ⟨h x List.mem_cons_self, ih fun y hy => h y (List.mem_cons_of_mem _ hy)⟩
theorem areData_of {xs : List PV} (h : ∀ x ∈ xs, isData x = true) : areData xs = true := by
  induction xs with
  | nil => rfl
  | cons x xs ih =>
    show (isData x && areData xs) = true
    rw [h x List.mem_cons_self, ih fun y hy => h y (List.mem_cons_of_mem _ hy)]; rfl
theorem qT_data {α : Type} (l : List α) (r : α → Rat) : isData (qT l r) = true := by
  show areData _ = true
  exact areData_of fun x hx => by obtain ⟨z, _, rfl⟩ := List.mem_map.mp hx; rfl
theorem qT_deep {α : Type} (l : List α) (r : α → Rat) : deep (qT l r) ≤ 64 := by
  show deeps _ + 1 ≤ 64
  have := deeps_of (xs := l.map fun k => rv (r k)) (k := 1) fun x hx => by obtain ⟨z, _, rfl⟩ := List.mem_map.mp hx; exact Nat.le_refl _
  omega
theorem sq_snoc (l : List Rat) (x : Rat) : sq (l ++ [x]) = sq l + x := by
  induction l with
  | nil => show x + 0 = 0 + x; grind
  | cons a l ih => show a + sq (l ++ [x]) = a + sq l + x; rw [ih]; grind
theorem Zf_sq (r : Nat → Rat) : ∀ l : List Nat, (∀ k ∈ l, Zf (r k)) → Zf (sq (l.map r))
  | [], _ => (Hf.int 0).z
  | k :: l, h => (h k List.mem_cons_self).add (Zf_sq r l fun j hj => h j (List.mem_cons_of_mem _ hj))
variable {n : Nat} {c : Nat → Int} {E : Int} {r : Nat → Rat}
theorem sumB_ok (K : Nat) (h : RowQ n c E r) (k : Nat) (hk : k < n) (x0 x1 x2 x3 x4 x5 x6 x7 x8 x9 x10 x11 x12 x13 x14 x15 x16 x17 x18 x19 x20 x21 x22 x23 x24 x25 : Sl) : sumB (callN PP MM 60 (K + 4)) (EL x0 x1 x2 (iV k) (sv (cT (rg n) c)) x5 x6 x7 x8 x9 x10 x11 x12 x13 x14 (sv (qT (rg n) r)) (sv (rv (sq ((rg k).map r)))) x17 x18 x19 x20 x21 x22 x23 x24 x25) = .nx (EL x0 x1 x2 (iV k) (sv (cT (rg n) c)) x5 x6 x7 x8 x9 x10 x11 x12 x13 x14 (sv (qT (rg n) r)) (sv (rv (sq ((rg (k + 1)).map r)))) x17 x18 x19 x20 x21 x22 x23 x24 x25) := by
  rw [sumB_eq]
  have hz : Zf (sq ((rg k).map r)) := Zf_sq r _ fun j hj => (h.b j (by have := List.mem_range.mp hj; omega)).2.2
  obtain ⟨b0, b1, b2⟩ := h.b k hk
  have e1 : sumB_1 (callN PP MM 60 (K + 4)) (EL x0 x1 x2 (iV k) (sv (cT (rg n) c)) x5 x6 x7 x8 x9 x10 x11 x12 x13 x14 (sv (qT (rg n) r)) (sv (rv (sq ((rg k).map r)))) x17 x18 x19 x20 x21 x22 x23 x24 x25) = .nx (EL x0 x1 x2 (iV k) (sv (cT (rg n) c)) x5 x6 x7 x8 x9 x10 x11 x12 x13 x14 (sv (qT (rg n) r)) (sv (rv (sq ((rg (k + 1)).map r)))) x17 x18 x19 x20 x21 x22 x23 x24 x25) := by
    unfold sumB_1
    rw [show slot 16 (EL x0 x1 x2 (iV k) (sv (cT (rg n) c)) x5 x6 x7 x8 x9 x10 x11 x12 x13 x14 (sv (qT (rg n) r)) (sv (rv (sq ((rg k).map r)))) x17 x18 x19 x20 x21 x22 x23 x24 x25) = .ok (rv (sq ((rg k).map r))) from rfl, show slot 15 (EL x0 x1 x2 (iV k) (sv (cT (rg n) c)) x5 x6 x7 x8 x9 x10 x11 x12 x13 x14 (sv (qT (rg n) r)) (sv (rv (sq ((rg k).map r)))) x17 x18 x19 x20 x21 x22 x23 x24 x25) = .ok (qT (rg n) r) from rfl, show slot 3 (EL x0 x1 x2 (iV k) (sv (cT (rg n) c)) x5 x6 x7 x8 x9 x10 x11 x12 x13 x14 (sv (qT (rg n) r)) (sv (rv (sq ((rg k).map r)))) x17 x18 x19 x20 x21 x22 x23 x24 x25) = .ok (.int (k : Nat)) from rfl, ixRT (fun k => rv (r k)) hk, own2,
      show callN PP MM 60 (K + 4) (Str.ofString "_law_plus") [rv (sq ((rg k).map r)), rv (r k)] = _ from plus_ok (K + 2) _ _ (den_of hz) (den_of b2), setS_pure _ _ _ _ _ (pure_rv _), show sq ((rg (k + 1)).map r) = sq ((rg k).map r) + r k by unfold rg; rw [List.range_succ, List.map_append, List.map_singleton, sq_snoc]]
    rfl
  rw [e1, then_nx]
  unfold sumB_2
  rw [show slot 15 (EL x0 x1 x2 (iV k) (sv (cT (rg n) c)) x5 x6 x7 x8 x9 x10 x11 x12 x13 x14 (sv (qT (rg n) r)) (sv (rv (sq ((rg (k + 1)).map r)))) x17 x18 x19 x20 x21 x22 x23 x24 x25) = .ok (qT (rg n) r) from rfl, show slot 3 (EL x0 x1 x2 (iV k) (sv (cT (rg n) c)) x5 x6 x7 x8 x9 x10 x11 x12 x13 x14 (sv (qT (rg n) r)) (sv (rv (sq ((rg (k + 1)).map r)))) x17 x18 x19 x20 x21 x22 x23 x24 x25) = .ok (.int (k : Nat)) from rfl, show slot 4 (EL x0 x1 x2 (iV k) (sv (cT (rg n) c)) x5 x6 x7 x8 x9 x10 x11 x12 x13 x14 (sv (qT (rg n) r)) (sv (rv (sq ((rg (k + 1)).map r)))) x17 x18 x19 x20 x21 x22 x23 x24 x25) = .ok (cT (rg n) c) from rfl, ixRT (fun k => rv (r k)) hk, ixRT (fun k => PV.int (c k)) hk, rv0, cmpT_lt,
    decide_eq_false (by have := Rat.num_nonneg.mpr b0; omega), oT_f, tup2, own2, show callN PP MM 60 (K + 4) (Str.ofString "_law_less") [.tup [.int (c k), .int 1], rv (r k)] = _ from less_ok (K + 3) (c k : Rat) (r k) (by rw [Rat.den_intCast]; omega) (den_of b2),
    decide_eq_false (Rat.not_lt.mpr b1), truT_b, iS_f, then_nx]
theorem rowB_ok (K : Nat) (h : RowQ n c E r) (hn : n ≤ 8) (x0 x1 x2 x3 x4 x5 x6 x7 x8 x9 x10 x11 x12 x13 x14 x15 x16 x17 x18 x19 x20 x21 x22 x23 x24 x25 : Sl) : ∃ y3 y16, rowB (callN PP MM 60 (K + 4)) (EL x0 x1 x2 x3 (sv (cT (rg n) c)) x5 (sv (.int E)) x7 x8 x9 x10 x11 x12 x13 x14 (sv (qT (rg n) r)) x16 x17 x18 x19 x20 x21 x22 x23 x24 x25) = .nx (EL x0 x1 x2 y3 (sv (cT (rg n) c)) x5 (sv (.int E)) x7 x8 x9 x10 x11 x12 x13 x14 (sv (qT (rg n) r)) y16 x17 x18 x19 x20 x21 x22 x23 x24 x25) := by
  rw [rowB_eq]
  unfold rowB_1
  rw [show tupE [(R.ok (.int 0)), (R.ok (.int 1))] = .ok (rv 0) from rfl, setS_pure _ _ _ _ _ (pure_rv _), then_nx]
  show ∃ y3 y16, SR.then (rowB_2 (callN PP MM 60 (K + 4)) (EL x0 x1 x2 x3 (sv (cT (rg n) c)) x5 (sv (.int E)) x7 x8 x9 x10 x11 x12 x13 x14 (sv (qT (rg n) r)) (sv (rv 0)) x17 x18 x19 x20 x21 x22 x23 x24 x25)) _ = _
  obtain ⟨ρ', e2, y3, e3⟩ := forR_inv (fun i ρ => ∃ y3, ρ = EL x0 x1 x2 y3 (sv (cT (rg n) c)) x5 (sv (.int E)) x7 x8 x9 x10 x11 x12 x13 x14 (sv (qT (rg n) r)) (sv (rv (sq ((rg i).map r)))) x17 x18 x19 x20 x21 x22 x23 x24 x25) 3 (sumB (callN PP MM 60 (K + 4))) n (EL x0 x1 x2 x3 (sv (cT (rg n) c)) x5 (sv (.int E)) x7 x8 x9 x10 x11 x12 x13 x14 (sv (qT (rg n) r)) (sv (rv 0)) x17 x18 x19 x20 x21 x22 x23 x24 x25) (rngI [(bltE "len" [(slot 4 (EL x0 x1 x2 x3 (sv (cT (rg n) c)) x5 (sv (.int E)) x7 x8 x9 x10 x11 x12 x13 x14 (sv (qT (rg n) r)) (sv (rv 0)) x17 x18 x19 x20 x21 x22 x23 x24 x25))])])
    (by rw [show slot 4 (EL x0 x1 x2 x3 (sv (cT (rg n) c)) x5 (sv (.int E)) x7 x8 x9 x10 x11 x12 x13 x14 (sv (qT (rg n) r)) (sv (rv 0)) x17 x18 x19 x20 x21 x22 x23 x24 x25) = .ok (cT (rg n) c) from rfl, len_tup, List.length_map, List.length_range, range1 n (by omega)]) ⟨x3, rfl⟩ (by
      rintro i ρ hi ⟨z3, rfl⟩
      exact ⟨_, sumB_ok K h i hi x0 x1 x2 x3 x4 x5 (sv (.int E)) x7 x8 x9 x10 x11 x12 x13 x14 x15 x16 x17 x18 x19 x20 x21 x22 x23 x24 x25, iV i, rfl⟩)
  subst e3
  unfold rowB_2
  rw [e2, then_nx]
  unfold rowB_3
  rw [show slot 16 (EL x0 x1 x2 y3 (sv (cT (rg n) c)) x5 (sv (.int E)) x7 x8 x9 x10 x11 x12 x13 x14 (sv (qT (rg n) r)) (sv (rv (sq ((rg n).map r)))) x17 x18 x19 x20 x21 x22 x23 x24 x25) = .ok (rv (sq ((rg n).map r))) from rfl, show slot 6 (EL x0 x1 x2 y3 (sv (cT (rg n) c)) x5 (sv (.int E)) x7 x8 x9 x10 x11 x12 x13 x14 (sv (qT (rg n) r)) (sv (rv (sq ((rg n).map r)))) x17 x18 x19 x20 x21 x22 x23 x24 x25) = .ok (.int E) from rfl, h.s, tup2, show PV.tup [.int E, .int 1] = rv (E : Rat) from rfl, ne_self (rv (E : Rat)) rfl (by show 1 ≤ 64; omega), iS_f, then_nx]
  exact ⟨y3, _, rfl⟩
/-- what stands there is not owned -/
def Calm7 (x : Sl) : Prop := x = none ∨ ∃ v, x = sv v
theorem pos_sum {x y : Rat} (hx : 0 ≤ x) (hy : 0 ≤ y) : 0 ≤ x + y := by grind
theorem nB_ok (K : Nat) (h : RowQ n c E r) (hp : PairQ n c r) (hc : ∀ k, k < n → 0 ≤ c k ∧ c k ≤ 100) (k j : Nat) (hk : k < n) (hj : j < n) (x0 x1 x2 x3 x4 x5 x6 x7 x8 x9 x10 x11 x12 x13 x14 x15 x16 x17 x18 x19 x20 x21 x22 x23 x24 x25 : Sl) : ∃ y7 y18 y19 y20 y21 y22, nB (callN PP MM 60 (K + 4)) (EL x0 x1 x2 (iV k) (sv (cT (rg n) c)) x5 x6 x7 x8 x9 x10 x11 x12 x13 (sv (qT (rg n) r)) x15 x16 (iV j) x18 x19 x20 x21 x22 x23 x24 x25) = .nx (EL x0 x1 x2 (iV k) (sv (cT (rg n) c)) x5 x6 y7 x8 x9 x10 x11 x12 x13 (sv (qT (rg n) r)) x15 x16 (iV j) y18 y19 y20 y21 y22 x23 x24 x25) ∧ Calm7 y7 := by
  rw [nB_eq]
  obtain ⟨a0, a1, a2⟩ := h.b k hk
  obtain ⟨b0, b1, b2⟩ := h.b j hj
  have hpk := hp k j hk hj
  have hpj := hp j k hj hk
  have hz := a2.add b2
  have hd := den_of hz
  have hdp := den_pos (r k + r j)
  have e1 : nB_1 (callN PP MM 60 (K + 4)) (EL x0 x1 x2 (iV k) (sv (cT (rg n) c)) x5 x6 x7 x8 x9 x10 x11 x12 x13 (sv (qT (rg n) r)) x15 x16 (iV j) x18 x19 x20 x21 x22 x23 x24 x25) = .nx (EL x0 x1 x2 (iV k) (sv (cT (rg n) c)) x5 x6 x7 x8 x9 x10 x11 x12 x13 (sv (qT (rg n) r)) x15 x16 (iV j) (sv (rv (r k + r j))) x19 x20 x21 x22 x23 x24 x25) := by
    unfold nB_1
    rw [show slot 14 (EL x0 x1 x2 (iV k) (sv (cT (rg n) c)) x5 x6 x7 x8 x9 x10 x11 x12 x13 (sv (qT (rg n) r)) x15 x16 (iV j) x18 x19 x20 x21 x22 x23 x24 x25) = .ok (qT (rg n) r) from rfl, show slot 3 (EL x0 x1 x2 (iV k) (sv (cT (rg n) c)) x5 x6 x7 x8 x9 x10 x11 x12 x13 (sv (qT (rg n) r)) x15 x16 (iV j) x18 x19 x20 x21 x22 x23 x24 x25) = .ok (.int (k : Nat)) from rfl, show slot 17 (EL x0 x1 x2 (iV k) (sv (cT (rg n) c)) x5 x6 x7 x8 x9 x10 x11 x12 x13 (sv (qT (rg n) r)) x15 x16 (iV j) x18 x19 x20 x21 x22 x23 x24 x25) = .ok (.int (j : Nat)) from rfl, ixRT (fun k => rv (r k)) hk, ixRT (fun k => rv (r k)) hj, own2,
      show callN PP MM 60 (K + 4) (Str.ofString "_law_plus") [rv (r k), rv (r j)] = _ from plus_ok (K + 2) _ _ (den_of a2) (den_of b2), setS_pure _ _ _ _ _ (pure_rv _)]
    rfl
  rw [e1, then_nx]
  obtain ⟨one, ho⟩ : ∃ one, c k * ((r k + r j).den : Int) = one := ⟨_, rfl⟩
  obtain ⟨two, ht⟩ : ∃ two, c j * ((r k + r j).den : Int) = two := ⟨_, rfl⟩
  obtain ⟨pot, hq⟩ : ∃ pot, (r k + r j).num = pot := ⟨_, rfl⟩
  have e2 : nB_2 (callN PP MM 60 (K + 4)) (EL x0 x1 x2 (iV k) (sv (cT (rg n) c)) x5 x6 x7 x8 x9 x10 x11 x12 x13 (sv (qT (rg n) r)) x15 x16 (iV j) (sv (rv (r k + r j))) x19 x20 x21 x22 x23 x24 x25) = .nx (EL x0 x1 x2 (iV k) (sv (cT (rg n) c)) x5 x6 (sv (.int one)) x8 x9 x10 x11 x12 x13 (sv (qT (rg n) r)) x15 x16 (iV j) (sv (rv (r k + r j))) (sv (.int two)) (sv (.int pot)) x21 x22 x23 x24 x25) := by
    unfold nB_2
    rw [show slot 4 (EL x0 x1 x2 (iV k) (sv (cT (rg n) c)) x5 x6 x7 x8 x9 x10 x11 x12 x13 (sv (qT (rg n) r)) x15 x16 (iV j) (sv (rv (r k + r j))) x19 x20 x21 x22 x23 x24 x25) = .ok (cT (rg n) c) from rfl, show slot 3 (EL x0 x1 x2 (iV k) (sv (cT (rg n) c)) x5 x6 x7 x8 x9 x10 x11 x12 x13 (sv (qT (rg n) r)) x15 x16 (iV j) (sv (rv (r k + r j))) x19 x20 x21 x22 x23 x24 x25) = .ok (.int (k : Nat)) from rfl, show slot 17 (EL x0 x1 x2 (iV k) (sv (cT (rg n) c)) x5 x6 x7 x8 x9 x10 x11 x12 x13 (sv (qT (rg n) r)) x15 x16 (iV j) (sv (rv (r k + r j))) x19 x20 x21 x22 x23 x24 x25) = .ok (.int (j : Nat)) from rfl, show slot 18 (EL x0 x1 x2 (iV k) (sv (cT (rg n) c)) x5 x6 x7 x8 x9 x10 x11 x12 x13 (sv (qT (rg n) r)) x15 x16 (iV j) (sv (rv (r k + r j))) x19 x20 x21 x22 x23 x24 x25) = .ok (rv (r k + r j)) from rfl, ixRT (fun k => PV.int (c k)) hk, ixRT (fun k => PV.int (c k)) hj, rv0, rv1, mul_ok _ _ (cmul_r _ _ (by omega)), mul_ok _ _ (cmul_r _ _ (by omega)), ho, ht, hq,
      show tupE [R.ok (.int one), R.ok (.int two), R.ok (.int pot)] = .ok (.tup [.int one, .int two, .int pot]) from rfl, unp3 _ _ _ _ _ _ _ _ rfl]
    rfl
  rw [e2, then_nx]
  have e3 : nB_3 (callN PP MM 60 (K + 4)) (EL x0 x1 x2 (iV k) (sv (cT (rg n) c)) x5 x6 (sv (.int one)) x8 x9 x10 x11 x12 x13 (sv (qT (rg n) r)) x15 x16 (iV j) (sv (rv (r k + r j))) (sv (.int two)) (sv (.int pot)) x21 x22 x23 x24 x25) = .nx (EL x0 x1 x2 (iV k) (sv (cT (rg n) c)) x5 x6 (sv (.int one)) x8 x9 x10 x11 x12 x13 (sv (qT (rg n) r)) x15 x16 (iV j) (sv (rv (r k + r j))) (sv (.int two)) (sv (.int pot)) (sv (.int (max 0 (pot - two)))) (sv (.int (max 0 (pot - one)))) x23 x24 x25) := by
    unfold nB_3
    rw [show slot 20 (EL x0 x1 x2 (iV k) (sv (cT (rg n) c)) x5 x6 (sv (.int one)) x8 x9 x10 x11 x12 x13 (sv (qT (rg n) r)) x15 x16 (iV j) (sv (rv (r k + r j))) (sv (.int two)) (sv (.int pot)) x21 x22 x23 x24 x25) = .ok (.int pot) from rfl, show slot 19 (EL x0 x1 x2 (iV k) (sv (cT (rg n) c)) x5 x6 (sv (.int one)) x8 x9 x10 x11 x12 x13 (sv (qT (rg n) r)) x15 x16 (iV j) (sv (rv (r k + r j))) (sv (.int two)) (sv (.int pot)) x21 x22 x23 x24 x25) = .ok (.int two) from rfl, show slot 7 (EL x0 x1 x2 (iV k) (sv (cT (rg n) c)) x5 x6 (sv (.int one)) x8 x9 x10 x11 x12 x13 (sv (qT (rg n) r)) x15 x16 (iV j) (sv (rv (r k + r j))) (sv (.int two)) (sv (.int pot)) x21 x22 x23 x24 x25) = .ok (.int one) from rfl, bopE_sub, bopE_sub, emax, emax, tup2, unp2 _ _ _ _ _ _ rfl]
    rfl
  rw [e3, then_nx]
  have t18 : slot 18 (EL x0 x1 x2 (iV k) (sv (cT (rg n) c)) x5 x6 (sv (.int one)) x8 x9 x10 x11 x12 x13 (sv (qT (rg n) r)) x15 x16 (iV j) (sv (rv (r k + r j))) (sv (.int two)) (sv (.int pot)) (sv (.int (max 0 (pot - two)))) (sv (.int (max 0 (pot - one)))) x23 x24 x25) = .ok (rv (r k + r j)) := rfl
  have t14 : slot 14 (EL x0 x1 x2 (iV k) (sv (cT (rg n) c)) x5 x6 (sv (.int one)) x8 x9 x10 x11 x12 x13 (sv (qT (rg n) r)) x15 x16 (iV j) (sv (rv (r k + r j))) (sv (.int two)) (sv (.int pot)) (sv (.int (max 0 (pot - two)))) (sv (.int (max 0 (pot - one)))) x23 x24 x25) = .ok (qT (rg n) r) := rfl
  have t3 : slot 3 (EL x0 x1 x2 (iV k) (sv (cT (rg n) c)) x5 x6 (sv (.int one)) x8 x9 x10 x11 x12 x13 (sv (qT (rg n) r)) x15 x16 (iV j) (sv (rv (r k + r j))) (sv (.int two)) (sv (.int pot)) (sv (.int (max 0 (pot - two)))) (sv (.int (max 0 (pot - one)))) x23 x24 x25) = .ok (.int (k : Nat)) := rfl
  have t17 : slot 17 (EL x0 x1 x2 (iV k) (sv (cT (rg n) c)) x5 x6 (sv (.int one)) x8 x9 x10 x11 x12 x13 (sv (qT (rg n) r)) x15 x16 (iV j) (sv (rv (r k + r j))) (sv (.int two)) (sv (.int pot)) (sv (.int (max 0 (pot - two)))) (sv (.int (max 0 (pot - one)))) x23 x24 x25) = .ok (.int (j : Nat)) := rfl
  have t4 : slot 4 (EL x0 x1 x2 (iV k) (sv (cT (rg n) c)) x5 x6 (sv (.int one)) x8 x9 x10 x11 x12 x13 (sv (qT (rg n) r)) x15 x16 (iV j) (sv (rv (r k + r j))) (sv (.int two)) (sv (.int pot)) (sv (.int (max 0 (pot - two)))) (sv (.int (max 0 (pot - one)))) x23 x24 x25) = .ok (cT (rg n) c) := rfl
  have hlow := pair_low (r k) (r j) (c k) (c j) hpk
  have e4 : nB_4 (callN PP MM 60 (K + 4)) (EL x0 x1 x2 (iV k) (sv (cT (rg n) c)) x5 x6 (sv (.int one)) x8 x9 x10 x11 x12 x13 (sv (qT (rg n) r)) x15 x16 (iV j) (sv (rv (r k + r j))) (sv (.int two)) (sv (.int pot)) (sv (.int (max 0 (pot - two)))) (sv (.int (max 0 (pot - one)))) x23 x24 x25) = .nx (EL x0 x1 x2 (iV k) (sv (cT (rg n) c)) x5 x6 (sv (.int one)) x8 x9 x10 x11 x12 x13 (sv (qT (rg n) r)) x15 x16 (iV j) (sv (rv (r k + r j))) (sv (.int two)) (sv (.int pot)) (sv (.int (max 0 (pot - two)))) (sv (.int (max 0 (pot - one)))) x23 x24 x25) := by
    unfold nB_4
    rw [t14, t3, t18, show slot 20 (EL x0 x1 x2 (iV k) (sv (cT (rg n) c)) x5 x6 (sv (.int one)) x8 x9 x10 x11 x12 x13 (sv (qT (rg n) r)) x15 x16 (iV j) (sv (rv (r k + r j))) (sv (.int two)) (sv (.int pot)) (sv (.int (max 0 (pot - two)))) (sv (.int (max 0 (pot - one)))) x23 x24 x25) = .ok (.int pot) from rfl, show slot 21 (EL x0 x1 x2 (iV k) (sv (cT (rg n) c)) x5 x6 (sv (.int one)) x8 x9 x10 x11 x12 x13 (sv (qT (rg n) r)) x15 x16 (iV j) (sv (rv (r k + r j))) (sv (.int two)) (sv (.int pot)) (sv (.int (max 0 (pot - two)))) (sv (.int (max 0 (pot - one)))) x23 x24 x25) = .ok (.int (max 0 (pot - two))) from rfl, show slot 22 (EL x0 x1 x2 (iV k) (sv (cT (rg n) c)) x5 x6 (sv (.int one)) x8 x9 x10 x11 x12 x13 (sv (qT (rg n) r)) x15 x16 (iV j) (sv (rv (r k + r j))) (sv (.int two)) (sv (.int pot)) (sv (.int (max 0 (pot - two)))) (sv (.int (max 0 (pot - one)))) x23 x24 x25) = .ok (.int (max 0 (pot - one))) from rfl, ixRT (fun k => rv (r k)) hk, rv1, mul2, bopE_add, bopE_sub, own2,
      show 2 * ((r k + r j).den : Int) = ((2 * (r k + r j).den : Nat) : Int) by omega,
      show callN PP MM 60 (K + 4) (Str.ofString "_law_low") [.int (max 0 (pot - two) + pot - max 0 (pot - one)), .int ((2 * (r k + r j).den : Nat) : Int)] = _ from low_ok (K + 3) _ _ (by omega) (by omega), ← ho, ← ht, ← hq, hlow,
      ne_self (rv (r k)) rfl (by show 1 ≤ 64; omega), iS_f]
  rw [e4, then_nx]
  have e5 : nB_5 (callN PP MM 60 (K + 4)) (EL x0 x1 x2 (iV k) (sv (cT (rg n) c)) x5 x6 (sv (.int one)) x8 x9 x10 x11 x12 x13 (sv (qT (rg n) r)) x15 x16 (iV j) (sv (rv (r k + r j))) (sv (.int two)) (sv (.int pot)) (sv (.int (max 0 (pot - two)))) (sv (.int (max 0 (pot - one)))) x23 x24 x25) = .nx (EL x0 x1 x2 (iV k) (sv (cT (rg n) c)) x5 x6 (sv (.int one)) x8 x9 x10 x11 x12 x13 (sv (qT (rg n) r)) x15 x16 (iV j) (sv (rv (r k + r j))) (sv (.int two)) (sv (.int pot)) (sv (.int (max 0 (pot - two)))) (sv (.int (max 0 (pot - one)))) x23 x24 x25) := by
    unfold nB_5
    rw [t18, t14, t3, t17, t4, rv0, rv1, ixRT (fun k => PV.int (c k)) hk, ixRT (fun k => PV.int (c k)) hj, ixRT (fun k => rv (r k)) hk, ixRT (fun k => rv (r k)) hj, cmpT_eqI]
    by_cases h1 : (((r k + r j).den : Nat) : Int) = 1
    · have hd1 : (r k + r j).den = 1 := by omega
      have hnum : (((r k + r j).num : Int) : Rat) = r k + r j := by
        rw [num_eq, hd1]; show (r k + r j) * 1 = _; rw [Rat.mul_one]
      have hn0 : 0 ≤ (r k + r j).num := Rat.num_nonneg.mpr (pos_sum a0 b0)
      have hn1 : (r k + r j).num ≤ c k + c j := by
        refine Rat.intCast_le_intCast.mp ?_
        rw [hnum, Rat.intCast_add]
        clear hpk hpj hlow
        grind
      have hlow2 := pair_low (r j) (r k) (c j) (c k) (by have := hpj; rw [Rat.add_comm (r j) (r k)] at this ⊢; exact this)
      rw [Rat.add_comm (r j) (r k)] at hlow2
      rw [hd1] at hlow hlow2
      rw [decide_eq_true h1, aT_t, own3, show callN PP MM 60 (K + 4) (Str.ofString "two_rule") [.int (r k + r j).num, .int (c k), .int (c j)] = _ from two_ok (K + 1) _ _ _ (hc k hk) (hc j hj) hn0 hn1, tup2]
      have f1 : mkRat (max 0 ((r k + r j).num - c j) + (r k + r j).num - max 0 ((r k + r j).num - c k)) 2 = r k := by
        have := hlow
        rw [show c j * ((1 : Nat) : Int) = c j by omega, show c k * ((1 : Nat) : Int) = c k by omega] at this
        exact this
      have f2 : mkRat (max 0 ((r k + r j).num - c k) + (r k + r j).num - max 0 ((r k + r j).num - c j)) 2 = r j := by
        have := hlow2
        rw [show c j * ((1 : Nat) : Int) = c j by omega, show c k * ((1 : Nat) : Int) = c k by omega] at this
        exact this
      rw [f1, f2, ne_self (.tup [rv (r k), rv (r j)]) rfl (by show 2 ≤ 64; omega), iS_f]
    · rw [decide_eq_false h1, aT_f, iS_f]
  rw [e5, then_nx]
  exact ⟨_, _, _, _, _, _, rfl, .inr ⟨_, rfl⟩⟩
theorem kB_ok (K : Nat) (h : RowQ n c E r) (hp : PairQ n c r) (hn : n ≤ 8) (hc : ∀ k, k < n → 0 ≤ c k ∧ c k ≤ 100) (k : Nat) (hk : k < n) (x0 x1 x2 x3 x4 x5 x6 x7 x8 x9 x10 x11 x12 x13 x14 x15 x16 x17 x18 x19 x20 x21 x22 x23 x24 x25 : Sl) (h7 : Calm7 x7) : ∃ y7 y17 y18 y19 y20 y21 y22, kB (callN PP MM 60 (K + 4)) (EL x0 x1 x2 (iV k) (sv (cT (rg n) c)) x5 x6 x7 x8 x9 x10 x11 x12 x13 (sv (qT (rg n) r)) x15 x16 x17 x18 x19 x20 x21 x22 x23 x24 x25) = .nx (EL x0 x1 x2 (iV k) (sv (cT (rg n) c)) x5 x6 y7 x8 x9 x10 x11 x12 x13 (sv (qT (rg n) r)) x15 x16 y17 y18 y19 y20 y21 y22 x23 x24 x25) ∧ Calm7 y7 := by
  unfold kB
  rw [show slot 3 (EL x0 x1 x2 (iV k) (sv (cT (rg n) c)) x5 x6 x7 x8 x9 x10 x11 x12 x13 (sv (qT (rg n) r)) x15 x16 x17 x18 x19 x20 x21 x22 x23 x24 x25) = .ok (.int (k : Nat)) from rfl, show slot 4 (EL x0 x1 x2 (iV k) (sv (cT (rg n) c)) x5 x6 x7 x8 x9 x10 x11 x12 x13 (sv (qT (rg n) r)) x15 x16 x17 x18 x19 x20 x21 x22 x23 x24 x25) = .ok (cT (rg n) c) from rfl, len_tup, List.length_map, List.length_range, show bopE .Add (R.ok (PV.int (k : Nat))) (R.ok (.int 1)) = .ok (.int ((k + 1 : Nat) : Int)) from add_nat k 1, range2 (k + 1) n (by omega) (by omega)]
  unfold forR
  rw [liftR_ok]
  obtain ⟨ρ', e, y7, y17, y18, y19, y20, y21, y22, rfl, h7'⟩ := forLoop_go (fun ρ => ∃ y7 y17 y18 y19 y20 y21 y22, ρ = EL x0 x1 x2 (iV k) (sv (cT (rg n) c)) x5 x6 y7 x8 x9 x10 x11 x12 x13 (sv (qT (rg n) r)) x15 x16 y17 y18 y19 y20 y21 y22 x23 x24 x25 ∧ Calm7 y7) (fun x ρ => liftR ρ (bind1 17 x ρ) (nB (callN PP MM 60 (K + 4)))) ((List.range (n - (k + 1))).map fun (j : Nat) => PV.int ((k + 1 + j : Nat) : Int)) (EL x0 x1 x2 (iV k) (sv (cT (rg n) c)) x5 x6 x7 x8 x9 x10 x11 x12 x13 (sv (qT (rg n) r)) x15 x16 x17 x18 x19 x20 x21 x22 x23 x24 x25) ⟨x7, x17, x18, x19, x20, x21, x22, rfl, h7⟩ (by
    rintro x hx ρ ⟨y7, y17, y18, y19, y20, y21, y22, rfl, h7⟩
    obtain ⟨j, hj, rfl⟩ := List.mem_map.mp hx
    have hj := List.mem_range.mp hj
    obtain ⟨z7, z18, z19, z20, z21, z22, e, h7z⟩ := nB_ok K h hp hc k (k + 1 + j) hk (by omega) x0 x1 x2 x3 x4 x5 x6 y7 x8 x9 x10 x11 x12 x13 x14 x15 x16 x17 y18 y19 y20 y21 y22 x23 x24 x25
    exact ⟨_, e, z7, iV (k + 1 + j), z18, z19, z20, z21, z22, rfl, h7z⟩)
  rw [e, then_nx]
  exact ⟨y7, y17, y18, y19, y20, y21, y22, rfl, h7'⟩
end Law34
set_option Elab.async false
set_option linter.all false
set_option maxRecDepth 100000
set_option maxHeartbeats 400000
namespace Law34
open PySem PyV
/-! ### values that are none (printed by mkAK34.py) -/
def badC (v : PV) : Prop := (lenB v = false ∧ (flat v = true ∨ (∃ xs, v = .tup xs) ∨ ∃ xs, v = .lst xs)) ∨ (∃ vs, v = .tup vs ∧ (∀ x ∈ vs, flat x = true) ∧ vs.all (isWhole 100) = false)
theorem badC_check (K : Nat) (E v : PV) (h : badC v) : callN PP MM 60 (K + 2) "_check" [E, v] = .exc "BadClaims" [] := by
  rcases h with ⟨h1, h2⟩ | ⟨vs, rfl, hf, ha⟩
  · exact check1 (K + 1) E v h1 h2
  · by_cases hl : 1 ≤ vs.length ∧ vs.length ≤ 8
    · exact check2 K E vs hl.1 hl.2 hf ha
    · refine check1 (K + 1) E _ ?_ (.inr (.inl ⟨vs, rfl⟩))
      show (decide (1 ≤ vs.length) && decide (vs.length ≤ 8)) = false
      rw [Bool.and_eq_false_iff]; simp only [decide_eq_false_iff_not]; omega
theorem range0 (n : Nat) (h : n ≤ 1000) : rngI [R.ok (.int (n : Nat))] = .ok ((List.range n).map fun (j : Nat) => PV.int (j : Nat)) := by rw [range1 n (by omega), rangeL_map]
theorem words (call : Str → List PV → R PV) (ρ : PyV.Env) (el : PyV.Env → R PV) (z : PV) (h : ∀ w : Nat, w < 3 → el ((wipes ρ [24, 25]).set 25 (some (.int (w : Nat), false))) = .ok z) : compE true (rngI [(R.ok (.int 3))]) (fun x => bind1 25 x (wipes ρ [24, 25])) (fun ρ => noIf) el = .ok (.lst [z, z, z]) := by
  have hlb := line_big
  exact compE_L (l := List.range 3) (fun (j : Nat) => PV.int (j : Nat)) (fun _ => z) (range0 3 (by omega)) (.inl (by rw [List.length_range]; omega)) fun w hw => by
    rw [bind1_b]; exact h w (List.mem_range.mp hw)
theorem three (z : PV) : bopE .Mult (lstE [R.ok z]) (R.ok (.int 3)) = .ok (.lst [z, z, z]) := by
  rw [show lstE [R.ok z] = .ok (.lst [z]) from rfl, lst_mul _ _ (by omega), show ((3 : Int)) = ((3 : Nat) : Int) from rfl, reps_len]; rfl
theorem badC_word (K : Nat) (w : Nat) (hw : w < 3) (E v : PV) (h : badC v) : callN PP MM 60 (K + 4) "_law_word" [.int (w : Nat), E, v] = .ok cWord := word_c (K + 2) w hw E v (badC_check K E v h)
variable {n : Nat} {c : Nat → Int} {E W : Int}
theorem wrB_ok (K : Nat) (v : PV) (h : badC v) (x0 x1 x2 x3 x4 x5 x6 x7 x8 x9 x10 x11 x12 x13 x14 x15 x16 x17 x18 x19 x20 x21 x22 x23 x24 x25 : Sl) : wrB (callN PP MM 60 (K + 4)) (EL x0 x1 x2 x3 x4 x5 x6 x7 x8 x9 x10 x11 x12 x13 x14 x15 x16 x17 x18 x19 x20 x21 x22 (sv v) x24 x25) = .nx (EL x0 x1 x2 x3 x4 x5 x6 x7 x8 x9 x10 x11 x12 x13 x14 x15 x16 x17 x18 x19 x20 x21 x22 (sv v) x24 x25) := by
  unfold wrB
  rw [words (callN PP MM 60 (K + 4)) (EL x0 x1 x2 x3 x4 x5 x6 x7 x8 x9 x10 x11 x12 x13 x14 x15 x16 x17 x18 x19 x20 x21 x22 (sv v) x24 x25) (fun ρ => (ownE (callN PP MM 60 (K + 4)) "_law_word" 3 [(slot 25 ρ), (R.ok (.int 0)), (slot 23 ρ)])) cWord (fun w hw => by
    generalize eρ : (wipes (EL x0 x1 x2 x3 x4 x5 x6 x7 x8 x9 x10 x11 x12 x13 x14 x15 x16 x17 x18 x19 x20 x21 x22 (sv v) x24 x25) [24, 25]).set 25 (some (.int (w : Nat), false)) = ρ
    show ownE (callN PP MM 60 (K + 4)) "_law_word" 3 [(slot 25 ρ), (R.ok (.int 0)), (slot 23 ρ)] = _
    rw [show slot 25 ρ = .ok (.int (w : Nat)) by rw [← eρ]; rfl, show slot 23 ρ = .ok v by rw [← eρ]; rfl, own3]
    exact badC_word K w hw _ v h), show (PV.str [99, 108, 97, 105, 109, 115]) = cWord from rfl, three, ne_self _ rfl (by show 1 ≤ 64; omega), iS_f, then_nx]
abbrev clV (n : Nat) (c : Nat → Int) : List PV := (rg n).map fun k => PV.int (c k)
def W9 (xs : List PV) : List PV := [.non, .tup [], .lst xs, .tup (xs ++ [.int 101]), .tup (xs ++ [.int (-1)]), .tup (xs ++ [.bl true]), .tup (reps 9 [.int 1]), .int 5, .tup (xs ++ [.non])]
theorem bad_app {xs : List PV} (hx : ∀ x ∈ xs, flat x = true) (z : PV) (hz : flat z = true) (hw : isWhole 100 z = false) : badC (.tup (xs ++ [z])) := by
  refine .inr ⟨_, rfl, fun x h => ?_, ?_⟩
  · rcases List.mem_append.mp h with h | h
    · exact hx x h
    · rw [List.mem_singleton.mp h]; exact hz
  · rw [List.all_append]; simp [hw]
theorem W9_bad {xs : List PV} (hx : ∀ x ∈ xs, flat x = true) : ∀ v ∈ W9 xs, badC v := by
  intro v hv
  unfold W9 at hv
  simp only [List.mem_cons, List.not_mem_nil, or_false] at hv
  rcases hv with rfl | rfl | rfl | rfl | rfl | rfl | rfl | rfl | rfl
  · exact .inl ⟨rfl, .inl rfl⟩
  · exact .inl ⟨rfl, .inr (.inl ⟨_, rfl⟩)⟩
  · exact .inl ⟨rfl, .inr (.inr ⟨_, rfl⟩)⟩
  · exact bad_app hx _ rfl rfl
  · exact bad_app hx _ rfl rfl
  · exact bad_app hx _ rfl rfl
  · exact .inl ⟨rfl, .inr (.inl ⟨_, rfl⟩)⟩
  · exact .inl ⟨rfl, .inl rfl⟩
  · exact bad_app hx _ rfl rfl
theorem cl_flat : ∀ x ∈ clV n c, flat x = true := fun x hx => by obtain ⟨k, _, rfl⟩ := List.mem_map.mp hx; rfl
theorem tr13 (K : Nat) (hn : n ≤ 8) (x0 x1 x2 x3 x4 x5 x6 x7 x8 x9 x10 x11 x12 x13 x14 x15 x16 x17 x18 x19 x20 x21 x22 x23 x24 x25 : Sl) : ∃ y23, trB_13 (callN PP MM 60 (K + 4)) (EL x0 x1 x2 x3 (sv (cT (rg n) c)) x5 x6 x7 x8 x9 x10 x11 x12 x13 x14 x15 x16 x17 x18 x19 x20 x21 x22 x23 x24 x25) = .nx (EL x0 x1 x2 x3 (sv (cT (rg n) c)) x5 x6 x7 x8 x9 x10 x11 x12 x13 x14 x15 x16 x17 x18 x19 x20 x21 x22 y23 x24 x25) := by
  unfold trB_13
  have s4 : slot 4 (EL x0 x1 x2 x3 (sv (cT (rg n) c)) x5 x6 x7 x8 x9 x10 x11 x12 x13 x14 x15 x16 x17 x18 x19 x20 x21 x22 x23 x24 x25) = .ok (.tup (clV n c)) := rfl
  have hl : (clV n c).length ≤ 8 := by rw [List.length_map, List.length_range]; exact hn
  have t1 : ∀ z : PV, tupE [R.ok z] = .ok (.tup [z]) := fun _ => rfl
  have u1 : uopE .USub (R.ok (.int 1)) = .ok (.int (-1)) := rfl
  rw [s4, u1, t1, t1, t1, t1, t1, add_tup _ _ (by simp; omega), add_tup _ _ (by simp; omega), add_tup _ _ (by simp; omega), add_tup _ _ (by simp; omega), mul_tup _ _ (by omega),
    show lstE [(R.ok (.non)), (tupE []), (bltTE "list" [(R.ok (.tup (clV n c)))]), R.ok (.tup (clV n c ++ [.int 101])), R.ok (.tup (clV n c ++ [.int (-1)])), R.ok (.tup (clV n c ++ [.bl true])), R.ok (.tup (reps 9 [.int 1])), (R.ok (.int 5)), R.ok (.tup (clV n c ++ [.non]))] = .ok (.lst (W9 (clV n c))) from rfl]
  unfold forG
  rw [liftR_ok, show items (.lst (W9 (clV n c))) = .ok (W9 (clV n c)) from rfl, liftR_ok, if_pos (by rw [Bool.or_true])]
  have hfr : (if arePure (W9 (clV n c)) = true then (EL x0 x1 x2 x3 (sv (cT (rg n) c)) x5 x6 x7 x8 x9 x10 x11 x12 x13 x14 x15 x16 x17 x18 x19 x20 x21 x22 x23 x24 x25) else PyV.freeze [4, 4, 4, 4, 4] (EL x0 x1 x2 x3 (sv (cT (rg n) c)) x5 x6 x7 x8 x9 x10 x11 x12 x13 x14 x15 x16 x17 x18 x19 x20 x21 x22 x23 x24 x25)) = (EL x0 x1 x2 x3 (sv (cT (rg n) c)) x5 x6 x7 x8 x9 x10 x11 x12 x13 x14 x15 x16 x17 x18 x19 x20 x21 x22 x23 x24 x25) := by
    split
    · rfl
    · exact freeze_id _ _ rfl
  rw [hfr]
  obtain ⟨ρ', e, y23, rfl⟩ := forLoop_go (fun ρ => ∃ y23, ρ = EL x0 x1 x2 x3 (sv (cT (rg n) c)) x5 x6 x7 x8 x9 x10 x11 x12 x13 x14 x15 x16 x17 x18 x19 x20 x21 x22 y23 x24 x25) (fun x ρ => liftR ρ (bind1 23 x ρ) (wrB (callN PP MM 60 (K + 4)))) (W9 (clV n c)) (EL x0 x1 x2 x3 (sv (cT (rg n) c)) x5 x6 x7 x8 x9 x10 x11 x12 x13 x14 x15 x16 x17 x18 x19 x20 x21 x22 x23 x24 x25) ⟨x23, rfl⟩ (by
    rintro v hv ρ ⟨y23, rfl⟩
    exact ⟨_, wrB_ok K v (W9_bad cl_flat v hv) x0 x1 x2 x3 (sv (cT (rg n) c)) x5 x6 x7 x8 x9 x10 x11 x12 x13 x14 x15 x16 x17 x18 x19 x20 x21 x22 x23 x24 x25, sv v, rfl⟩)
  exact ⟨y23, e⟩
def E5 (W : Int) : List PV := [.non, .int (-1), .int (W + 1), if 0 < W then .bl true else .int (-2), .str [49]]
theorem E5_bad (W : Int) : ∀ v ∈ E5 W, flat v = true ∧ isWhole W v = false := by
  intro v hv
  unfold E5 at hv
  simp only [List.mem_cons, List.not_mem_nil, or_false] at hv
  rcases hv with rfl | rfl | rfl | rfl | rfl
  · exact ⟨rfl, rfl⟩
  · exact ⟨rfl, rfl⟩
  · refine ⟨rfl, ?_⟩
    show (decide (0 ≤ W + 1) && decide (W + 1 ≤ W)) = false
    rw [show decide (W + 1 ≤ W) = false by rw [decide_eq_false_iff_not]; omega, Bool.and_false]
  · split <;> exact ⟨rfl, rfl⟩
  · exact ⟨rfl, rfl⟩
theorem est_word (K : Nat) (hn : 1 ≤ n ∧ n ≤ 8) (hc : ∀ k, k < n → 0 ≤ c k ∧ c k ≤ 100) (hW : W = ((rg n).map c).sum) (w : Nat) (hw : w < 3) (v : PV) (hv : flat v = true ∧ isWhole W v = false) : callN PP MM 60 (K + 4) "_law_word" [.int (w : Nat), v, cT (rg n) c] = .ok eWord := by
  refine word_e (K + 2) w hw v _ ?_
  have em : (cT (rg n) c) = .tup (((rg n).map c).map PV.int) := by rw [List.map_map]; rfl
  rw [em, check3 K v _ (by rw [List.length_map, List.length_range]; exact hn.1) (by rw [List.length_map, List.length_range]; exact hn.2) (fun x hx => by
    obtain ⟨k, hk, rfl⟩ := List.mem_map.mp hx
    exact hc k (List.mem_range.mp hk)) hv.1, ← hW, if_neg (by rw [hv.2]; decide)]
theorem tr14 (K : Nat) (hn : 1 ≤ n ∧ n ≤ 8) (hc : ∀ k, k < n → 0 ≤ c k ∧ c k ≤ 100) (hW : W = ((rg n).map c).sum) (x0 x1 x2 x3 x4 x5 x6 x7 x8 x9 x10 x11 x12 x13 x14 x15 x16 x17 x18 x19 x20 x21 x22 x23 x24 x25 : Sl) : trB_14 (callN PP MM 60 (K + 4)) (EL x0 x1 x2 x3 (sv (cT (rg n) c)) (sv (.int W)) x6 x7 x8 x9 x10 x11 x12 x13 x14 x15 x16 x17 x18 x19 x20 x21 x22 x23 x24 x25) = .nx (EL x0 x1 x2 x3 (sv (cT (rg n) c)) (sv (.int W)) x6 x7 x8 x9 x10 x11 x12 x13 x14 x15 x16 x17 x18 x19 x20 x21 x22 x23 x24 x25) := by
  unfold trB_14
  have s5 : slot 5 (EL x0 x1 x2 x3 (sv (cT (rg n) c)) (sv (.int W)) x6 x7 x8 x9 x10 x11 x12 x13 x14 x15 x16 x17 x18 x19 x20 x21 x22 x23 x24 x25) = .ok (.int W) := rfl
  have ei : ifE (cmpT .Gt (R.ok (.int W)) (R.ok (.int 0))) (R.ok (.bl true)) (uopE .USub (R.ok (.int 2))) = .ok (if 0 < W then .bl true else .int (-2)) := by
    rw [cmpT_gt]
    by_cases h : 0 < W
    · rw [decide_eq_true h, iE_t, if_pos h]
    · rw [decide_eq_false h, iE_f, if_neg h]; rfl
  have em : itmI (lstE [(R.ok (.non)), (uopE .USub (R.ok (.int 1))), (bopE .Add (slot 5 (EL x0 x1 x2 x3 (sv (cT (rg n) c)) (sv (.int W)) x6 x7 x8 x9 x10 x11 x12 x13 x14 x15 x16 x17 x18 x19 x20 x21 x22 x23 x24 x25)) (R.ok (.int 1))), (ifE (cmpT .Gt (slot 5 (EL x0 x1 x2 x3 (sv (cT (rg n) c)) (sv (.int W)) x6 x7 x8 x9 x10 x11 x12 x13 x14 x15 x16 x17 x18 x19 x20 x21 x22 x23 x24 x25)) (R.ok (.int 0))) (R.ok (.bl true)) (uopE .USub (R.ok (.int 2)))), (R.ok (.str [49]))]) = .ok (E5 W) := by
    rw [s5, ei]; rfl
  rw [compE_map (fun _ => PV.bl true) em (.inr rfl) (fun v hv => by
    rw [bind1_b]
    generalize eρ : (wipes (EL x0 x1 x2 x3 (sv (cT (rg n) c)) (sv (.int W)) x6 x7 x8 x9 x10 x11 x12 x13 x14 x15 x16 x17 x18 x19 x20 x21 x22 x23 x24 x25) [24, 23]).set 23 (some (v, false)) = ρ
    rw [words (callN PP MM 60 (K + 4)) ρ (fun ρ => (ownE (callN PP MM 60 (K + 4)) "_law_word" 3 [(slot 25 ρ), (slot 23 ρ), (slot 4 ρ)])) eWord (fun w hw => by
      generalize eρ2 : (wipes ρ [24, 25]).set 25 (some (.int (w : Nat), false)) = ρ2
      show ownE (callN PP MM 60 (K + 4)) "_law_word" 3 [(slot 25 ρ2), (slot 23 ρ2), (slot 4 ρ2)] = _
      rw [show slot 25 ρ2 = .ok (.int (w : Nat)) by rw [← eρ2, ← eρ]; rfl, show slot 23 ρ2 = .ok v by rw [← eρ2, ← eρ]; rfl, show slot 4 ρ2 = .ok (cT (rg n) c) by rw [← eρ2, ← eρ]; rfl, own3]
      exact est_word K hn hc hW w hw v (E5_bad W v hv)), show (PV.str [101, 115, 116, 97, 116, 101]) = eWord from rfl, three]
    exact eq_self _ rfl (by show 1 ≤ 64; omega)), all_true, truT_b, nT_t, iS_f]
end Law34
set_option Elab.async false
set_option linter.all false
set_option maxRecDepth 100000
set_option maxHeartbeats 400000
namespace Law34
open PySem PyV
/-! ### one turn (printed by mkAL34.py) -/
def tmod : Nat → Int
  | 0 => 101 | 1 => 9 | 2 => 30 | 3 => 4 | 4 => 60 | _ => 12
theorem tmod_ok {t : Nat} (h : t < 6) : ixE (lstE [(R.ok (.int 101)), (R.ok (.int 9)), (R.ok (.int 30)), (R.ok (.int 4)), (R.ok (.int 60)), (R.ok (.int 12))]) (R.ok (.int (t : Nat))) = .ok (.int (tmod t)) := by
  rcases (by omega : t = 0 ∨ t = 1 ∨ t = 2 ∨ t = 3 ∨ t = 4 ∨ t = 5) with rfl | rfl | rfl | rfl | rfl | rfl <;> rfl
theorem tmod_pos (t : Nat) : 0 < tmod t ∧ tmod t ≤ 101 := by unfold tmod; split <;> omega
theorem int_ok (i : Int) : bltTE "int" [R.ok (.int i)] = .ok (.int i) := rfl
def cD (ds : List Int) (t k : Nat) : Int := dr ds (8 * (t : Nat) + (k : Nat)) % tmod t
theorem cD_le (ds : List Int) (t k : Nat) : 0 ≤ cD ds t k ∧ cD ds t k ≤ 100 := by
  unfold cD
  have := tmod_pos t
  have := Int.emod_nonneg (dr ds (8 * (t : Nat) + (k : Nat))) (show tmod t ≠ 0 by omega)
  have := Int.emod_lt_of_pos (dr ds (8 * (t : Nat) + (k : Nat))) (show 0 < tmod t by omega)
  omega
theorem sum_nonneg {α : Type} (f : α → Int) : ∀ l : List α, (∀ k ∈ l, 0 ≤ f k) → 0 ≤ (l.map f).sum
  | [], _ => by simp
  | k :: l, h => by
    rw [List.map_cons, List.sum_cons]
    have := h k List.mem_cons_self
    have := sum_nonneg f l fun j hj => h j (List.mem_cons_of_mem _ hj)
    omega
abbrev dv (ds : List Int) : Sl := sv (.lst (ds.map PV.int))
variable {n : Nat} {c : Nat → Int} {E W : Int} {r r1 r2 r3 l2 l3 : Nat → Rat}
theorem t1 (call : Str → List PV → R PV) {ds : List Int} (hl : ds.length = 60) {t : Nat} (ht : t < 6) (hn : 1 + dr ds (50 + (t : Nat)) % 8 = (n : Nat)) (x0 x3 x4 x5 x6 x7 x8 x9 x10 x11 x12 x13 x14 x15 x16 x17 x18 x19 x20 x21 x22 x23 x24 x25 : Sl) : trB_1 call (EL x0 (dv ds) (iV t) x3 x4 x5 x6 x7 x8 x9 x10 x11 x12 x13 x14 x15 x16 x17 x18 x19 x20 x21 x22 x23 x24 x25) = .nx (EL x0 (dv ds) (iV t) x3 (sv (cT (rg n) (cD ds t))) x5 x6 x7 x8 x9 x10 x11 x12 x13 x14 x15 x16 x17 x18 x19 x20 x21 x22 x23 x24 x25) := by
  unfold trB_1
  have hn8 : n ≤ 8 := by omega
  rw [show slot 1 (EL x0 (dv ds) (iV t) x3 x4 x5 x6 x7 x8 x9 x10 x11 x12 x13 x14 x15 x16 x17 x18 x19 x20 x21 x22 x23 x24 x25) = .ok (.lst (ds.map PV.int)) from rfl, show slot 2 (EL x0 (dv ds) (iV t) x3 x4 x5 x6 x7 x8 x9 x10 x11 x12 x13 x14 x15 x16 x17 x18 x19 x20 x21 x22 x23 x24 x25) = .ok (.int (t : Nat)) from rfl, bopE_add, dr_ok (by omega) (by omega), int_ok, mod_ok _ _ (by omega), bopE_add, hn, range0 n (by omega)]
  have hlb := line_big
  rw [compE_L (l := List.range n) (fun (j : Nat) => PV.int (j : Nat)) (fun k => PV.int (cD ds t k)) rfl (.inl (by rw [List.length_range]; omega)) (fun k hk => by
    have hk := List.mem_range.mp hk
    rw [bind1_b]
    generalize eρ : (wipes (EL x0 (dv ds) (iV t) x3 x4 x5 x6 x7 x8 x9 x10 x11 x12 x13 x14 x15 x16 x17 x18 x19 x20 x21 x22 x23 x24 x25) [24, 3]).set 3 (some (.int (k : Nat), false)) = ρ
    rw [show slot 1 ρ = .ok (.lst (ds.map PV.int)) by rw [← eρ]; rfl, show slot 2 ρ = .ok (.int (t : Nat)) by rw [← eρ]; rfl, show slot 3 ρ = .ok (.int (k : Nat)) by rw [← eρ]; rfl, show bopE .Mult (R.ok (PV.int 8)) (R.ok (.int (t : Nat))) = .ok (.int (8 * (t : Nat))) from mul_ok _ _ (cmul_r _ _ (by omega)), bopE_add, dr_ok (by omega) (by omega), int_ok, tmod_ok ht, mod_ok _ _ (tmod_pos t).1]
    rfl)]
  show setS _ 4 (R.ok (cT (rg n) (cD ds t))) true _ = _
  rw [setS_pure _ _ _ _ _ (by show arePure _ = true; exact arePure_of fun y hy => by obtain ⟨z, _, rfl⟩ := List.mem_map.mp hy; rfl)]
  rfl
theorem t2 (call : Str → List PV → R PV) {ds : List Int} {t : Nat} (hW : W = ((rg n).map c).sum) (x0 x3 x5 x6 x7 x8 x9 x10 x11 x12 x13 x14 x15 x16 x17 x18 x19 x20 x21 x22 x23 x24 x25 : Sl) : trB_2 call (EL x0 (dv ds) (iV t) x3 (sv (cT (rg n) c)) x5 x6 x7 x8 x9 x10 x11 x12 x13 x14 x15 x16 x17 x18 x19 x20 x21 x22 x23 x24 x25) = .nx (EL x0 (dv ds) (iV t) x3 (sv (cT (rg n) c)) (sv (.int W)) x6 x7 x8 x9 x10 x11 x12 x13 x14 x15 x16 x17 x18 x19 x20 x21 x22 x23 x24 x25) := by
  unfold trB_2
  rw [show slot 4 (EL x0 (dv ds) (iV t) x3 (sv (cT (rg n) c)) x5 x6 x7 x8 x9 x10 x11 x12 x13 x14 x15 x16 x17 x18 x19 x20 x21 x22 x23 x24 x25) = .ok (cT (rg n) c) from rfl, sumT, ← hW, setS_pure _ _ _ _ _ rfl]
  rfl
theorem t3 (call : Str → List PV → R PV) {ds : List Int} (hl : ds.length = 60) {t : Nat} (ht : t < 6) (hW : 0 ≤ W) (hE : E = dr ds 54 / (1 + (t : Nat)) % (W + 1)) (x0 x3 x6 x7 x8 x9 x10 x11 x12 x13 x14 x15 x16 x17 x18 x19 x20 x21 x22 x23 x24 x25 : Sl) : trB_3 call (EL x0 (dv ds) (iV t) x3 (sv (cT (rg n) c)) (sv (.int W)) x6 x7 x8 x9 x10 x11 x12 x13 x14 x15 x16 x17 x18 x19 x20 x21 x22 x23 x24 x25) = .nx (EL x0 (dv ds) (iV t) x3 (sv (cT (rg n) c)) (sv (.int W)) (sv (.int E)) x7 x8 x9 x10 x11 x12 x13 x14 x15 x16 x17 x18 x19 x20 x21 x22 x23 x24 x25) := by
  unfold trB_3
  rw [show slot 1 (EL x0 (dv ds) (iV t) x3 (sv (cT (rg n) c)) (sv (.int W)) x6 x7 x8 x9 x10 x11 x12 x13 x14 x15 x16 x17 x18 x19 x20 x21 x22 x23 x24 x25) = .ok (.lst (ds.map PV.int)) from rfl, show slot 2 (EL x0 (dv ds) (iV t) x3 (sv (cT (rg n) c)) (sv (.int W)) x6 x7 x8 x9 x10 x11 x12 x13 x14 x15 x16 x17 x18 x19 x20 x21 x22 x23 x24 x25) = .ok (.int (t : Nat)) from rfl, show slot 5 (EL x0 (dv ds) (iV t) x3 (sv (cT (rg n) c)) (sv (.int W)) x6 x7 x8 x9 x10 x11 x12 x13 x14 x15 x16 x17 x18 x19 x20 x21 x22 x23 x24 x25) = .ok (.int W) from rfl, dr_ok (by omega) (by omega), int_ok, bopE_add, bopE_add, div_ok _ _ (by omega) (by omega), mod_ok _ _ (by omega), ← hE, setS_pure _ _ _ _ _ rfl]
  rfl
theorem t4 (K : Nat) {ds : List Int} {t : Nat} (x0 x3 x7 x8 x9 x10 x11 x12 x13 x14 x15 x16 x17 x18 x19 x20 x21 x22 x23 x24 x25 : Sl) (h7 : Calm7 x7) : trB_4 (callN PP MM 60 (K + 4)) (EL x0 (dv ds) (iV t) x3 (sv (cT (rg n) c)) (sv (.int W)) (sv (.int E)) x7 x8 x9 x10 x11 x12 x13 x14 x15 x16 x17 x18 x19 x20 x21 x22 x23 x24 x25) = .nx (EL x0 (dv ds) (iV t) x3 (sv (cT (rg n) c)) (sv (.int W)) (sv (.int E)) x7 (sv (full n c)) (sv (halves n c)) x10 x11 x12 x13 x14 x15 x16 x17 x18 x19 x20 x21 x22 x23 x24 x25) := by
  unfold trB_4
  rw [show itmI (slot 4 (EL x0 (dv ds) (iV t) x3 (sv (cT (rg n) c)) (sv (.int W)) (sv (.int E)) x7 x8 x9 x10 x11 x12 x13 x14 x15 x16 x17 x18 x19 x20 x21 x22 x23 x24 x25)) = .ok ((rg n).map fun k => PV.int (c k)) from rfl, compE_L (l := rg n) (fun k => PV.int (c k)) (fun k => rv (c k : Rat)) rfl (.inr rfl) (fun k hk => by rw [bind1_b]; rfl),
    compE_L (l := rg n) (fun k => PV.int (c k)) (fun k => rv ((c k : Rat) * inv1 2)) rfl (.inr rfl) (fun k hk => by
      rw [bind1_b]
      generalize eρ : (wipes (EL x0 (dv ds) (iV t) x3 (sv (cT (rg n) c)) (sv (.int W)) (sv (.int E)) x7 x8 x9 x10 x11 x12 x13 x14 x15 x16 x17 x18 x19 x20 x21 x22 x23 x24 x25) [24, 7]).set 7 (some (.int (c k), false)) = ρ
      rw [show slot 7 ρ = .ok (.int (c k)) by rw [← eρ]; rfl, own2, show callN PP MM 60 (K + 4) (Str.ofString "_law_low") [.int (c k), .int 2] = _ from low_ok (K + 3) (c k) 2 (by omega) (by omega), mk_int]), tup2, unp2 _ _ _ _ _ _ (by rcases h7 with rfl | ⟨v, rfl⟩ <;> rfl)]
  rfl
theorem t5 (K : Nat) (T : Told n c E W r1 r2 r3 l2 l3 K) {ds : List Int} {t : Nat} (x0 x3 x7 x10 x11 x12 x13 x14 x15 x16 x17 x18 x19 x20 x21 x22 x23 x24 x25 : Sl) : trB_5 (callN PP MM 60 (K + 4)) (EL x0 (dv ds) (iV t) x3 (sv (cT (rg n) c)) (sv (.int W)) (sv (.int E)) x7 (sv (full n c)) (sv (halves n c)) x10 x11 x12 x13 x14 x15 x16 x17 x18 x19 x20 x21 x22 x23 x24 x25) = .nx (EL x0 (dv ds) (iV t) x3 (sv (cT (rg n) c)) (sv (.int W)) (sv (.int E)) x7 (sv (full n c)) (sv (halves n c)) (sv (qL (rg n) r1)) x11 x12 x13 x14 x15 x16 x17 x18 x19 x20 x21 x22 x23 x24 x25) := by
  unfold trB_5
  rw [show slot 6 (EL x0 (dv ds) (iV t) x3 (sv (cT (rg n) c)) (sv (.int W)) (sv (.int E)) x7 (sv (full n c)) (sv (halves n c)) x10 x11 x12 x13 x14 x15 x16 x17 x18 x19 x20 x21 x22 x23 x24 x25) = .ok (.int E) from rfl, show slot 8 (EL x0 (dv ds) (iV t) x3 (sv (cT (rg n) c)) (sv (.int W)) (sv (.int E)) x7 (sv (full n c)) (sv (halves n c)) x10 x11 x12 x13 x14 x15 x16 x17 x18 x19 x20 x21 x22 x23 x24 x25) = .ok (full n c) from rfl, tup2, own2, show callN PP MM 60 (K + 4) (Str.ofString "_law_filled") [.tup [.int E, .int 1], full n c] = _ from T.f1, setS_calm _ _ _ _ _ rfl rfl]
  rfl
theorem t6 (K : Nat) (T : Told n c E W r1 r2 r3 l2 l3 K) {ds : List Int} {t : Nat} (x0 x3 x7 x11 x12 x13 x14 x15 x16 x17 x18 x19 x20 x21 x22 x23 x24 x25 : Sl) : trB_6 (callN PP MM 60 (K + 4)) (EL x0 (dv ds) (iV t) x3 (sv (cT (rg n) c)) (sv (.int W)) (sv (.int E)) x7 (sv (full n c)) (sv (halves n c)) (sv (qL (rg n) r1)) x11 x12 x13 x14 x15 x16 x17 x18 x19 x20 x21 x22 x23 x24 x25) = .nx (EL x0 (dv ds) (iV t) x3 (sv (cT (rg n) c)) (sv (.int W)) (sv (.int E)) x7 (sv (full n c)) (sv (halves n c)) (sv (qL (rg n) r1)) (sv (qL (rg n) l2)) x12 x13 x14 x15 x16 x17 x18 x19 x20 x21 x22 x23 x24 x25) := by
  unfold trB_6
  rw [show slot 6 (EL x0 (dv ds) (iV t) x3 (sv (cT (rg n) c)) (sv (.int W)) (sv (.int E)) x7 (sv (full n c)) (sv (halves n c)) (sv (qL (rg n) r1)) x11 x12 x13 x14 x15 x16 x17 x18 x19 x20 x21 x22 x23 x24 x25) = .ok (.int E) from rfl, show slot 5 (EL x0 (dv ds) (iV t) x3 (sv (cT (rg n) c)) (sv (.int W)) (sv (.int E)) x7 (sv (full n c)) (sv (halves n c)) (sv (qL (rg n) r1)) x11 x12 x13 x14 x15 x16 x17 x18 x19 x20 x21 x22 x23 x24 x25) = .ok (.int W) from rfl, show slot 8 (EL x0 (dv ds) (iV t) x3 (sv (cT (rg n) c)) (sv (.int W)) (sv (.int E)) x7 (sv (full n c)) (sv (halves n c)) (sv (qL (rg n) r1)) x11 x12 x13 x14 x15 x16 x17 x18 x19 x20 x21 x22 x23 x24 x25) = .ok (full n c) from rfl, bopE_sub, tup2, own2, show callN PP MM 60 (K + 4) (Str.ofString "_law_filled") [.tup [.int (W - E), .int 1], full n c] = _ from T.f2, setS_calm _ _ _ _ _ rfl rfl]
  rfl
theorem less_list (K : Nat) (hn : n ≤ 8) (hl : ∀ k, k < n → Zf (r1 k) ∧ r2 k = (c k : Rat) - r1 k) (ρ : PyV.Env) (el : PyV.Env → R PV) (i : Nat) (h4 : slot 4 ρ = .ok (cT (rg n) c))
    (h : ∀ k, k < n → el ((wipes ρ [24, 3]).set 3 (some (.int (k : Nat), false))) = ownE (callN PP MM 60 (K + 4)) "_law_plus" 2 [R.ok (rv (c k : Rat)), tupE [bopE .Sub (R.ok (.int 0)) (ixE (R.ok (rv (r1 k))) (R.ok (.int 0))), ixE (R.ok (rv (r1 k))) (R.ok (.int 1))]]) :
    compE true (rngI [(bltE "len" [(slot 4 ρ)])]) (fun x => bind1 3 x (wipes ρ [24, 3])) (fun ρ => noIf) el = .ok (qL (rg n) r2) := by
  have hlb := line_big
  rw [h4, len_tup, List.length_map, List.length_range, range0 n (by omega)]
  refine compE_L (l := List.range n) (fun (j : Nat) => PV.int (j : Nat)) (fun k => rv (r2 k)) rfl (.inl (by rw [List.length_range]; omega)) (fun k hk => ?_)
  have hk := List.mem_range.mp hk
  obtain ⟨hz, he⟩ := hl k hk
  rw [bind1_b, h k hk, rv0, rv1, rv_neg, own2, show callN PP MM 60 (K + 4) (Str.ofString "_law_plus") [rv (c k : Rat), rv (-(r1 k))] = _ from plus_ok (K + 2) _ _ (by rw [Rat.den_intCast]; omega) (den_of hz.neg), ← Rat.sub_eq_add_neg, he]
theorem t7 (K : Nat) (T : Told n c E W r1 r2 r3 l2 l3 K) (hn : n ≤ 8) (h2 : ∀ k, k < n → Zf (l2 k) ∧ r2 k = (c k : Rat) - l2 k) {ds : List Int} {t : Nat} (x0 x3 x7 x12 x13 x14 x15 x16 x17 x18 x19 x20 x21 x22 x23 x24 x25 : Sl) : trB_7 (callN PP MM 60 (K + 4)) (EL x0 (dv ds) (iV t) x3 (sv (cT (rg n) c)) (sv (.int W)) (sv (.int E)) x7 (sv (full n c)) (sv (halves n c)) (sv (qL (rg n) r1)) (sv (qL (rg n) l2)) x12 x13 x14 x15 x16 x17 x18 x19 x20 x21 x22 x23 x24 x25) = .nx (EL x0 (dv ds) (iV t) x3 (sv (cT (rg n) c)) (sv (.int W)) (sv (.int E)) x7 (sv (full n c)) (sv (halves n c)) (sv (qL (rg n) r1)) (sv (qL (rg n) l2)) x12 x13 x14 x15 x16 x17 x18 x19 x20 x21 x22 x23 x24 x25) := by
  unfold trB_7
  rw [less_list (r1 := l2) (r2 := r2) (c := c) K hn h2 (EL x0 (dv ds) (iV t) x3 (sv (cT (rg n) c)) (sv (.int W)) (sv (.int E)) x7 (sv (full n c)) (sv (halves n c)) (sv (qL (rg n) r1)) (sv (qL (rg n) l2)) x12 x13 x14 x15 x16 x17 x18 x19 x20 x21 x22 x23 x24 x25) _ 11 rfl (fun k hk => by
    generalize eρ : (wipes (EL x0 (dv ds) (iV t) x3 (sv (cT (rg n) c)) (sv (.int W)) (sv (.int E)) x7 (sv (full n c)) (sv (halves n c)) (sv (qL (rg n) r1)) (sv (qL (rg n) l2)) x12 x13 x14 x15 x16 x17 x18 x19 x20 x21 x22 x23 x24 x25) [24, 3]).set 3 (some (.int (k : Nat), false)) = ρ
    show ownE (callN PP MM 60 (K + 4)) "_law_plus" 2 [(ixE (slot 8 ρ) (slot 3 ρ)), (tupE [(bopE .Sub (R.ok (.int 0)) (ixE (ixE (slot 11 ρ) (slot 3 ρ)) (R.ok (.int 0)))), (ixE (ixE (slot 11 ρ) (slot 3 ρ)) (R.ok (.int 1)))])] = _
    rw [show slot 8 ρ = .ok (full n c) by rw [← eρ]; rfl, show slot 11 ρ = .ok (qL (rg n) l2) by rw [← eρ]; rfl, show slot 3 ρ = .ok (.int (k : Nat)) by rw [← eρ]; rfl, ixR (fun k => rv (c k : Rat)) hk, ixR (fun k => rv (l2 k)) hk]),
    show slot 6 (EL x0 (dv ds) (iV t) x3 (sv (cT (rg n) c)) (sv (.int W)) (sv (.int E)) x7 (sv (full n c)) (sv (halves n c)) (sv (qL (rg n) r1)) (sv (qL (rg n) l2)) x12 x13 x14 x15 x16 x17 x18 x19 x20 x21 x22 x23 x24 x25) = .ok (.int E) from rfl, show slot 4 (EL x0 (dv ds) (iV t) x3 (sv (cT (rg n) c)) (sv (.int W)) (sv (.int E)) x7 (sv (full n c)) (sv (halves n c)) (sv (qL (rg n) r1)) (sv (qL (rg n) l2)) x12 x13 x14 x15 x16 x17 x18 x19 x20 x21 x22 x23 x24 x25) = .ok (cT (rg n) c) from rfl, show slot 10 (EL x0 (dv ds) (iV t) x3 (sv (cT (rg n) c)) (sv (.int W)) (sv (.int E)) x7 (sv (full n c)) (sv (halves n c)) (sv (qL (rg n) r1)) (sv (qL (rg n) l2)) x12 x13 x14 x15 x16 x17 x18 x19 x20 x21 x22 x23 x24 x25) = .ok (qL (rg n) r1) from rfl, own2, own2,
    show callN PP MM 60 (K + 4) (Str.ofString "equal_gains") [.int E, cT (rg n) c] = _ from T.g1, show callN PP MM 60 (K + 4) (Str.ofString "equal_losses") [.int E, cT (rg n) c] = _ from T.g2,
    show bltTE "tuple" [R.ok (qL (rg n) r1)] = .ok (qT (rg n) r1) from rfl, show bltTE "tuple" [R.ok (qL (rg n) r2)] = .ok (qT (rg n) r2) from rfl, ne_self _ (qT_data _ _) (qT_deep _ _), ne_self _ (qT_data _ _) (qT_deep _ _), oT_f, iS_f]
theorem t8 (K : Nat) (T : Told n c E W r1 r2 r3 l2 l3 K) (hn : n ≤ 8) (h3 : ¬ 2 * E ≤ W → ∀ k, k < n → Zf (l3 k) ∧ r3 k = (c k : Rat) - l3 k) {ds : List Int} {t : Nat} (x0 x3 x7 x12 x13 x14 x15 x16 x17 x18 x19 x20 x21 x22 x23 x24 x25 : Sl) : ∃ b y13, trB_8 (callN PP MM 60 (K + 4)) (EL x0 (dv ds) (iV t) x3 (sv (cT (rg n) c)) (sv (.int W)) (sv (.int E)) x7 (sv (full n c)) (sv (halves n c)) (sv (qL (rg n) r1)) (sv (qL (rg n) l2)) x12 x13 x14 x15 x16 x17 x18 x19 x20 x21 x22 x23 x24 x25) = .nx (EL x0 (dv ds) (iV t) x3 (sv (cT (rg n) c)) (sv (.int W)) (sv (.int E)) x7 (sv (full n c)) (sv (halves n c)) (sv (qL (rg n) r1)) (sv (qL (rg n) l2)) (some (qL (rg n) r3, b)) y13 x14 x15 x16 x17 x18 x19 x20 x21 x22 x23 x24 x25) := by
  unfold trB_8
  have s6 : slot 6 (EL x0 (dv ds) (iV t) x3 (sv (cT (rg n) c)) (sv (.int W)) (sv (.int E)) x7 (sv (full n c)) (sv (halves n c)) (sv (qL (rg n) r1)) (sv (qL (rg n) l2)) x12 x13 x14 x15 x16 x17 x18 x19 x20 x21 x22 x23 x24 x25) = .ok (.int E) := rfl
  have s5 : slot 5 (EL x0 (dv ds) (iV t) x3 (sv (cT (rg n) c)) (sv (.int W)) (sv (.int E)) x7 (sv (full n c)) (sv (halves n c)) (sv (qL (rg n) r1)) (sv (qL (rg n) l2)) x12 x13 x14 x15 x16 x17 x18 x19 x20 x21 x22 x23 x24 x25) = .ok (.int W) := rfl
  have s9 : slot 9 (EL x0 (dv ds) (iV t) x3 (sv (cT (rg n) c)) (sv (.int W)) (sv (.int E)) x7 (sv (full n c)) (sv (halves n c)) (sv (qL (rg n) r1)) (sv (qL (rg n) l2)) x12 x13 x14 x15 x16 x17 x18 x19 x20 x21 x22 x23 x24 x25) = .ok (halves n c) := rfl
  rw [s6, s5, s9, mul2, cmpT_le]
  by_cases hlow : 2 * E ≤ W
  · refine ⟨false, x13, ?_⟩
    rw [decide_eq_true hlow, iS_t, tup2, own2, show callN PP MM 60 (K + 4) (Str.ofString "_law_filled") [.tup [.int E, .int 1], halves n c] = _ from T.f3 hlow, setS_calm _ _ _ _ _ rfl rfl, then_nx]
    rfl
  · refine ⟨true, sv (qL (rg n) l3), ?_⟩
    rw [decide_eq_false hlow, iS_f, bopE_sub, tup2, own2, show callN PP MM 60 (K + 4) (Str.ofString "_law_filled") [.tup [.int (W - E), .int 1], halves n c] = _ from T.f4 hlow, setS_calm _ _ _ _ _ rfl rfl, then_nx]
    show SR.then (setS (EL x0 (dv ds) (iV t) x3 (sv (cT (rg n) c)) (sv (.int W)) (sv (.int E)) x7 (sv (full n c)) (sv (halves n c)) (sv (qL (rg n) r1)) (sv (qL (rg n) l2)) x12 (sv (qL (rg n) l3)) x14 x15 x16 x17 x18 x19 x20 x21 x22 x23 x24 x25) 12 _ true [8, 3, 13, 3, 13, 3, 4]) _ = _
    have ec := less_list (r1 := l3) (r2 := r3) (c := c) K hn (h3 hlow) (EL x0 (dv ds) (iV t) x3 (sv (cT (rg n) c)) (sv (.int W)) (sv (.int E)) x7 (sv (full n c)) (sv (halves n c)) (sv (qL (rg n) r1)) (sv (qL (rg n) l2)) x12 (sv (qL (rg n) l3)) x14 x15 x16 x17 x18 x19 x20 x21 x22 x23 x24 x25) (fun ρ => (ownE (callN PP MM 60 (K + 4)) "_law_plus" 2 [(ixE (slot 8 ρ) (slot 3 ρ)), (tupE [(bopE .Sub (R.ok (.int 0)) (ixE (ixE (slot 13 ρ) (slot 3 ρ)) (R.ok (.int 0)))), (ixE (ixE (slot 13 ρ) (slot 3 ρ)) (R.ok (.int 1)))])])) 13 rfl (fun k hk => by
      generalize eρ : (wipes (EL x0 (dv ds) (iV t) x3 (sv (cT (rg n) c)) (sv (.int W)) (sv (.int E)) x7 (sv (full n c)) (sv (halves n c)) (sv (qL (rg n) r1)) (sv (qL (rg n) l2)) x12 (sv (qL (rg n) l3)) x14 x15 x16 x17 x18 x19 x20 x21 x22 x23 x24 x25) [24, 3]).set 3 (some (.int (k : Nat), false)) = ρ
      show ownE (callN PP MM 60 (K + 4)) "_law_plus" 2 [(ixE (slot 8 ρ) (slot 3 ρ)), (tupE [(bopE .Sub (R.ok (.int 0)) (ixE (ixE (slot 13 ρ) (slot 3 ρ)) (R.ok (.int 0)))), (ixE (ixE (slot 13 ρ) (slot 3 ρ)) (R.ok (.int 1)))])] = _
      rw [show slot 8 ρ = .ok (full n c) by rw [← eρ]; rfl, show slot 13 ρ = .ok (qL (rg n) l3) by rw [← eρ]; rfl, show slot 3 ρ = .ok (.int (k : Nat)) by rw [← eρ]; rfl, ixR (fun k => rv (c k : Rat)) hk, ixR (fun k => rv (l3 k)) hk])
    have : ∀ R0 : R PV, R0 = .ok (qL (rg n) r3) → SR.then (setS (EL x0 (dv ds) (iV t) x3 (sv (cT (rg n) c)) (sv (.int W)) (sv (.int E)) x7 (sv (full n c)) (sv (halves n c)) (sv (qL (rg n) r1)) (sv (qL (rg n) l2)) x12 (sv (qL (rg n) l3)) x14 x15 x16 x17 x18 x19 x20 x21 x22 x23 x24 x25) 12 R0 true [8, 3, 13, 3, 13, 3, 4]) (fun ρ => SR.nx ρ) = .nx (EL x0 (dv ds) (iV t) x3 (sv (cT (rg n) c)) (sv (.int W)) (sv (.int E)) x7 (sv (full n c)) (sv (halves n c)) (sv (qL (rg n) r1)) (sv (qL (rg n) l2)) (some (qL (rg n) r3, true)) (sv (qL (rg n) l3)) x14 x15 x16 x17 x18 x19 x20 x21 x22 x23 x24 x25) := by
      rintro R0 rfl
      rw [setS_held _ _ _ _ (pure_qs _ _), then_nx]
      rfl
    exact this _ ec
theorem t9 (K : Nat) (T : Told n c E W r1 r2 r3 l2 l3 K) {ds : List Int} {t : Nat} (b : Bool) (x0 x3 x7 x13 x14 x15 x16 x17 x18 x19 x20 x21 x22 x23 x24 x25 : Sl) : trB_9 (callN PP MM 60 (K + 4)) (EL x0 (dv ds) (iV t) x3 (sv (cT (rg n) c)) (sv (.int W)) (sv (.int E)) x7 (sv (full n c)) (sv (halves n c)) (sv (qL (rg n) r1)) (sv (qL (rg n) l2)) (some (qL (rg n) r3, b)) x13 x14 x15 x16 x17 x18 x19 x20 x21 x22 x23 x24 x25) = .nx (EL x0 (dv ds) (iV t) x3 (sv (cT (rg n) c)) (sv (.int W)) (sv (.int E)) x7 (sv (full n c)) (sv (halves n c)) (sv (qL (rg n) r1)) (sv (qL (rg n) l2)) (some (qL (rg n) r3, b)) x13 (sv (qT (rg n) r3)) x15 x16 x17 x18 x19 x20 x21 x22 x23 x24 x25) := by
  unfold trB_9
  rw [show slot 6 (EL x0 (dv ds) (iV t) x3 (sv (cT (rg n) c)) (sv (.int W)) (sv (.int E)) x7 (sv (full n c)) (sv (halves n c)) (sv (qL (rg n) r1)) (sv (qL (rg n) l2)) (some (qL (rg n) r3, b)) x13 x14 x15 x16 x17 x18 x19 x20 x21 x22 x23 x24 x25) = .ok (.int E) from rfl, show slot 4 (EL x0 (dv ds) (iV t) x3 (sv (cT (rg n) c)) (sv (.int W)) (sv (.int E)) x7 (sv (full n c)) (sv (halves n c)) (sv (qL (rg n) r1)) (sv (qL (rg n) l2)) (some (qL (rg n) r3, b)) x13 x14 x15 x16 x17 x18 x19 x20 x21 x22 x23 x24 x25) = .ok (cT (rg n) c) from rfl, own2, show callN PP MM 60 (K + 4) (Str.ofString "half_rule") [.int E, cT (rg n) c] = _ from T.g3, setS_pure _ _ _ _ _ (by show arePure _ = true; exact pure_qs _ _)]
  rfl
theorem t10 (call : Str → List PV → R PV) {ds : List Int} {t : Nat} (b : Bool) (x0 x3 x7 x13 x15 x16 x17 x18 x19 x20 x21 x22 x23 x24 x25 : Sl) : trB_10 call (EL x0 (dv ds) (iV t) x3 (sv (cT (rg n) c)) (sv (.int W)) (sv (.int E)) x7 (sv (full n c)) (sv (halves n c)) (sv (qL (rg n) r1)) (sv (qL (rg n) l2)) (some (qL (rg n) r3, b)) x13 (sv (qT (rg n) r3)) x15 x16 x17 x18 x19 x20 x21 x22 x23 x24 x25) = .nx (EL x0 (dv ds) (iV t) x3 (sv (cT (rg n) c)) (sv (.int W)) (sv (.int E)) x7 (sv (full n c)) (sv (halves n c)) (sv (qL (rg n) r1)) (sv (qL (rg n) l2)) (some (qL (rg n) r3, b)) x13 (sv (qT (rg n) r3)) x15 x16 x17 x18 x19 x20 x21 x22 x23 x24 x25) := by
  unfold trB_10
  rw [show slot 14 (EL x0 (dv ds) (iV t) x3 (sv (cT (rg n) c)) (sv (.int W)) (sv (.int E)) x7 (sv (full n c)) (sv (halves n c)) (sv (qL (rg n) r1)) (sv (qL (rg n) l2)) (some (qL (rg n) r3, b)) x13 (sv (qT (rg n) r3)) x15 x16 x17 x18 x19 x20 x21 x22 x23 x24 x25) = .ok (qT (rg n) r3) from rfl, show slot 12 (EL x0 (dv ds) (iV t) x3 (sv (cT (rg n) c)) (sv (.int W)) (sv (.int E)) x7 (sv (full n c)) (sv (halves n c)) (sv (qL (rg n) r1)) (sv (qL (rg n) l2)) (some (qL (rg n) r3, b)) x13 (sv (qT (rg n) r3)) x15 x16 x17 x18 x19 x20 x21 x22 x23 x24 x25) = .ok (qL (rg n) r3) from rfl, show bltTE "tuple" [R.ok (qL (rg n) r3)] = .ok (qT (rg n) r3) from rfl, ne_self _ (qT_data _ _) (qT_deep _ _), iS_f]
theorem t11 (K : Nat) (T : Told n c E W r1 r2 r3 l2 l3 K) (hn : n ≤ 8) (g1 : RowQ n c E r1) (g2 : RowQ n c E r2) (g3 : RowQ n c E r3) (x0 x1 x2 x3 x5 x7 x8 x9 x10 x11 x12 x13 x15 x16 x17 x18 x19 x20 x21 x22 x23 x24 x25 : Sl) : ∃ y3 y15 y16, trB_11 (callN PP MM 60 (K + 4)) (EL x0 x1 x2 x3 (sv (cT (rg n) c)) x5 (sv (.int E)) x7 x8 x9 x10 x11 x12 x13 (sv (qT (rg n) r3)) x15 x16 x17 x18 x19 x20 x21 x22 x23 x24 x25) = .nx (EL x0 x1 x2 y3 (sv (cT (rg n) c)) x5 (sv (.int E)) x7 x8 x9 x10 x11 x12 x13 (sv (qT (rg n) r3)) y15 y16 x17 x18 x19 x20 x21 x22 x23 x24 x25) := by
  unfold trB_11
  rw [show slot 6 (EL x0 x1 x2 x3 (sv (cT (rg n) c)) x5 (sv (.int E)) x7 x8 x9 x10 x11 x12 x13 (sv (qT (rg n) r3)) x15 x16 x17 x18 x19 x20 x21 x22 x23 x24 x25) = .ok (.int E) from rfl, show slot 4 (EL x0 x1 x2 x3 (sv (cT (rg n) c)) x5 (sv (.int E)) x7 x8 x9 x10 x11 x12 x13 (sv (qT (rg n) r3)) x15 x16 x17 x18 x19 x20 x21 x22 x23 x24 x25) = .ok (cT (rg n) c) from rfl, show slot 14 (EL x0 x1 x2 x3 (sv (cT (rg n) c)) x5 (sv (.int E)) x7 x8 x9 x10 x11 x12 x13 (sv (qT (rg n) r3)) x15 x16 x17 x18 x19 x20 x21 x22 x23 x24 x25) = .ok (qT (rg n) r3) from rfl, own2, own2, show callN PP MM 60 (K + 4) (Str.ofString "equal_gains") [.int E, cT (rg n) c] = _ from T.g1, show callN PP MM 60 (K + 4) (Str.ofString "equal_losses") [.int E, cT (rg n) c] = _ from T.g2,
    show lstE [R.ok (qT (rg n) r1), R.ok (qT (rg n) r2), R.ok (qT (rg n) r3)] = .ok (.lst ([r1, r2, r3].map (qT (rg n)))) from rfl]
  unfold forG
  rw [liftR_ok, show items (.lst ([r1, r2, r3].map (qT (rg n)))) = .ok ([r1, r2, r3].map (qT (rg n))) from rfl, liftR_ok, if_pos (by rw [Bool.or_true]), if_pos (arePure_of fun y hy => by obtain ⟨z, _, rfl⟩ := List.mem_map.mp hy; show arePure _ = true; exact pure_qs _ _)]
  obtain ⟨ρ', e, y3, y15, y16, rfl⟩ := forLoop_go (fun ρ => ∃ y3 y15 y16, ρ = EL x0 x1 x2 y3 (sv (cT (rg n) c)) x5 (sv (.int E)) x7 x8 x9 x10 x11 x12 x13 (sv (qT (rg n) r3)) y15 y16 x17 x18 x19 x20 x21 x22 x23 x24 x25) (fun x ρ => liftR ρ (bind1 15 x ρ) (rowB (callN PP MM 60 (K + 4)))) ([r1, r2, r3].map (qT (rg n))) (EL x0 x1 x2 x3 (sv (cT (rg n) c)) x5 (sv (.int E)) x7 x8 x9 x10 x11 x12 x13 (sv (qT (rg n) r3)) x15 x16 x17 x18 x19 x20 x21 x22 x23 x24 x25) ⟨x3, x15, x16, rfl⟩ (by
    rintro v hv ρ ⟨y3, y15, y16, rfl⟩
    obtain ⟨r, hr, rfl⟩ := List.mem_map.mp hv
    have hrow : RowQ n c E r := by
      simp only [List.mem_cons, List.not_mem_nil, or_false] at hr
      rcases hr with rfl | rfl | rfl <;> assumption
    obtain ⟨z3, z16, e⟩ := rowB_ok K hrow hn x0 x1 x2 y3 none x5 none x7 x8 x9 x10 x11 x12 x13 (sv (qT (rg n) r3)) x15 y16 x17 x18 x19 x20 x21 x22 x23 x24 x25
    exact ⟨_, (liftR_bind1 _ _ _ _).trans e, z3, sv (qT (rg n) r), z16, rfl⟩)
  exact ⟨y3, y15, y16, e⟩
theorem t12 (K : Nat) (h : RowQ n c E r) (hp : PairQ n c r) (hn : n ≤ 8) (hc : ∀ k, k < n → 0 ≤ c k ∧ c k ≤ 100) (x0 x1 x2 x3 x5 x6 x7 x8 x9 x10 x11 x12 x13 x15 x16 x17 x18 x19 x20 x21 x22 x23 x24 x25 : Sl) (h7 : Calm7 x7) : ∃ y3 y7 y17 y18 y19 y20 y21 y22, trB_12 (callN PP MM 60 (K + 4)) (EL x0 x1 x2 x3 (sv (cT (rg n) c)) x5 x6 x7 x8 x9 x10 x11 x12 x13 (sv (qT (rg n) r)) x15 x16 x17 x18 x19 x20 x21 x22 x23 x24 x25) = .nx (EL x0 x1 x2 y3 (sv (cT (rg n) c)) x5 x6 y7 x8 x9 x10 x11 x12 x13 (sv (qT (rg n) r)) x15 x16 y17 y18 y19 y20 y21 y22 x23 x24 x25) ∧ Calm7 y7 := by
  unfold trB_12
  obtain ⟨ρ', e, y3, y7, y17, y18, y19, y20, y21, y22, rfl, h7'⟩ := forR_inv (fun _ ρ => ∃ y3 y7 y17 y18 y19 y20 y21 y22, ρ = EL x0 x1 x2 y3 (sv (cT (rg n) c)) x5 x6 y7 x8 x9 x10 x11 x12 x13 (sv (qT (rg n) r)) x15 x16 y17 y18 y19 y20 y21 y22 x23 x24 x25 ∧ Calm7 y7) 3 (kB (callN PP MM 60 (K + 4))) n (EL x0 x1 x2 x3 (sv (cT (rg n) c)) x5 x6 x7 x8 x9 x10 x11 x12 x13 (sv (qT (rg n) r)) x15 x16 x17 x18 x19 x20 x21 x22 x23 x24 x25) (rngI [(bltE "len" [(slot 4 (EL x0 x1 x2 x3 (sv (cT (rg n) c)) x5 x6 x7 x8 x9 x10 x11 x12 x13 (sv (qT (rg n) r)) x15 x16 x17 x18 x19 x20 x21 x22 x23 x24 x25))])])
    (by rw [show slot 4 (EL x0 x1 x2 x3 (sv (cT (rg n) c)) x5 x6 x7 x8 x9 x10 x11 x12 x13 (sv (qT (rg n) r)) x15 x16 x17 x18 x19 x20 x21 x22 x23 x24 x25) = .ok (cT (rg n) c) from rfl, len_tup, List.length_map, List.length_range, range1 n (by omega)]) ⟨x3, x7, x17, x18, x19, x20, x21, x22, rfl, h7⟩ (by
      rintro i ρ hi ⟨y3, y7, y17, y18, y19, y20, y21, y22, rfl, h7⟩
      obtain ⟨z7, z17, z18, z19, z20, z21, z22, e, h7z⟩ := kB_ok K h hp hn hc i hi x0 x1 x2 y3 none x5 x6 y7 x8 x9 x10 x11 x12 x13 none x15 x16 y17 y18 y19 y20 y21 y22 x23 x24 x25 h7
      exact ⟨_, e, iV i, z7, z17, z18, z19, z20, z21, z22, rfl, h7z⟩)
  exact ⟨y3, y7, y17, y18, y19, y20, y21, y22, e, h7'⟩
theorem turn_ok (K : Nat) {ds : List Int} (hl : ds.length = 60) (t : Nat) (ht : t < 6) (x0 x3 x4 x5 x6 x7 x8 x9 x10 x11 x12 x13 x14 x15 x16 x17 x18 x19 x20 x21 x22 x23 x24 x25 : Sl) (h7 : Calm7 x7) : ∃ y3 y4 y5 y6 y7 y8 y9 y10 y11 y12 y13 y14 y15 y16 y17 y18 y19 y20 y21 y22 y23 y24 y25, trB (callN PP MM 60 (K + 4)) (EL x0 (dv ds) (iV t) x3 x4 x5 x6 x7 x8 x9 x10 x11 x12 x13 x14 x15 x16 x17 x18 x19 x20 x21 x22 x23 x24 x25) = .nx (EL x0 (dv ds) (iV t) y3 y4 y5 y6 y7 y8 y9 y10 y11 y12 y13 y14 y15 y16 y17 y18 y19 y20 y21 y22 y23 y24 y25) ∧ Calm7 y7 := by
  obtain ⟨n, hn⟩ : ∃ n : Nat, 1 + dr ds (50 + (t : Nat)) % 8 = (n : Nat) := ⟨(1 + dr ds (50 + (t : Nat)) % 8).toNat, by omega⟩
  have hn8 : 1 ≤ n ∧ n ≤ 8 := by omega
  obtain ⟨c, hc⟩ : ∃ c, c = cD ds t := ⟨_, rfl⟩
  have hcl : ∀ k, k < n → 0 ≤ c k ∧ c k ≤ 100 := fun k _ => by rw [hc]; exact cD_le ds t k
  obtain ⟨W, hW⟩ : ∃ W, W = ((rg n).map c).sum := ⟨_, rfl⟩
  have hW0 : 0 ≤ W := by rw [hW]; exact sum_nonneg c _ fun k hk => (hcl k (List.mem_range.mp hk)).1
  obtain ⟨E, hE⟩ : ∃ E, E = dr ds 54 / (1 + (t : Nat)) % (W + 1) := ⟨_, rfl⟩
  have hE0 : 0 ≤ E := by rw [hE]; exact Int.emod_nonneg _ (by omega)
  have hE1 : E ≤ W := by
    have := Int.emod_lt_of_pos (dr ds 54 / (1 + (t : Nat))) (show 0 < W + 1 by omega)
    rw [← hE] at this; omega
  have g : Good (rg n) c E := ⟨by rw [List.length_range]; exact hn8.1, by rw [List.length_range]; exact hn8.2, fun k hk => hcl k (List.mem_range.mp hk), hE0, by rw [← hW]; exact hE1⟩
  obtain ⟨r1, r2, r3, l2, l3, q1, q2, q3, hp, h2, h3, hT⟩ := told_ok g W hW
  have T := hT K
  rw [trB_eq, t1 _ hl ht hn, then_nx, ← hc, t2 _ hW, then_nx, t3 _ hl ht hW0 hE, then_nx, t4 (n := n) (c := c) K (h7 := h7), then_nx, t5 K T, then_nx, t6 K T, then_nx, t7 K T hn8.2 h2, then_nx]
  obtain ⟨b, y13, e8⟩ := t8 K T hn8.2 h3 (ds := ds) (t := t) x0 x3 x7 x12 x13 x14 x15 x16 x17 x18 x19 x20 x21 x22 x23 x24 x25
  rw [e8, then_nx, t9 K T b, then_nx, t10, then_nx]
  obtain ⟨y3, y15, y16, e11⟩ := t11 K T hn8.2 q1 q2 q3 x0 (dv ds) (iV t) x3 (sv (.int W)) x7 (sv (full n c)) (sv (halves n c)) (sv (qL (rg n) r1)) (sv (qL (rg n) l2)) (some (qL (rg n) r3, b)) y13 x15 x16 x17 x18 x19 x20 x21 x22 x23 x24 x25
  rw [e11, then_nx]
  obtain ⟨z3, z7, z17, z18, z19, z20, z21, z22, e12, h7'⟩ := t12 K q3 hp hn8.2 hcl x0 (dv ds) (iV t) y3 (sv (.int W)) (sv (.int E)) x7 (sv (full n c)) (sv (halves n c)) (sv (qL (rg n) r1)) (sv (qL (rg n) l2)) (some (qL (rg n) r3, b)) y13 y15 y16 x17 x18 x19 x20 x21 x22 x23 x24 x25 h7
  rw [e12, then_nx]
  obtain ⟨y23, e13⟩ := tr13 (n := n) (c := c) K hn8.2 x0 (dv ds) (iV t) z3 (sv (cT (rg n) c)) (sv (.int W)) (sv (.int E)) z7 (sv (full n c)) (sv (halves n c)) (sv (qL (rg n) r1)) (sv (qL (rg n) l2)) (some (qL (rg n) r3, b)) y13 (sv (qT (rg n) r3)) y15 y16 z17 z18 z19 z20 z21 z22 x23 x24 x25
  rw [e13, then_nx]
  rw [show trB_14 (callN PP MM 60 (K + 4)) (EL x0 (dv ds) (iV t) z3 (sv (cT (rg n) c)) (sv (.int W)) (sv (.int E)) z7 (sv (full n c)) (sv (halves n c)) (sv (qL (rg n) r1)) (sv (qL (rg n) l2)) (some (qL (rg n) r3, b)) y13 (sv (qT (rg n) r3)) y15 y16 z17 z18 z19 z20 z21 z22 y23 x24 x25) = _ from tr14 (n := n) (c := c) (W := W) K hn8 hcl hW x0 (dv ds) (iV t) z3 (sv (cT (rg n) c)) (sv (.int W)) (sv (.int E)) z7 (sv (full n c)) (sv (halves n c)) (sv (qL (rg n) r1)) (sv (qL (rg n) l2)) (some (qL (rg n) r3, b)) y13 (sv (qT (rg n) r3)) y15 y16 z17 z18 z19 z20 z21 z22 y23 x24 x25, then_nx]
  exact ⟨_, _, _, _, _, _, _, _, _, _, _, _, _, _, _, _, _, _, _, _, _, _, _, rfl, h7'⟩
end Law34
set_option Elab.async false
set_option linter.all false
set_option maxRecDepth 100000
set_option maxHeartbeats 400000
namespace Law34
open PySem PyV
/-! ### the law (printed by mkAM34.py) -/
theorem draws60 (K : Nat) (hK : 1 ≤ K) (ns : List Int) : ∃ ds : List Int, ds.length = 60 ∧ small16 ds ∧ callN PP MM 60 K "_law_draws" [.scr ns, .int 60] = .ok (.lst (ds.map PV.int)) := by
  obtain ⟨k, rfl⟩ : ∃ k, K = k + 1 := ⟨K - 1, by omega⟩
  obtain ⟨ds, h1, h2, h3⟩ := draws_ok ns 60 (by omega)
  exact ⟨ds, h1, h2, (r__law_draws k _ _).trans h3⟩
theorem k1 : callN PP MM 60 19 (Str.ofString "half_rule") [.int 100, .tup [.int 100, .int 100, .int 100]] = .ok (.tup [.tup [.int 100, .int 3], .tup [.int 100, .int 3], .tup [.int 100, .int 3]]) := by kernel_rfl
theorem k2 : callN PP MM 60 19 (Str.ofString "half_rule") [.int 50, .tup [.int 25, .int 50, .int 75]] = .ok (.tup [.tup [.int 25, .int 2], .tup [.int 75, .int 4], .tup [.int 75, .int 4]]) := by kernel_rfl
theorem k3 : callN PP MM 60 19 (Str.ofString "two_rule") [.int 50, .int 50, .int 25] = .ok (.tup [.tup [.int 75, .int 2], .tup [.int 25, .int 2]]) := by kernel_rfl
theorem k4 : callN PP MM 60 19 (Str.ofString "equal_gains") [.int 50, .tup [.int 25, .int 50, .int 75]] = .ok (.tup [.tup [.int 50, .int 3], .tup [.int 50, .int 3], .tup [.int 50, .int 3]]) := by kernel_rfl
theorem k5 : callN PP MM 60 19 (Str.ofString "equal_losses") [.int 50, .tup [.int 25, .int 50, .int 75]] = .ok (.tup [.tup [.int 0, .int 1], .tup [.int 25, .int 2], .tup [.int 75, .int 2]]) := by kernel_rfl
theorem k6 : callN PP MM 60 19 (Str.ofString "two_rule") [.int 0, .int 0, .int 0] = .ok (.tup [.tup [.int 0, .int 1], .tup [.int 0, .int 1]]) := by kernel_rfl
theorem k7 : callN PP MM 60 19 (Str.ofString "half_rule") [.int 100, .tup [.int 25, .int 50, .int 75]] = .ok (.tup [.tup [.int 25, .int 2], .tup [.int 125, .int 4], .tup [.int 225, .int 4]]) := by kernel_rfl
theorem wc : ∀ v ∈ [PV.non, .int (-1), .int 101, .bl true], callN PP MM 60 19 (Str.ofString "_law_word") [.int 3, .int 0, v] = .ok cWord := by
  intro v hv
  simp only [List.mem_cons, List.not_mem_nil, or_false] at hv
  rcases hv with rfl | rfl | rfl | rfl <;> kernel_rfl
theorem we : ∀ v ∈ [PV.non, .int (-1), .int 9], callN PP MM 60 19 (Str.ofString "_law_word") [.int 3, v, .int 3] = .ok eWord := by
  intro v hv
  simp only [List.mem_cons, List.not_mem_nil, or_false] at hv
  rcases hv with rfl | rfl | rfl <;> kernel_rfl
theorem four (z : PV) : bopE .Mult (lstE [R.ok z]) (R.ok (.int 4)) = .ok (.lst [z, z, z, z]) := by
  rw [show lstE [R.ok z] = .ok (.lst [z]) from rfl, lst_mul _ _ (by omega), show ((4 : Int)) = ((4 : Nat) : Int) from rfl, reps_len]; rfl
theorem s3 (x0 x1 x2 x3 x4 x5 x6 x7 x8 x9 x10 x11 x12 x13 x14 x15 x16 x17 x18 x19 x20 x21 x22 x23 x24 x25 : Sl) : b_lawS_3 (callN PP MM 60 19) (EL x0 x1 x2 x3 x4 x5 x6 x7 x8 x9 x10 x11 x12 x13 x14 x15 x16 x17 x18 x19 x20 x21 x22 x23 x24 x25) = .nx (EL x0 x1 x2 x3 x4 x5 x6 x7 x8 x9 x10 x11 x12 x13 x14 x15 x16 x17 x18 x19 x20 x21 x22 x23 x24 x25) := by
  unfold b_lawS_3
  rw [show itmI (lstE [(R.ok (.non)), (uopE .USub (R.ok (.int 1))), (R.ok (.int 101)), (R.ok (.bl true))]) = .ok [PV.non, .int (-1), .int 101, .bl true] from rfl, show itmI (lstE [(R.ok (.non)), (uopE .USub (R.ok (.int 1))), (R.ok (.int 9))]) = .ok [PV.non, .int (-1), .int 9] from rfl, compE_map (xs := [PV.non, .int (-1), .int 101, .bl true]) (fun _ => cWord) rfl (.inr rfl) (fun v hv => by
    rw [bind1_b]
    generalize eρ : (wipes (EL x0 x1 x2 x3 x4 x5 x6 x7 x8 x9 x10 x11 x12 x13 x14 x15 x16 x17 x18 x19 x20 x21 x22 x23 x24 x25) [24, 23]).set 23 (some (v, false)) = ρ
    rw [show slot 23 ρ = .ok v by rw [← eρ]; rfl, own3]
    exact wc v hv),
    compE_map (xs := [PV.non, .int (-1), .int 9]) (fun _ => eWord) rfl (.inr rfl) (fun v hv => by
    rw [bind1_b]
    generalize eρ : (wipes (EL x0 x1 x2 x3 x4 x5 x6 x7 x8 x9 x10 x11 x12 x13 x14 x15 x16 x17 x18 x19 x20 x21 x22 x23 x24 x25) [24, 23]).set 23 (some (v, false)) = ρ
    rw [show slot 23 ρ = .ok v by rw [← eρ]; rfl, own3]
    exact we v hv), show (PV.str [99, 108, 97, 105, 109, 115]) = cWord from rfl, show (PV.str [101, 115, 116, 97, 116, 101]) = eWord from rfl, four, three]
  show ifS _ (orT (cmpT .NotEq (R.ok (.lst [cWord, cWord, cWord, cWord])) (R.ok (.lst [cWord, cWord, cWord, cWord]))) (cmpT .NotEq (R.ok (.lst [eWord, eWord, eWord])) (R.ok (.lst [eWord, eWord, eWord])))) _ _ = _
  rw [ne_self _ rfl (by show 1 ≤ 64; omega), ne_self _ rfl (by show 1 ≤ 64; omega), oT_f, iS_f]
theorem answer' (ns : List Int) : callN PP MM 60 20 "law" [.scr ns] = .ok (.bl true) := by
  rw [r_law, b_law_split, b_lawS_eq]
  obtain ⟨ds, hl, hd, e1⟩ := draws60 19 (by omega) ns
  have h1 : b_lawS_1 (callN PP MM 60 19) (EL (some (.scr ns, false)) none none none none none none none none none none none none none none none none none none none none none none none none none) = .nx (EL (some (.scr ns, false)) (dv ds) none none none none none none none none none none none none none none none none none none none none none none none none) := by
    unfold b_lawS_1
    rw [slot0, own2, show callN PP MM 60 19 (Str.ofString "_law_draws") [.scr ns, .int 60] = _ from e1, setS_lst]
    rfl
  have h2 : ∃ x2 x3 x4 x5 x6 x7 x8 x9 x10 x11 x12 x13 x14 x15 x16 x17 x18 x19 x20 x21 x22 x23 x24 x25, b_lawS_2 (callN PP MM 60 19) (EL (some (.scr ns, false)) (dv ds) none none none none none none none none none none none none none none none none none none none none none none none none) = .nx (EL (some (.scr ns, false)) (dv ds) x2 x3 x4 x5 x6 x7 x8 x9 x10 x11 x12 x13 x14 x15 x16 x17 x18 x19 x20 x21 x22 x23 x24 x25) := by
    unfold b_lawS_2
    obtain ⟨ρ', e, x2, x3, x4, x5, x6, x7, x8, x9, x10, x11, x12, x13, x14, x15, x16, x17, x18, x19, x20, x21, x22, x23, x24, x25, rfl, _⟩ := forR_inv (fun i ρ => ∃ x2 x3 x4 x5 x6 x7 x8 x9 x10 x11 x12 x13 x14 x15 x16 x17 x18 x19 x20 x21 x22 x23 x24 x25, ρ = EL (some (.scr ns, false)) (dv ds) x2 x3 x4 x5 x6 x7 x8 x9 x10 x11 x12 x13 x14 x15 x16 x17 x18 x19 x20 x21 x22 x23 x24 x25 ∧ Calm7 x7) 2 (trB (callN PP MM 60 19)) 6
      (EL (some (.scr ns, false)) (dv ds) none none none none none none none none none none none none none none none none none none none none none none none none) (rngI [R.ok (.int 6)]) (range1 6 (by omega)) ⟨_, _, _, _, _, _, _, _, _, _, _, _, _, _, _, _, _, _, _, _, _, _, _, _, rfl, .inl rfl⟩ (fun i ρ hi hv => by
      obtain ⟨x2, x3, x4, x5, x6, x7, x8, x9, x10, x11, x12, x13, x14, x15, x16, x17, x18, x19, x20, x21, x22, x23, x24, x25, rfl, h7⟩ := hv
      obtain ⟨y3, y4, y5, y6, y7, y8, y9, y10, y11, y12, y13, y14, y15, y16, y17, y18, y19, y20, y21, y22, y23, y24, y25, e, h7'⟩ := turn_ok 15 hl i hi (some (.scr ns, false)) x3 x4 x5 x6 x7 x8 x9 x10 x11 x12 x13 x14 x15 x16 x17 x18 x19 x20 x21 x22 x23 x24 x25 h7
      exact ⟨_, e, _, _, _, _, _, _, _, _, _, _, _, _, _, _, _, _, _, _, _, _, _, _, _, _, rfl, h7'⟩)
    exact ⟨x2, x3, x4, x5, x6, x7, x8, x9, x10, x11, x12, x13, x14, x15, x16, x17, x18, x19, x20, x21, x22, x23, x24, x25, e⟩
  obtain ⟨x2, x3, x4, x5, x6, x7, x8, x9, x10, x11, x12, x13, x14, x15, x16, x17, x18, x19, x20, x21, x22, x23, x24, x25, h2⟩ := h2
  have h4 : b_lawS_4 (callN PP MM 60 19) (EL (some (.scr ns, false)) (dv ds) x2 x3 x4 x5 x6 x7 x8 x9 x10 x11 x12 x13 x14 x15 x16 x17 x18 x19 x20 x21 x22 x23 x24 x25) = .nx (EL (some (.scr ns, false)) (dv ds) x2 x3 x4 x5 x6 x7 x8 x9 x10 x11 x12 x13 x14 x15 x16 x17 x18 x19 x20 x21 x22 x23 x24 x25) := by
    unfold b_lawS_4
    rw [show bopE .Add (slE (tupE [(R.ok (.int 100)), (R.ok (.int 200)), (R.ok (.int 300))]) optN (optS (R.ok (.int 1)))) (tupE [(R.ok (.int 100)), (R.ok (.int 100))]) = .ok (.tup [.int 100, .int 100, .int 100]) by kernel_rfl,
      show tupE [R.ok (PV.int 25), R.ok (.int 50), R.ok (.int 75)] = .ok (.tup [.int 25, .int 50, .int 75]) from rfl, own2, own2, own3, k1, k2, k3]
    kernel_rfl
  have h5 : b_lawS_5 (callN PP MM 60 19) (EL (some (.scr ns, false)) (dv ds) x2 x3 x4 x5 x6 x7 x8 x9 x10 x11 x12 x13 x14 x15 x16 x17 x18 x19 x20 x21 x22 x23 x24 x25) = .nx (EL (some (.scr ns, false)) (dv ds) x2 x3 x4 x5 x6 x7 x8 x9 x10 x11 x12 x13 x14 x15 x16 x17 x18 x19 x20 x21 x22 x23 x24 x25) := by
    unfold b_lawS_5
    rw [show tupE [R.ok (PV.int 25), R.ok (.int 50), R.ok (.int 75)] = .ok (.tup [.int 25, .int 50, .int 75]) from rfl, own2, own2, k4, k5]
    kernel_rfl
  have h6 : b_lawS_6 (callN PP MM 60 19) (EL (some (.scr ns, false)) (dv ds) x2 x3 x4 x5 x6 x7 x8 x9 x10 x11 x12 x13 x14 x15 x16 x17 x18 x19 x20 x21 x22 x23 x24 x25) = .ret (.bl true) false := by
    unfold b_lawS_6
    rw [show tupE [R.ok (PV.int 25), R.ok (.int 50), R.ok (.int 75)] = .ok (.tup [.int 25, .int 50, .int 75]) from rfl, own2, own3, k6, k7]
    kernel_rfl
  have s3' := s3 (some (.scr ns, false)) (dv ds) x2 x3 x4 x5 x6 x7 x8 x9 x10 x11 x12 x13 x14 x15 x16 x17 x18 x19 x20 x21 x22 x23 x24 x25
  have hh : SR.then (b_lawS_1 (callN PP MM 60 19) (EL (some (.scr ns, false)) none none none none none none none none none none none none none none none none none none none none none none none none none)) (fun ρ => SR.then (b_lawS_2 (callN PP MM 60 19) ρ) fun ρ => SR.then (b_lawS_3 (callN PP MM 60 19) ρ) fun ρ => SR.then (b_lawS_4 (callN PP MM 60 19) ρ) fun ρ => SR.then (b_lawS_5 (callN PP MM 60 19) ρ) fun ρ => SR.then (b_lawS_6 (callN PP MM 60 19) ρ) fun ρ => SR.nx ρ) = .ret (.bl true) false := by
    rw [h1, then_nx, h2, then_nx, s3', then_nx, h4, then_nx, h5, then_nx, h6, then_ret]
  refine (congrArg (finS false) hh).trans ?_
  rw [finS_ret]
end Law34
namespace Law34
open PySem PySem.Spec PyProof.Rows PyV
theorem answer : ∀ ns : List Int, ns.length ≤ 63 → callN PP 100 60 20 "law" [.scr ns] = .ok (.bl true) := fun ns _ => answer' ns
end Law34
open PySem PySem.W PySem.Calls PyProof.Rows in
theorem PySem.Challenge.cw_chestwright_k34_whole_claims_holds : PySem.Challenge.rw_chestwright_k34_whole_claims.Holds := by
  w_on; o_law
  refine HandSHeadRun.head_any (r := OpenLaw.row Law34.LL) (q := view (OpenLaw.row Law34.LL).prog [25]) (H := Law34.hk) (ob := Law34.ob) (M := 20000) (loose := Law34.NN) (d := HandSHeadRun.topDef (OpenLaw.row Law34.LL).prog 25) (kwd := []) Law34.ob_eq
    (by kernel_rfl) (fun s => by kernel_rfl) Law34.run (by kernel_rfl) (by kernel_rfl) (by kernel_rfl) (by rfl) (by first | assumption | decide +kernel) (by decide +kernel) ⟨rfl, rfl, rfl, rfl, rfl, by decide +kernel⟩ ?hw ?hc
  case hw => w_witness2
  case hc =>
    exact PyV.walk_pure (l := Law34.LL) (x := "script") (P := Law34.PP) (M := 100) (D := 60) (j := 19) (m := 5) (fr := []) (body := Law34.body) rfl (by kernel_rfl) ⟨rfl, by decide, by decide⟩ (by rfl) (by rfl) rfl Law34.args Law34.wf Law34.answer
