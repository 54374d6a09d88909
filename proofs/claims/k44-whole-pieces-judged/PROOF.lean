import PyProof.Rows.All
import Wide.All
import OpenK.AllK
import Wide.FinOn
import HandS.ForMost
import HandS.Sort
import HandS.Evl
import HandS.Star
import HandS.Slots
import HandS.SlotsOwn
import HandS.TupSets
import HandS.DictComp
import HandS.TupAny
import HandS.TupLen
import HandS.Conv
import HandS.Zip
import HandS.WideBits
import HandS.IsInst
import HandS.DictTup
import KE.KDictWalk
import KE.KDictCopyH
import PyProof.TupleOfSeq
import HandS.Strs
import PySem.Challenge.RW_crestjoin_k44_whole_pieces_judged
set_option Elab.async false
set_option linter.all false
set_option maxRecDepth 100000
set_option maxHeartbeats 4000000
/-! Plain laws: rows of whole numbers, their order, their sorting. -/
namespace M44
open HT
abbrev Rw := List Int
theorem lx_irr : ∀ a : Rw, lexLt a a = false
  | [] => rfl
  | x :: r => by rw [lexLt_cons, if_pos rfl, lx_irr r]
theorem lx_asym : ∀ a b : Rw, lexLt a b = true → lexLt b a = false
  | [], [], h => by cases h
  | [], _ :: _, _ => rfl
  | _ :: _, [], h => by cases h
  | x :: r, y :: q, h => by
    rw [lexLt_cons] at h ⊢
    by_cases e : x = y
    · subst e
      rw [if_pos rfl] at h ⊢
      exact lx_asym r q h
    · rw [if_neg e] at h
      rw [if_neg (Ne.symm e)]
      have := of_decide_eq_true h
      exact decide_eq_false (by omega)
theorem lx_tri : ∀ a b : Rw, lexLt a b = false → lexLt b a = false → a = b
  | [], [], _, _ => rfl
  | [], _ :: _, h, _ => by cases h
  | _ :: _, [], _, h => by cases h
  | x :: r, y :: q, h, k => by
    rw [lexLt_cons] at h k
    by_cases e : x = y
    · subst e
      rw [if_pos rfl] at h k
      rw [lx_tri r q h k]
    · rw [if_neg e] at h
      rw [if_neg (Ne.symm e)] at k
      have h1 := of_decide_eq_false h
      have h2 := of_decide_eq_false k
      omega
theorem lx_trans : ∀ a b c : Rw, lexLt b a = false → lexLt c b = false → lexLt c a = false
  | [], b, c, _, _ => by cases c <;> rfl
  | _ :: _, [], _, h, _ => by cases h
  | _ :: _, _ :: _, [], _, k => by cases k
  | x :: r, y :: q, z :: t, h, k => by
    rw [lexLt_cons] at h k ⊢
    by_cases e : y = x
    · subst e
      rw [if_pos rfl] at h
      by_cases e2 : z = y
      · subst e2
        rw [if_pos rfl] at k ⊢
        exact lx_trans r q t h k
      · rw [if_neg e2] at k ⊢
        exact k
    · rw [if_neg e] at h
      have h1 := of_decide_eq_false h
      by_cases e2 : z = y
      · subst e2
        rw [if_neg e]
        exact h
      · rw [if_neg e2] at k
        have h2 := of_decide_eq_false k
        rw [if_neg (by omega)]
        exact decide_eq_false (by omega)
/-- in order: a stands no later than b -/
abbrev Le (a b : Rw) : Prop := lexLt b a = false
theorem le_of_lt {a b : Rw} (h : lexLt a b = true) : Le a b := lx_asym a b h
def rins (x : Rw) : List Rw → List Rw
  | [] => [x]
  | y :: ys => if lexLt y x = true then y :: rins x ys else x :: y :: ys
def srt : List Rw → List Rw
  | [] => []
  | x :: xs => rins x (srt xs)
theorem rins_perm (x : Rw) : ∀ l : List Rw, (rins x l).Perm (x :: l)
  | [] => .refl _
  | y :: ys => by
    unfold rins
    split
    · exact (List.Perm.cons y (rins_perm x ys)).trans (.swap x y ys)
    · exact .refl _
theorem srt_perm : ∀ l : List Rw, (srt l).Perm l
  | [] => .refl _
  | x :: xs => (rins_perm x (srt xs)).trans (.cons x (srt_perm xs))
theorem rins_sorted (x : Rw) : ∀ l : List Rw, l.Pairwise Le → (rins x l).Pairwise Le
  | [], _ => List.pairwise_singleton _ _
  | y :: ys, h => by
    have h0 := List.pairwise_cons.mp h
    unfold rins
    split
    · rename_i c
      refine List.pairwise_cons.mpr ⟨fun z hz => ?_, rins_sorted x ys h0.2⟩
      rcases List.mem_cons.mp ((rins_perm x ys).mem_iff.mp hz) with e | e
      · rw [e]
        exact le_of_lt c
      · exact h0.1 z e
    · rename_i c
      have c' : Le x y := by simpa using c
      refine List.pairwise_cons.mpr ⟨fun z hz => ?_, h⟩
      rcases List.mem_cons.mp hz with e | e
      · rw [e]
        exact c'
      · exact lx_trans x y z c' (h0.1 z e)
theorem srt_sorted : ∀ l : List Rw, (srt l).Pairwise Le
  | [] => .nil
  | x :: xs => rins_sorted x _ (srt_sorted xs)
theorem sorted_one : ∀ {l q : List Rw}, l.Pairwise Le → q.Pairwise Le → l.Perm q → l = q
  | [], q, _, _, p => (List.Perm.nil_eq p)
  | x :: l, [], _, _, p => absurd p.length_eq (by simp)
  | x :: l, y :: q, h, k, p => by
    have h0 := List.pairwise_cons.mp h
    have k0 := List.pairwise_cons.mp k
    have e : x = y := by
      rcases List.mem_cons.mp (p.mem_iff.mp List.mem_cons_self) with e | e
      · exact e
      · rcases List.mem_cons.mp (p.mem_iff.mpr List.mem_cons_self) with e2 | e2
        · exact e2.symm
        · exact lx_tri x y (k0.1 x e) (h0.1 y e2)
    subst e
    rw [sorted_one h0.2 k0.2 (List.Perm.cons_inv p)]
theorem srt_of {l q : List Rw} (h : q.Pairwise Le) (p : q.Perm l) : q = srt l := sorted_one h (srt_sorted l) (p.trans (srt_perm l).symm)
theorem srt_len (l : List Rw) : (srt l).length = l.length := (srt_perm l).length_eq
/-- a row of d numbers of at most nine digits -/
def RowOk (d : Nat) (r : Rw) : Prop := r.length = d ∧ ∀ m ∈ r, -1000000000 < m ∧ m < 1000000000
/-- its rank among rows of its length -/
def rk (r : Rw) : Int := TS.code 2000000000 (r.map (· + 1000000000))
theorem bd_of {d : Nat} {r : Rw} (h : RowOk d r) : TS.Bd 2000000000 (r.map (· + 1000000000)) := by
  intro m hm
  obtain ⟨x, hx, e⟩ := List.mem_map.mp hm
  have := h.2 x hx
  have e : x + 1000000000 = m := e
  omega
theorem rk_lt : ∀ {d : Nat} {a b : Rw}, RowOk d a → RowOk d b → decide (rk a < rk b) = lexLt a b
  | _, [], [], _, _ => by
    show decide (TS.code 2000000000 [] < TS.code 2000000000 []) = false
    exact decide_eq_false (Int.lt_irrefl _)
  | _, [], _ :: _, h, k => absurd (h.1.trans k.1.symm) (by simp)
  | _, _ :: _, [], h, k => absurd (h.1.trans k.1.symm) (by simp)
  | d, x :: a, y :: b, h, k => by
    have hl : a.length = b.length := by
      have e := h.1.trans k.1.symm
      simpa using e
    have ha : RowOk a.length a := ⟨rfl, fun m hm => h.2 m (List.mem_cons_of_mem _ hm)⟩
    have hb : RowOk a.length b := ⟨hl.symm, fun m hm => k.2 m (List.mem_cons_of_mem _ hm)⟩
    have hl2 : (a.map (· + 1000000000)).length = (b.map (· + 1000000000)).length := by rw [List.length_map, List.length_map, hl]
    rw [lexLt_cons]
    by_cases e : x = y
    · subst e
      rw [if_pos rfl, ← rk_lt ha hb]
      exact decide_eq_decide.mpr (TS.code_same (d := x + 1000000000) hl2)
    · rw [if_neg e]
      refine decide_eq_decide.mpr ⟨fun z => ?_, fun z => TS.code_lt (d := x + 1000000000) (e := y + 1000000000) hl2 (bd_of ha) (bd_of hb) (by omega)⟩
      rcases Int.lt_trichotomy x y with q | q | q
      · exact q
      · exact absurd q e
      · have := TS.code_lt (B := 2000000000) (d := y + 1000000000) (e := x + 1000000000) hl2.symm (bd_of hb) (bd_of ha) (by omega)
        have z' : TS.code 2000000000 ((x + 1000000000) :: a.map (· + 1000000000)) < TS.code 2000000000 ((y + 1000000000) :: b.map (· + 1000000000)) := z
        omega
theorem le_of_rk {d : Nat} {a b : Rw} (h : RowOk d a) (k : RowOk d b) (z : rk a ≤ rk b) : Le a b := by
  show lexLt b a = false
  rw [← rk_lt k h]
  exact decide_eq_false (by omega)
end M44
/-! Rules of our own over the hand layer. -/
namespace Q44
open PySem PySem.Spec PyProof.Rows L2

section
variable {X : Cx} {e o : Expr} {es : List Expr} {t : TA} {te ta : TE} {x : Str} {p pos : Pos} {f : Addr} {k : Nat} {sp : Sp} {E : XK}
/-- a def of the module called by its positional promise -/
def tDef (sp : Sp) (E : XK) (t : TA) : TE := fun σ H Q => t σ H fun vs H1 => sp vs H1 Q E
theorem pe_def (F : FnR X.prog X.w X.K X.mg X.base CX0 k f sp) (hr : Room k X.A) (hm : X.mg x = some (.ref f)) (hk : PySem.W.keepIn X.K (.ref f) = true) (ha : PA X (e :: es) t) (hg : Gl X x := by rfl)
    (hd : (x == ("__debug__" : Str)) = false := by decide) (he : starEach (e :: es) X.env = (false, eval e X.env) :: starEach es X.env := by rfl)
    (hpl : (backTo pos (starEach es X.env)).any (·.1) = false := by rfl) : PE X (.Call (.Name x p) (e :: es) [] pos) (tDef sp E0 t) := by
  refine ⟨fun pins s σ H Q I h => wpAny_Call_Name_kw (ld_glob I hg hm ?_ hd) ⟩
  refine PySem.W.callWith_K (h₀ := X.base) I.ok.mod.kin hk ?_ he hpl
  exact thn (ha.run pos pins s σ H _ I h) fun us s1 z => by
    obtain ⟨vs, H1, I1, r, q⟩ := z
    exact ⟨I1.kIn, wpAny_call (run_fnR F hr pass0 I1 r q)⟩

/-- a power of a great number -/
def CPowW (i j : Int) : Prop := 0 ≤ j ∧ (Builtin.Int.intBits i : Int) * j ≤ 2 ^ 27
theorem op_powW : OpR X (binaryOp .Pow) (rI CPowW fun i j => .int (i ^ j.toNat)) := opI fun _ _ _ _ _ _ _ c q => pow_int c.1 c.2 q

/-- o.f = .., f a slot -/
def gSl (K : PySem.W.Frag) (ta : TE) (f : Str) : TG := fun y σ H Q => ta σ H fun x H2 => ∃ a C dx q vs i, x = .ref a ∧ SlX.Slt H2 a C dx vs ∧ SlX.SCls K C ∧ SlX.Slot1 K C f q i ∧ Q σ (SlX.slH H2 a C dx (SlX.putS i y vs))
theorem pg_sl {f : Str} (ha : PE X o ta) : PG X (.Attribute o f pos) (gSl X.K ta f) := by
  refine ⟨fun pins s σ H v u Q I r h => PySem.W.kas_attr (thn (ha.run pins s σ H _ I h) fun ov s2 z => ?_)⟩
  obtain ⟨x, H2, I2, rx, a, C, dx, q, vs, i, ex, hsl, c, tt, k⟩ := z
  subst ex
  cases rx
  exact SlX.setslot_ok I2 hsl c tt r fun s3 I3 => ⟨σ, _, I3, k⟩

/-- t[::-1] of a tuple -/
def tRevT (K : PySem.W.Frag) (te : TE) : TE := fun σ H Q => te σ H fun x H1 => ∃ a xs, x = .ref a ∧ SqT K H1 a xs ∧ ∀ p, H1 p = none → Q (.ref p) (upd H1 p (.tup xs.reverse))
end
end Q44
namespace Q44
open PySem PySem.Spec PyProof.Rows L2
theorem adjust_back (n : Nat) : Builtin.Slice.sliceAdjust none none (-1) (n : Int) = ((n : Int) - 1, -1) := by
  unfold Builtin.Slice.sliceAdjust
  simp
theorem places_back (n : Nat) : Builtin.Slice.slicePlaces ((n : Int) - 1) (-1) (-1) = n := by
  unfold Builtin.Slice.slicePlaces
  simp
  omega
theorem back_pick (xs : Array Value) : ((List.range xs.size).filterMap fun (m : Nat) => xs[(((xs.size : Int) - 1) + (m : Int) * (-1)).toNat]?) = xs.toList.reverse := by
  apply List.ext_getElem?
  intro j
  have e : ∀ n, n ≤ xs.size → (List.range n).filterMap (fun (m : Nat) => xs[(((xs.size : Int) - 1) + (m : Int) * (-1)).toNat]?) = (xs.toList.reverse).take n := by
    intro n
    induction n with
    | zero => intro _; rfl
    | succ n ih =>
      intro hn
      have z : (((xs.size : Int) - 1) + (n : Int) * (-1)).toNat = xs.size - 1 - n := by omega
      have z2 : xs.size - 1 - n < xs.size := by omega
      rw [List.range_succ, List.filterMap_append, ih (Nat.le_of_succ_le hn), List.filterMap_cons]
      simp only [z, Array.getElem?_eq_getElem z2, List.filterMap_nil]
      rw [List.take_add_one, List.getElem?_reverse (by rw [Array.length_toList]; omega), Array.length_toList, Array.getElem?_toList, Array.getElem?_eq_getElem z2]
      rfl
  rw [e xs.size (Nat.le_refl _), List.take_of_length_le (by rw [List.length_reverse, Array.length_toList]; omega)]
section
variable {prog : Program} {w : World} {A : Around} {E : Value → Shared → Prop} {s : Shared}
theorem item_back {t sl : Addr} {items : Array Value} {u : Tok} {Q : Value → Shared → Prop} (ht : IsTup s.heap t items) (hs : s.heap.IsSliceOf sl .none .none (.int (-1) u)) (hz : items.size ≤ sizeLine)
    (h : Q (.ref s.heap.objs.size) { s with heap := s.heap.push { cls := .type "tuple", data := .seq items.toList.reverse.toArray } }) : wpAny (model prog w) A (getItem (.ref t) (.ref sl)) Q E s := by
  obtain ⟨os, hos, hcs, hds⟩ := id hs
  have hTs : s.TypeIs (.ref sl) "slice" := ⟨os, hos, hcs⟩
  unfold getItem
  try with_reducible refine wpAny_holding ?_
  first
  | refine wpAny_bind (wpAny_pure ?_)
  | skip
  refine wpAny_bind (wpAny_sequenceKey ht.typeIs (by decide) ?_)
  refine wpAny_bind ?_
  refine wpAny_callSpecial?_slot (name := Str.ofString "__getitem__") ht.typeIs PyProof.Rows.slot_tuple_getitem ?_
  refine wpAny_call_entry PyProof.Rows.slot_tuple_getitem ht.typeIs entry_tuple_getitem ?_ (args_tuple_getitem _ _)
  show wpAny _ _ (Builtin.Tuple.tupleItemsOf (.ref t) >>= _) _ _ s
  refine wpAny_bind (tupleItemsOf_ ht (wpAny_bind (wpAny_typeOf hTs ?_)))
  rw [if_pos (by decide)]
  have ap : ∀ {R : Int × Int × Nat → Shared → Prop} {E' : Value → Shared → Prop} {A' : Around}, R ((items.size : Int) - 1, -1, items.size) s → wpAny (model prog w) A' (Builtin.Slice.sliceApplied (.ref sl) (pure (items.size : Int))) R E' s := by
    intro R E' A' r
    unfold Builtin.Slice.sliceApplied Builtin.Slice.sliceFields
    refine wpAny_bind (wpAny_bind (wpAny_field hos hds (x := Value.none) rfl ?_))
    refine wpAny_bind (wpAny_field hos hds (x := Value.none) rfl ?_)
    refine wpAny_bind (wpAny_field hos hds (x := Value.int (-1) u) rfl (wpAny_pure ?_))
    refine wpAny_bind (HT.slicePart_ (.int (-1) u) ?_)
    show wpAny _ _ (if ((-1 : Int) == 0) = true then _ else _) _ _ s
    rw [if_neg (by decide)]
    refine wpAny_bind (HT.slicePart_ .none (wpAny_bind (HT.slicePart_ .none (wpAny_bind (wpAny_pure ?_)))))
    show wpAny _ _ (match Builtin.Slice.sliceAdjust none none (-1) (items.size : Int) with | (lo, hi) => pure (lo, (-1 : Int), Builtin.Slice.slicePlaces lo hi (-1))) _ _ s
    rw [adjust_back]
    show wpAny _ _ (pure ((items.size : Int) - 1, (-1 : Int), Builtin.Slice.slicePlaces ((items.size : Int) - 1) (-1) (-1))) _ _ s
    rw [places_back]
    exact wpAny_pure r
  refine wpAny_bind (ap ?_)
  have hno : ¬ (((items.size : Int) - 1 == 0 && (-1 : Int) == 1 && items.size == items.size) = true) := by simp
  show wpAny _ _ (if ((items.size : Int) - 1 == 0 && (-1 : Int) == 1 && items.size == items.size) = true then _ else _) _ _ s
  rw [if_neg hno, back_pick]
  have fit : sizeOk (.seq items.toList.reverse.toArray) := by
    show items.toList.reverse.toArray.size ≤ sizeLine
    rw [List.size_toArray, List.length_reverse, Array.length_toList]
    exact hz
  first
  | exact wpAny_bind (m := Builtin.Tuple.tupleExact _) (wpAny_newObj_type (wpAny_pure ⟨_, rfl, wpAny_pure h⟩) fit)
  | exact wpAny_bind (m := Builtin.Tuple.tupleExact _) (wpAny_newObj_type (wpAny_bind (wpAny_pure (wpAny_pure ⟨_, rfl, wpAny_pure h⟩))) fit)
  | exact wpAny_bind (wpAny_bind (m := Builtin.Tuple.tupleExact _) (wpAny_newObj_type (wpAny_pure (wpAny_pure ⟨_, rfl, wpAny_pure h⟩)) fit))
  | exact wpAny_bind (wpAny_bind (m := Builtin.Tuple.tupleExact _) (wpAny_newObj_type (wpAny_pure ⟨_, rfl, wpAny_pure h⟩) fit))
end
section
variable {X : Cx}
theorem pe_revT {e : Expr} {te : TE} {k : Nat} {p1 p2 p3 pos : Pos} (he : PE X e te) : PE X (.Subscript e (.Slice none none (some (.UnaryOp .USub (.Constant (.int 1) k p1) p2)) p3) pos) (tRevT X.K te) := by
  refine ⟨fun pins s σ H Q I h => Subscript_ (thn (he.run pins s σ H _ I h) fun v s1 z => ?_)⟩
  obtain ⟨x, H1, I1, r1, a, xs, ex, hx, q⟩ := z
  subst ex
  cases r1
  have st : PO X (some (.UnaryOp .USub (.Constant (.int 1) k p1) p2)) (tPart (tUn (rU fun i => .int (-i)) (tC (.int 1)))) := po_some (pe_un un_neg pe_int)
  refine wpAny_Slice (thn (po_none.run pins s1 σ H1 (fun o H2 => o = none ∧ H2 = H1) I1 ⟨rfl, rfl⟩) fun vl s2 z => ?_)
  obtain ⟨l, H2, I2, pl, el, e2⟩ := z
  subst el e2
  refine thn (po_none.run pins s2 σ H2 (fun o H3 => o = none ∧ H3 = H2) I2 ⟨rfl, rfl⟩) fun vu s3 z => ?_
  obtain ⟨u, H3, I3, pu, eu, e3⟩ := z
  subst eu e3
  refine thn (st.run pins s3 σ H3 (fun o H4 => o = some (-1) ∧ H4 = H3) I3 ⟨1, rfl, -1, rfl, rfl, rfl⟩) fun vs s4 z => ?_
  obtain ⟨o, H4, I4, ps, eo, e4⟩ := z
  subst eo e4
  have I5 : Inv X pins σ H4 { s4 with heap := s4.heap.push { cls := .type "slice", data := .fields #[vl, vu, vs] } } := I4.kept (t' := s4.toks) fun b ob q => Heap.get?_push_of_some _ q
  obtain ⟨its, r, ht, hz⟩ := I5.tuple hx
  have hlen := r.length
  cases pl
  cases pu
  cases ps with
  | int _ tk =>
    show wpAny (model X.prog X.w) X.A (subscriptTail e _ (.ref a) (.ref s4.heap.objs.size)) (EP X pins σ Q) X.xe _
    refine tail_any (ops := [.ref a, .ref s4.heap.objs.size]) ht.typeIs (PyProof.Rows.slot_tuple_getitem.lookup) ?_ (by with_unfolding_all rfl)
    refine item_back ht (Heap.IsSliceOf.new _ _ _ _) (by rw [List.size_toArray]; omega) ?_
    refine ⟨.ref _, _, I5.laid (t' := s4.toks) (o := .tup xs.reverse) (fun b ob q => Heap.get?_push_of_some _ q) (Nat.le_refl _) ?_, rfl, q _ (I5.hok.fresh (Nat.le_refl _))⟩
    exact ⟨by rw [List.length_reverse]; exact hz, its.reverse, r.reverse, IsTup.new _ _⟩
end
end Q44
namespace Q44
open PySem PySem.Spec PyProof.Rows L2
section
variable {prog : Program} {w : World} {A : Around} {E : Value → Shared → Prop} {s : Shared} {T : String} {r d : Addr} {n : Nat} {P : Nat → Value → Prop} {OK : Heap → Prop}
/-- all that a source yields, drawn into a list of the machine's -/
theorem collect_src {Q : List Value → Shared → Prop} (K : PySem.W.KdlSrc prog w T r d n P OK) (hh : A.handled = none) (hok : OK s.heap) (hn : n ≤ sizeLine)
    (hQ : ∀ (h' : Heap) (tk : Nat) (acc : Array Value), (∀ b o, s.heap.get? b = some o → h'.get? b = some o) → ItemsOf P acc n → Q acc.toList { s with heap := h', toks := tk }) :
    wpAny (model prog w) A (collect (.ref r)) Q E s := by
  unfold collect
  refine wpAny_bind (wpAny_runValue (codeAny_builtin F.entry_proto_collect ?_))
  rw [Around.under_plainId F.plain_proto_collect _]
  show wpAny _ A.in1 (newList [] >>= fun l => again (.builtin "list.__iadd__" ⟨[l, .ref r], []⟩)) _ _ s
  refine wpAny_bind (wpAny_newObj_type (wpAny_pure ⟨plainId_quiet F.plain_list_iadd _, ?_⟩))
  refine codeAny_builtin F.entry_list_iadd ?_
  rw [Around.under_plainId F.plain_list_iadd _]
  have big := K.there _ hok
  have hS : (s.heap.push { cls := .type "list", data := .seq ([] : List Value).toArray }).get? s.heap.objs.size = some { cls := .type "list", data := .seq #[] 0 } := Heap.get?_push_size _ rfl
  have old : ∀ b o, s.heap.get? b = some o → (s.heap.push { cls := .type "list", data := .seq ([] : List Value).toArray }).get? b = some o := fun b o e => Heap.get?_push_of_some _ e
  show wpAny _ A.in1 (Builtin.List.listExtendWith (.ref s.heap.objs.size) (.ref r) (.ref s.heap.objs.size)) _ _ _
  refine wpAny_mono (PySem.W.kdl_extend (A := A) (s := { s with heap := s.heap.push { cls := .type "list", data := .seq ([] : List Value).toArray } })
    (R := fun rr s' => rr = .ok (.ret (.ref s.heap.objs.size)) ∧ ∃ (h' : Heap) (tk : Nat) (acc : Array Value) (c' : Nat), s' = { s with heap := h', toks := tk } ∧ (∀ b o, s.heap.get? b = some o → h'.get? b = some o) ∧
      h'.get? s.heap.objs.size = some { cls := .type "list", dict := none, data := .seq acc c', slots := #[] } ∧ ItemsOf P acc n)
    K hh (K.keep _ _ hok fun b _ o e => old b o e) s.heap.objs.size (Nat.ne_of_gt big.1) (Nat.ne_of_gt big.2) _ 0 hS ?_ hn) (fun fin s' h => ?_) (fun e s' h => absurd h.1 (by simp))
  · intro h' tk acc c' hk e it
    exact ⟨rfl, h', tk, acc, c', rfl, fun b o q => hk b o (Nat.ne_of_lt (Heap.lt_size q)) (old b o q), e, it⟩
  · cases fin with
    | done f =>
      obtain ⟨e, h', tk, acc, c', rfl, hk, hS', hi⟩ := h
      cases e
      show wpAny _ A (load s.heap.objs.size >>= _) _ _ _
      exact wpAny_bind (wpAny_load hS' (wpAny_pure (hQ h' tk acc hk hi)))
    | again c' =>
      refine ⟨h.1, codeAny_mono h.2 fun rr s'' hr' => ?_⟩
      obtain ⟨rfl, h', tk, acc, c', rfl, hk, hS', hi⟩ := hr'
      show wpAny _ A (load s.heap.objs.size >>= _) _ _ _
      exact wpAny_bind (wpAny_load hS' (wpAny_pure (hQ h' tk acc hk hi)))
/-- tuple(x) of such a source -/
theorem tuple_src {Q : Value → Shared → Prop} (K : PySem.W.KdlSrc prog w "dict" r d n P OK) (hh : A.handled = none) (hok : OK s.heap) (hn : n ≤ sizeLine)
    (hQ : ∀ (h' : Heap) (tk : Nat) (acc : Array Value), (∀ b o, s.heap.get? b = some o → h'.get? b = some o) → ItemsOf P acc n →
      Q (.ref h'.objs.size) { s with heap := h'.push { cls := .type "tuple", data := .seq acc }, toks := tk }) :
    wpAny (model prog w) A (call (.type "tuple") [.ref r]) Q E s := by
  refine callType_codes (Q₁ := fun obj s₁ => s₁.TypeIs obj "tuple" ∧ Q obj s₁) F.called_tuple (F.typeCall_tuple_1 _) F.entry_object_init ?_ fun obj s₁ h₁ =>
    ⟨h₁.1, F.args_object_init_2 obj _, object_init_meets F.called_tuple.init.lookup F.called_tuple.made (by decide) prog w A.in1 _ s₁ ⟨h₁.1, rfl, h₁.2⟩⟩
  refine codeAny_of_tree ?_
  show wpAny _ A.in1.in1 (do checkBuiltinCall "tuple.__new__" ⟨[.type "tuple", .ref r], []⟩; again (.builtin "tuple.__new__" ⟨[.type "tuple", .ref r], []⟩)) _ _ s
  refine wpAny_bind (wpAny_of_eq (F.newCall_tuple_1 _) (wpAny_pure ⟨plainId_quiet F.plain_tuple_new _, codeAny_builtin F.entry_tuple_new ?_⟩))
  rw [Around.under_plainId F.plain_tuple_new _]
  have hsub := sub_tuple_self
  have hinit := init_tuple_lookup
  have hmh := madeHere_tuple
  have hT := K.type s hok
  have hh1 : A.in1.in1.handled = none := hh
  wp_walk using wpAny_typeOf hT, collect_src (A := A.in1.in1) K hh1 hok hn
  intro h' tk acc hk it
  show wpAny _ _ (Builtin.Tuple.tupleExact acc.toList.toArray >>= fun v => ret v) _ _ _
  unfold Builtin.Tuple.tupleExact
  refine wpAny_bind (wpAny_newObj_type (wpAny_pure ?_) ?_)
  · have e : acc.toList.toArray = acc := by simp
    rw [e]
    exact ⟨⟨_, Heap.get?_push_size _ rfl, rfl⟩, hQ h' tk acc hk it⟩
  · show acc.toList.toArray.size ≤ sizeLine
    simp only [Array.toArray_toList]
    rw [it.1]
    exact hn
end
end Q44
namespace Q44
open PySem PySem.Spec PyProof.Rows L2
section
variable {X : Cx} {pins : List (Addr × Obj)} {σ : L2.St} {H : Hp} {s : Shared} {d : Addr} {kvs : List (List Key × V)}
/-- the raw dict behind a dict with tuple keys -/
theorem dT_raw (I : Inv X pins σ H s) (hd : Rd H d (.dT kvs)) : ∃ (es : Array DictEntry) (ep : Nat) (ks : List (List Key × Addr × Value)), (d == sysModules) = false ∧ s.heap.DictRaw d es ep ∧ KT H kvs ks ∧
    es.size = kvs.length ∧ kvs.length ≤ sizeLine ∧ (∀ (i : Nat) (hi : i < es.size), ∃ x, ks[i]? = some x ∧ es[i].key = .ref x.2.1 ∧ es[i].val = x.2.2) := by
  obtain ⟨z, hs, ks, pr, o, es, ep, ho, hx, hdt, he, hn⟩ := (show ObjOk X.prog X.w H s.heap d (.dT kvs) from hd.ok I.hok)
  have l1 : es.size = ks.length := size_of_entries he
  have l2 : kvs.length = ks.length := Paired.length pr
  refine ⟨es, ep, ks, hs, ⟨o, ho, hx, hdt⟩, pr, by omega, z, fun i hi => ?_⟩
  have hk : ks[i]? = some (ks[i]'(by omega)) := List.getElem?_eq_getElem (by omega)
  have q := entry_at he i
  rw [Array.getElem?_eq_getElem hi, hk] at q
  have e2 : es[i] = entryOfKey (tupleKind (mixKind X.prog X.w)) (ks[i]'(by omega)) := Option.some.inj q
  exact ⟨_, hk, by rw [e2]; rfl, by rw [e2]; rfl⟩
/-- what is drawn from such a source, told of all at once -/
theorem drawn_all {α : Type} {g : α → Value} {n : Nat} {ks : List α} {P : Nat → Value → Prop} {acc : Array Value} (it : ItemsOf P acc n) (hl : n = ks.length) (h : ∀ i v, P i v → ∃ x, ks[i]? = some x ∧ v = g x) : acc.toList = ks.map g := by
  apply List.ext_getElem?
  intro j
  rw [List.getElem?_map]
  cases hj : acc.toList[j]? with
  | none =>
    have h1 := List.getElem?_eq_none_iff.mp hj
    rw [Array.length_toList, it.1] at h1
    rw [List.getElem?_eq_none (by omega)]
    rfl
  | some v =>
    obtain ⟨x, hx, e⟩ := h j v (it.2 j v (by rw [← Array.getElem?_toList]; exact hj))
    rw [hx, e]
    rfl
theorem KT.vals_of {ks : List (List Key × Addr × Value)} (r : KT H kvs ks) : Vals (kvs.map (·.2)) (ks.map (·.2.2)) := by
  induction r with
  | nil => exact .nil
  | cons h _ ih => exact .cons h.2.2 ih
/-- tuple(d) -/
theorem call_tuple_dT (hc : X.calm = true) : CallR X (.type "tuple") (fun xs H Q => ∃ d kvs, xs = [V.ref d] ∧ Rd H d (.dT kvs) ∧ ∀ p bs, H p = none → IsKeys H kvs bs → Q (.ref p) (upd H p (.tup (bs.map V.ref)))) := by
  intro pins s σ H xs us Q I r h
  obtain ⟨d, kvs, rfl, hd, q⟩ := h
  obtain ⟨u, rfl, rx⟩ := r.one
  cases rx
  obtain ⟨es, ep, ks, hs, raw, pr, l1, z, ent⟩ := dT_raw I hd
  have l2 : kvs.length = ks.length := Paired.length pr
  refine tuple_src (KdlSrc.rawDict hs) (I.ok.hd hc) raw (by omega) fun h' tk acc kp it => ?_
  have ea : acc.toList = (ks.map fun x => x.2.1).map Value.ref := by
    rw [List.map_map]
    refine drawn_all (g := fun x : List Key × Addr × Value => Value.ref x.2.1) it (by omega) fun i v hv => ?_
    obtain ⟨hi, e⟩ := hv
    obtain ⟨x, hx, e1, _⟩ := ent i hi
    exact ⟨x, hx, by rw [e, e1]⟩
  have rv : Vals ((ks.map fun x => x.2.1).map V.ref) acc.toList := by
    rw [ea]
    exact vals_refs _
  have I1 : Inv X pins σ H { s with heap := h' } := I.kept (t' := s.toks) kp
  have I2 : Inv X pins σ (upd H h'.objs.size (.tup ((ks.map fun x => x.2.1).map V.ref))) { s with heap := h'.push { cls := .type "tuple", data := .seq acc }, toks := tk } := by
    refine I1.laid (t' := tk) (fun b o e => Heap.get?_push_of_some _ e) (Nat.le_refl _) ?_
    refine ⟨by rw [List.length_map, List.length_map]; omega, acc.toList, rv, ?_⟩
    have e : acc.toList.toArray = acc := by simp
    rw [e]
    exact IsTup.new _ _
  exact ⟨.ref h'.objs.size, _, I2, rfl, q _ _ (I1.hok.fresh (Nat.le_refl _)) (isKeys_of pr)⟩
/-- list(e.values()), e a dict with tuple keys: a new list of its values -/
def tListVals (te : TE) : TE := fun σ H Q => te σ H fun x H1 => ∃ (d : Addr) (kvs : List (List Key × V)), x = .ref d ∧ H1 d = some (.dT kvs) ∧ ∀ p, H1 p = none → Q (.ref p) (upd H1 p (.lst (kvs.map (·.2))))
theorem pe_listVals {e : Expr} {te : TE} {p apos cpos pos : Pos} (hc : X.calm = true) (he : PE X e te) (hm : X.mg "list" = none) (hg : Gl X "list" := by rfl) (hb : attributeBase e "values" X.env (eval e X.env) = eval e X.env := by rfl) (hl : (apos.endLine == cpos.line) = true := by rfl)
    (hs : starEach [.Call (.Attribute e "values" apos) [] [] cpos] X.env = (false, eval (.Call (.Attribute e "values" apos) [] [] cpos) X.env) :: starEach [] X.env := by rfl) :
    PE X (.Call (.Name "list" p) [.Call (.Attribute e "values" apos) [] [] cpos] [] pos) (tListVals te) := by
  refine ⟨fun pins s σ H Q I hq => wpAny_Call_Name_kw (ld_blt I hg hm boot_list (PyProof.Rows.callWith_type1 ?_ hs rfl))⟩
  rw [hs]
  show wpAny _ _ (spliced ((false, eval (.Call (.Attribute e "values" apos) [] [] cpos) X.env) :: backTo pos (starEach [] X.env))) _ _ s
  refine Calls.spliced_cons (wpAny_Call_method (T := "dict") (id := "dict.values") hb rfl hl F.plainAttrs_dict F.slot_dict_values F.type_dict_values (thn (he.run pins s σ H _ I hq) fun u s1 z => ?_))
  obtain ⟨x, H1, I1, rx, d, kvs, ex, hd, q⟩ := z
  subst ex
  cases rx
  obtain ⟨es, ep, ks, hs0, raw, pr, l1, hz, ent⟩ := dT_raw I1 (.inl hd)
  have l2 : kvs.length = ks.length := Paired.length pr
  have I2 : Inv X pins σ H1 { s1 with heap := s1.heap.push { cls := .type "dict_values", data := .fields #[.ref d] } } := I1.kept (t' := s1.toks) fun b ob q => Heap.get?_push_of_some _ q
  refine ⟨raw.typeIs, ?_, ?_⟩
  · intro a ea
    cases ea
    obtain ⟨ob, ho, hx, _⟩ := raw
    exact ⟨ob, ho, by first | exact hx.2.1 | exact hx.2⟩
  show wpAny _ _ (callWith cpos (.builtin "dict.values") [.ref d] [] []) _ X.xe s1
  refine method_meetsIn F.slot_dict_values F.entry_dict_values rfl (PySem.evalArgs_none ⟨rfl, raw.typeIs, F.args_dict_values_1 _, _, meets_dict_values_raw d hs0, ⟨es, ep, raw⟩, ?_⟩)
  refine Calls.spliced_nil ?_
  refine PySem.W.kdl_call (KdlSrc.rawValues (r := s1.heap.objs.size) (d := d) (es := es) (ep := ep)) (I1.ok.hd hc) ⟨⟨_, Heap.get?_push_size _ rfl, rfl, rfl⟩, raw.push _⟩ (by omega) fun h' tk acc c kp hS it => ?_
  have ea : acc.toList = ks.map (·.2.2) := by
    refine drawn_all it (by omega) fun i v hv => ?_
    obtain ⟨hi, e⟩ := hv
    obtain ⟨x, hx, _, e1⟩ := ent i hi
    exact ⟨x, hx, by rw [e, e1]⟩
  refine ⟨.ref _, _, I2.laid (t' := tk) (o := .lst (kvs.map (·.2))) kp (Nat.le_refl _) ⟨by rw [List.length_map]; exact hz, acc.toList, c, by rw [ea]; exact KT.vals_of pr, by rw [Array.toArray_toList]; exact hS⟩, rfl, q _ (I2.hok.fresh (Nat.le_refl _))⟩
/-- the values of a locked dict with tuple keys, walked -/
def ItdT (d : Addr) (o : Obj) (kvs : List (List Key × V)) : It :=
  ⟨fun i H => H d = some (.frz o (.dT kvs)) ∧ i < kvs.length, fun i H x H' => H' = H ∧ ∃ k, kvs[i]? = some (k, x), fun i H => H d = some (.frz o (.dT kvs)) ∧ kvs.length ≤ i⟩
theorem frz_raw (I : Inv X pins σ H s) {o : Obj} (hd : H d = some (.frz o (.dT kvs))) : ∃ (es : Array DictEntry) (ep : Nat), o.data = .dict es ep ∧ (d == sysModules) = false ∧ s.heap.DictRaw d es ep ∧ es.size = kvs.length ∧
    (∀ (i : Nat) (hi : i < es.size) (k : List Key) (v : V), kvs[i]? = some (k, v) → RelV v es[i].val) := by
  obtain ⟨es, ep, ks, hs, raw, pr, l1, z, ent⟩ := dT_raw I (.inr ⟨o, hd⟩)
  obtain ⟨ob, ho, hx, hdt⟩ := id raw
  obtain ⟨ho2, _⟩ := (show ObjOk X.prog X.w H s.heap d (.frz o (.dT kvs)) from I.hok d _ hd)
  rw [ho] at ho2
  cases ho2
  refine ⟨es, ep, hdt, hs, raw, l1, fun i hi k v hkv => ?_⟩
  obtain ⟨x, hx1, _, e2⟩ := ent i hi
  obtain ⟨y, hy, hr⟩ := L2.paired_get pr hkv
  rw [hx1] at hy
  cases hy
  rw [e2]
  exact hr.2.2
theorem turn_valsT {P : Program} {w : World} {K : PySem.W.Frag} {tg : Expr} {o : Obj} {es : Array DictEntry} {ep : Nat} (it : Addr) (hod : o.data = .dict es ep) : Turn P w K tg (ItdT d o kvs) [it] it (fun i h => h.IsValIter it d i kvs.length ep) where
  mem := by simp
  obj := fun i h st b hb => by
    have e : b = it := by simpa using hb
    subst e
    obtain ⟨oi, e, c, dd⟩ := st
    exact ⟨oi, e, fun v z => by
      rw [dd] at z
      cases z⟩
  keep := fun i h h' st k => st.at fun oi e => k it (by simp) oi e
  item := by
    intro X hP hw hK hc i pins s σ H E I hf st hg
    subst hP hw hK
    obtain ⟨hd, hi⟩ := hg
    obtain ⟨f0, f1, f2, f3, f4, f5⟩ := hf it (by simp)
    obtain ⟨es', ep', hdt, hs, raw, l1, ent⟩ := frz_raw I hd
    obtain ⟨rfl, rfl⟩ := dict_ep hod hdt
    obtain ⟨⟨k, v⟩, hkv⟩ : ∃ p, kvs[i]? = some p := ⟨kvs[i], List.getElem?_eq_getElem hi⟩
    have hi2 : i < es'.size := by omega
    have st2 : s.heap.IsValIter it d i es'.size ep' := by rw [l1]; exact st
    refine wpAny_pyNext_values_item_raw st2 raw hi2 fun h' st' sb => ?_
    have I1 : Inv X pins σ H { s with heap := h' } := I.turned (t' := s.toks) (fun b ob hb e => (sb.2 b hb).trans e) f0 f1 f3 f4 f5
    obtain ⟨oi, e, c, dd⟩ := id st'
    refine ⟨_, rfl, go_of (s := { s with heap := h' }) e c dd (by decide) ⟨v, H, I1, ent i hi2 k v hkv, ⟨rfl, k, hkv⟩, ?_, fun b hb => (hf b hb).1⟩⟩
    show h'.IsValIter it d (i + 1) kvs.length _
    rw [← l1]
    exact st'
  done := by
    intro X hP hw hK hc i pins s σ H E I hf st hg
    subst hP hw hK
    obtain ⟨hd, hi⟩ := hg
    obtain ⟨f0, f1, f2, f3, f4, f5⟩ := hf it (by simp)
    obtain ⟨es', ep', hdt, hs, raw, l1, ent⟩ := frz_raw I hd
    obtain ⟨rfl, rfl⟩ := dict_ep hod hdt
    have st2 : s.heap.IsValIter it d i es'.size ep' := by rw [l1]; exact st
    exact wpAny_pyNext_values_end_raw (I.ok.hd hc) st2 raw (by omega) fun h' eb => ⟨rfl, I.turned (t' := s.toks) (fun b ob hb e => eb b ob hb e) f0 f1 f3 f4 f5⟩
  self := fun A i s Q E st h => wpAny_pyIter_valiter st h
def iValsT (td : TE) : TI := fun σ H R => td σ H fun x H1 => ∃ d o kvs, x = .ref d ∧ H1 d = some (.frz o (.dT kvs)) ∧ R (ItdT d o kvs) H1
theorem pi_valuesT {tg e : Expr} {td : TE} {apos cpos : Pos} (he : PE X e td) (hb : attributeBase e "values" X.env (eval e X.env) = eval e X.env := by rfl) (hl : (apos.endLine == cpos.line) = true := by rfl) : PI X tg (.Call (.Attribute e "values" apos) [] [] cpos) (iValsT td) := by
  refine ⟨fun pins s σ H R I h => wpAny_Call_method (T := "dict") (id := "dict.values") hb rfl hl F.plainAttrs_dict F.slot_dict_values F.type_dict_values (thn (he.run pins s σ H _ I h) fun u s1 z => ?_)⟩
  obtain ⟨x, H1, I1, rx, d, o, kvs, ex, hd, q⟩ := z
  subst ex
  cases rx
  obtain ⟨es, ep, hdt, hs, raw, l1, ent⟩ := frz_raw I1 hd
  refine ⟨raw.typeIs, ?_, ?_⟩
  · intro a ea
    cases ea
    obtain ⟨ob, ho, hx, _⟩ := raw
    exact ⟨ob, ho, by first | exact hx.2.1 | exact hx.2⟩
  have I2 : Inv X pins σ H1 { s1 with heap := s1.heap.push { cls := .type "dict_values", data := .fields #[.ref d] } } := I1.kept (t' := s1.toks) fun b ob q => Heap.get?_push_of_some _ q
  have fin : wpAny (model X.prog X.w) X.A (pyIter (.ref s1.heap.objs.size)) (PIE X pins σ tg R) X.xe { s1 with heap := s1.heap.push { cls := .type "dict_values", data := .fields #[.ref d] } } := by
    refine wpAny_pyIter_values_raw (d := d) ⟨_, Heap.get?_push_size _ rfl, rfl, rfl⟩ (raw.push _) (pi_one (tk := s1.toks) I2 _ (turn_valsT _ hdt) ⟨_, Heap.get?_push_size _ rfl, rfl, ?_⟩ q)
    rw [l1]
    all_goals rfl
  show wpAny _ _ (callWith cpos (.builtin "dict.values") [.ref d] [] []) _ X.xe s1
  exact method_meetsIn F.slot_dict_values F.entry_dict_values rfl (PySem.evalArgs_none ⟨rfl, raw.typeIs, F.args_dict_values_1 _, _, meets_dict_values_raw d hs, ⟨es, ep, raw⟩, fin⟩)
end
end Q44
namespace Q44
open PySem PySem.Spec PyProof.Rows L2 M44
section
variable {prog : Program} {w : World} {A : Around} {E : Value → Shared → Prop} {s : Shared}
theorem lex_rows {b : Bool} {xs ys : List Value} {ns ms : Rw} {Q : Bool → Shared → Prop} (i : Nat) (hx : IntsAre xs ns) (hy : IntsAre ys ms) (hl : ns.length = ms.length) (h : Q (HT.lexLt ns ms) s) :
    PySem.W.KatLex prog w A b false Q (xs.zip ys) i s := by
  induction hx generalizing ys ms i with
  | nil =>
    cases hy with
    | nil => exact PySem.W.kat_nil h
    | cons q u hy => simp at hl
  | @cons p t xs ns hx ih =>
    cases hy with
    | nil => simp at hl
    | @cons q u ys ms hy =>
      have hl' : ns.length = ms.length := by simpa using hl
      rw [HT.lexLt_cons] at h
      show PySem.W.KatLex prog w A b false Q ((Value.int p t, Value.int q u) :: xs.zip ys) i s
      refine PySem.W.kat_cons (wpAny_eqBool_int ?_)
      by_cases e : p = q
      · subst e
        rw [if_pos rfl] at h
        rw [beq_self_eq_true]
        refine PySem.W.kat_yes ?_
        first
        | exact ih (i + 1) hy hl' h
        | exact ih _ _ (i + 1) hy hl' h
      · rw [if_neg e] at h
        rw [show (p == q) = false from beq_eq_false_iff_ne.mpr e]
        exact PySem.W.kat_no (TS.oneLt_ints _ h)
/-- what is sorted: tuples of d small numbers -/
def RowsAt (h : Heap) (d : Nat) (vs : List Value) : Prop := ∀ v, v ∈ vs → ∃ ns, TS.TupInts h v ns ∧ RowOk d ns
theorem RowsAt.keeps {h h' : Heap} {d : Nat} {vs : List Value} (x : RowsAt h d vs) (k : ∀ b o, h.get? b = some o → o.cls = .type "tuple" → h'.get? b = some o) : RowsAt h' d vs := fun v hv =>
  let ⟨ns, t, r⟩ := x v hv
  ⟨ns, t.keeps k, r⟩
theorem first_of {h : Heap} {d : Nat} (hd : 1 ≤ d) : ∀ vs : List Value, RowsAt h d vs → ∃ fs, PySem.W.KatTups h vs fs ∧ fs.length = vs.length ∧ ∀ f, f ∈ fs → ∃ n t, f = Value.int n t
  | [], _ => ⟨[], PySem.W.KatTups.nil, rfl, fun f hf => by simp at hf⟩
  | v :: vs, x => by
    obtain ⟨fs, k, hl, hi⟩ := first_of hd vs fun u hu => x u (List.mem_cons_of_mem _ hu)
    obtain ⟨ns, ⟨a, xs, rfl, ⟨o, ho, hc, n, hdt⟩, i⟩, hn, _⟩ := x v List.mem_cons_self
    cases q : xs.toList with
    | nil =>
      rw [q] at i
      have l := i.length
      rw [List.length_nil, hn] at l
      omega
    | cons y ys =>
      obtain ⟨m, t, hy⟩ := i.all y (by rw [q]; exact List.mem_cons_self)
      have z := congrArg (fun l : List Value => l[0]?) q
      refine ⟨y :: fs, PySem.W.KatTups.cons ho hc hdt (by simpa using z) k, by simp [hl], fun f hf => ?_⟩
      rcases List.mem_cons.mp hf with e | hf
      · exact ⟨m, t, e.trans hy⟩
      · exact hi f hf
theorem kind_rows {d : Nat} {vs : List Value} (hd : 1 ≤ d) (h2 : 2 ≤ vs.length) (x : RowsAt s.heap d vs) (r : Value → Int) (hr : ∀ v, v ∈ vs → ∀ ns, TS.TupInts s.heap v ns → r v = rk ns) (Q : SortKind → Shared → Prop)
    (h : ∀ κ, TS.Cmp prog w A s κ (pairsOf vs) r → Q κ s) : wpAny (model prog w) A (keyKind' vs.toArray) Q E s := by
  obtain ⟨fs, k, hl, hi⟩ := first_of hd vs x
  refine PySem.W.kat_kind (T := Value.type "int") k (by omega) (fun f hf => ?_) rfl (h _ ?_)
  · obtain ⟨n, t, rfl⟩ := hi f hf
    exact PySem.W.Looks.of_pure rfl
  · intro p q hp hq Q' E' hQ
    rw [pairsOf_toList] at hp hq
    have mp := (mem_zip_self hp).2
    have mq := (mem_zip_self hq).2
    obtain ⟨ns, tp, okp⟩ := x _ mp
    obtain ⟨ms, tq, okq⟩ := x _ mq
    rw [hr _ mp _ tp, hr _ mq _ tq, rk_lt okp okq] at hQ
    obtain ⟨a, xs, e1, ⟨o, ho, hc, n, hdt⟩, i⟩ := tp
    obtain ⟨a', ys, e2, ⟨o', ho', hc', n', hdt'⟩, i'⟩ := tq
    rw [e1, e2]
    refine PySem.W.kat_lt ho hdt ho' hdt' ?_
    have l1 := i.length
    have l2 := i'.length
    rw [Array.length_toList] at l1 l2
    rw [show decide (xs.size < ys.size) = false from decide_eq_false (by rw [l1, l2, okp.1, okq.1]; omega)]
    exact lex_rows 0 i i' (okp.1.trans okq.1.symm) hQ
/-- the sort in place of a list of such tuples -/
theorem sort_rows {a : Addr} {vs : List Value} {n d : Nat} {P : PySem.Fin → Shared → Prop} (ho : s.heap.get? a = some (seqObj "list" vs.toArray n)) (h64 : vs.length < 64) (hd : 2 ≤ vs.length → 1 ≤ d) (x : RowsAt s.heap d vs)
    (r : Value → Int) (hr : ∀ v, v ∈ vs → ∀ ns, TS.TupInts s.heap v ns → r v = rk ns)
    (h : ∀ out : Array Value, out.toList.Perm vs → out.toList.Pairwise (fun u v => r u ≤ r v) → P (.done (.ret .none)) { s with heap := sortedHeap s.heap a vs out }) :
    wpAny (model prog w) A (Builtin.«list.sort» ⟨[.ref a], []⟩) P E s := by
  have keep : ∀ b o, s.heap.get? b = some o → o.cls = .type "tuple" → (TS.midHeap s.heap a vs).get? b = some o := fun b o e hc => by
    refine TS.midHeap_old (fun z => ?_) e
    rw [z, ho] at e
    have e' : seqObj "list" vs.toArray n = o := Option.some.inj e
    rw [← e'] at hc
    exact absurd (Value.type.inj (show Value.type "list" = Value.type "tuple" from hc)) (by decide)
  refine SK.plain_sort (r := r) ho h64 (fun h2 Q hQ => ?_) fun ps out h1 h2 h3 => ?_
  · refine kind_rows (s := { s with heap := TS.midHeap s.heap a vs }) (hd h2) h2 (x.keeps keep) r (fun v hv ns t => ?_) Q hQ
    obtain ⟨ns0, t0, _⟩ := x v hv
    rw [show ns = ns0 from t.ints.symm.trans (t0.keeps keep).ints]
    exact hr v hv ns0 t0
  · obtain ⟨p, o⟩ := TS.out_rank h1 h2 h3
    exact h out p o
/-- sorted(u), whatever u is drawn from -/
theorem sorted_of {u : Value} {d : Nat} {Q : Value → Shared → Prop}
    (hc : wpAny (model prog w) A.in1 (collect u) (fun vs s1 => vs.length < 64 ∧ RowsAt s1.heap d vs ∧ (2 ≤ vs.length → 1 ≤ d) ∧
      ∀ (h' : Heap) (out : Array Value) (c : Nat), (∀ b o, s1.heap.get? b = some o → h'.get? b = some o) → h'.get? s1.heap.objs.size = some (seqObj "list" out c) → out.toList.Perm vs →
        out.toList.Pairwise (fun u v => rk (TS.intsOf s1.heap u) ≤ rk (TS.intsOf s1.heap v)) → Q (.ref s1.heap.objs.size) { s1 with heap := h' }) E s) :
    wpAny (model prog w) A (call (.builtin "sorted") [u]) Q E s := by
  refine Calls.call_function_entry kind_sorted plain_sorted entry_sorted (args_sorted1 _) ?_
  unfold Builtin.«sorted»
  refine wpAny_bind (m := checkCount "sorted" 1 1 _) (wpAny_pure (wpAny_bind (wpAny_mono hc (fun vs s1 z => ?_) fun _ _ y => y)))
  obtain ⟨h64, x, hd, q⟩ := z
  refine wpAny_bind (wpAny_newList ?_ (by rw [sizeLine_eq]; omega))
  have hoL : (s1.heap.push (seqObj "list" vs.toArray 0)).get? s1.heap.objs.size = some (seqObj "list" vs.toArray 0) := Heap.get?_push_size _ rfl
  have keep : ∀ b o, s1.heap.get? b = some o → o.cls = .type "tuple" → (s1.heap.push (seqObj "list" vs.toArray 0)).get? b = some o := fun b o e _ => Heap.get?_push_of_some _ e
  have hr : ∀ v, v ∈ vs → ∀ ns, TS.TupInts (s1.heap.push (seqObj "list" vs.toArray 0)) v ns → rk (TS.intsOf s1.heap v) = rk ns := fun v hv ns t => by
    obtain ⟨ns0, t0, _⟩ := x v hv
    rw [t0.ints, show ns = ns0 from t.ints.symm.trans (t0.keeps keep).ints]
  refine wpAny_bind (wpAny_holding (wpAny_call_entry slot_list_sort ⟨_, hoL, rfl⟩ entry_list_sort
    (sort_rows (s := { s1 with heap := s1.heap.push (seqObj "list" vs.toArray 0) }) hoL h64 hd (x.keeps keep) (fun v => rk (TS.intsOf s1.heap v)) hr fun out a1 a2 => ⟨_, rfl, ?_⟩) (args_list_sort _)))
  obtain ⟨c, hc'⟩ := sortedHeap_at (vs := vs) (out := out) hoL
  refine wpAny_pure ⟨_, rfl, q _ out c (fun b o e => ?_) hc' a1 a2⟩
  have hlt := Heap.lt_size e
  show (sortedHeap (s1.heap.push (seqObj "list" vs.toArray 0)) s1.heap.objs.size vs out).get? b = some o
  rw [sortedHeap_old (Nat.ne_of_lt hlt) (by rw [size_push']; exact Nat.lt_succ_of_lt hlt)]
  exact Heap.get?_push_of_some _ e
end
end Q44
namespace Q44
open PySem PySem.Spec PyProof.Rows L2 M44
/-- at these addresses stand tuples of these rows -/
def RowsA (H : Hp) (as : List Addr) (rs : List Rw) : Prop := Paired (fun t ns => H t = some (.tup (ns.map V.int))) as rs
theorem RowsA.len {H : Hp} {as : List Addr} {rs : List Rw} (r : RowsA H as rs) : as.length = rs.length := Paired.length r
theorem RowsA.get {H : Hp} {as : List Addr} {rs : List Rw} (r : RowsA H as rs) {i : Nat} {a : Addr} (h : as[i]? = some a) : ∃ ns, rs[i]? = some ns ∧ H a = some (.tup (ns.map V.int)) := L2.paired_get r h
theorem refs_inj {l : List Value} {as : List Addr} (p : l.Perm (as.map Value.ref)) : ∃ as' : List Addr, l = as'.map Value.ref ∧ as'.Perm as := by
  have bk : ∀ q : List Addr, (q.map Value.ref).map (fun v => match v with | .ref a => a | _ => 0) = q := fun q => by
    rw [List.map_map]
    exact List.map_id _
  refine ⟨l.map (fun v => match v with | .ref a => a | _ => 0), ?_, ?_⟩
  · rw [List.map_map]
    have e : ∀ v ∈ l, (Value.ref ∘ fun v => match v with | .ref a => a | _ => 0) v = v := fun v hv => by
      obtain ⟨a, _, ea⟩ := List.mem_map.mp (p.mem_iff.mp hv)
      rw [← ea]
      rfl
    exact ((List.map_congr_left e).trans (List.map_id _)).symm
  · have z := p.map (fun v => match v with | .ref a => a | _ => 0)
    rw [bk] at z
    exact z
section
variable {X : Cx} {pins : List (Addr × Obj)} {σ : L2.St} {H : Hp} {s : Shared}
theorem rows_raw (I : Inv X pins σ H s) {as : List Addr} {rs : List Rw} (r : RowsA H as rs) : rs = as.map (fun a => TS.intsOf s.heap (.ref a)) ∧ ∀ a ∈ as, ∃ ns ∈ rs, H a = some (.tup (ns.map V.int)) ∧ TS.TupInts s.heap (.ref a) ns := by
  induction r with
  | nil => exact ⟨rfl, fun a h => by cases h⟩
  | @cons a ns as rs h _ ih =>
    have t := tupI_raw I (SqT.of h)
    refine ⟨by rw [List.map_cons, t.ints, ← ih.1], fun b hb => ?_⟩
    rcases List.mem_cons.mp hb with e | hb
    · rw [e]
      exact ⟨ns, List.mem_cons_self, h, t⟩
    · obtain ⟨m, hm, q⟩ := ih.2 b hb
      exact ⟨m, List.mem_cons_of_mem _ hm, q⟩
theorem rowsA_of (I : Inv X pins σ H s) : ∀ as : List Addr, (∀ a ∈ as, ∃ ns, H a = some (.tup (ns.map V.int)) ∧ TS.TupInts s.heap (.ref a) ns) → RowsA H as (as.map (fun a => TS.intsOf s.heap (.ref a)))
  | [], _ => .nil
  | a :: as, h => by
    obtain ⟨ns, h1, h2⟩ := h a List.mem_cons_self
    refine .cons ?_ (rowsA_of I as fun b hb => h b (List.mem_cons_of_mem _ hb))
    show H a = some (.tup ((TS.intsOf s.heap (.ref a)).map V.int))
    rw [h2.ints]
    exact h1
/-- what the sort leaves of tracked rows -/
theorem sorted_rows (I : Inv X pins σ H s) {as : List Addr} {rs : List Rw} {d : Nat} (r : RowsA H as rs) (ok : ∀ x ∈ rs, RowOk d x) {out : Array Value} (p : out.toList.Perm (as.map Value.ref))
    (pw : out.toList.Pairwise (fun u v => rk (TS.intsOf s.heap u) ≤ rk (TS.intsOf s.heap v))) : ∃ as' : List Addr, out.toList = as'.map Value.ref ∧ as'.Perm as ∧ RowsA H as' (srt rs) := by
  obtain ⟨as', e, pa⟩ := refs_inj p
  obtain ⟨er, ea⟩ := rows_raw I r
  have all : ∀ a ∈ as', ∃ ns ∈ rs, H a = some (.tup (ns.map V.int)) ∧ TS.TupInts s.heap (.ref a) ns := fun a ha => ea a (pa.mem_iff.mp ha)
  have er' : as'.map (fun a => TS.intsOf s.heap (.ref a)) = srt rs := by
    refine srt_of ?_ (by rw [er]; exact pa.map _)
    rw [e, List.pairwise_map] at pw
    rw [List.pairwise_map]
    refine List.Pairwise.imp_of_mem (fun {a b} ha hb z => ?_) pw
    obtain ⟨n1, m1, _, t1⟩ := all a ha
    obtain ⟨n2, m2, _, t2⟩ := all b hb
    rw [t1.ints, t2.ints] at z ⊢
    exact le_of_rk (ok n1 m1) (ok n2 m2) z
  refine ⟨as', e, pa, ?_⟩
  rw [← er']
  exact rowsA_of I as' fun a ha => let ⟨ns, _, h1, h2⟩ := all a ha; ⟨ns, h1, h2⟩
theorem rowsAt_of (I : Inv X pins σ H s) {as : List Addr} {rs : List Rw} {d : Nat} (r : RowsA H as rs) (ok : ∀ x ∈ rs, RowOk d x) : RowsAt s.heap d (as.map Value.ref) := fun v hv => by
  obtain ⟨a, ha, e⟩ := List.mem_map.mp hv
  obtain ⟨ns, m, _, t⟩ := (rows_raw I r).2 a ha
  rw [← e]
  exact ⟨ns, t, ok ns m⟩
/-- the sort's end -/
def SortEnd (H : Hp) (rs : List Rw) (Q : VK) : Prop := ∀ p as', H p = none → RowsA H as' (srt rs) → Q (.ref p) (upd H p (.lst (as'.map V.ref)))
theorem sort_end (I : Inv X pins σ H s) {as : List Addr} {rs : List Rw} {d : Nat} {Q : VK} (r : RowsA H as rs) (ok : ∀ x ∈ rs, RowOk d x) (h64 : rs.length < 64) (q : SortEnd H rs Q) {h' : Heap} {out : Array Value} {c : Nat}
    (k : ∀ b o, s.heap.get? b = some o → h'.get? b = some o) (e : h'.get? s.heap.objs.size = some (seqObj "list" out c)) (p : out.toList.Perm (as.map Value.ref))
    (pw : out.toList.Pairwise (fun u v => rk (TS.intsOf s.heap u) ≤ rk (TS.intsOf s.heap v))) : EP X pins σ Q (.ref s.heap.objs.size) { s with heap := h' } := by
  obtain ⟨as', eo, pa, ra⟩ := sorted_rows I r ok p pw
  have hz : (as'.map V.ref).length ≤ sizeLine := by
    rw [List.length_map, pa.length_eq, r.len, sizeLine_eq]
    omega
  refine ⟨.ref s.heap.objs.size, upd H s.heap.objs.size (.lst (as'.map V.ref)), I.laid (t' := s.toks) k (Nat.le_refl _) ⟨hz, out.toList, c, by rw [eo]; exact L2.vals_refs _, by rw [Array.toArray_toList]; exact e⟩, rfl, ?_⟩
  exact q _ as' (I.hok.fresh (Nat.le_refl _)) ra
/-- sorted(xs), xs a list of fewer than 64 rows -/
def rSortL (K : PySem.W.Frag) : List V → Hp → VK → Prop := fun vs H Q => ∃ (a : Addr) (as : List Addr) (rs : List Rw) (d : Nat), vs = [V.ref a] ∧ SqL K H a (as.map V.ref) ∧ RowsA H as rs ∧ rs.length < 64 ∧ (∀ x ∈ rs, RowOk d x) ∧
  (2 ≤ rs.length → 1 ≤ d) ∧ SortEnd H rs Q
theorem refs_of {as : List Addr} {us : List Value} (r : Vals (as.map V.ref) us) : us = as.map Value.ref := by
  induction as generalizing us with
  | nil => cases r; rfl
  | cons a as ih =>
    cases r with
    | cons h t =>
      cases h
      rw [ih t]
      rfl
theorem cr_sortL : CallR X (.builtin "sorted") (rSortL X.K) := by
  intro pins s σ H xs us Q I r h
  obtain ⟨a, as, rs, d, rfl, hl, ra, h64, ok, hd, q⟩ := h
  rw [Vals.ref1 r]
  obtain ⟨its, rv, pl, hz⟩ := I.list hl
  have ei := refs_of rv
  subst ei
  have hlen : (as.map Value.ref).length = rs.length := by rw [List.length_map, ra.len]
  refine sorted_of (d := d) (collect_list pl.isList ?_ (by rw [hlen, sizeLine_eq]; omega))
  generalize hs1 : ({ s with heap := (s.heap.push (seqObj "list" #[] 0)).update s.heap.objs.size (Obj.mapSeq (· ++ (as.map Value.ref).toArray)) } : Shared) = s1
  have k1 : ∀ b o, s.heap.get? b = some o → s1.heap.get? b = some o := fun b o e => by
    rw [← hs1]
    exact (Heap.get?_update_ne _ _ _ _ (Nat.ne_of_lt (Heap.lt_size e))).trans (Heap.get?_push_of_some _ e)
  have I1 : Inv X pins σ H s1 := by
    have z := I.kept (t' := s.toks) (h' := s1.heap) k1
    rw [← hs1] at z ⊢
    exact z
  exact ⟨by rw [hlen]; exact h64, rowsAt_of I1 ra ok, by rw [hlen]; exact hd, fun h' out c k e p pw => sort_end I1 ra ok h64 q k e p pw⟩
/-- sorted(d), d a dict whose keys are fewer than 64 rows -/
def rSortD : List V → Hp → VK → Prop := fun vs H Q => ∃ (a : Addr) (kvs : List (List Key × V)) (rs : List Rw) (d : Nat), vs = [V.ref a] ∧ Rd H a (.dT kvs) ∧ kvs.map (·.1) = rs.map (·.map Sum.inl) ∧ rs.length < 64 ∧ (∀ x ∈ rs, RowOk d x) ∧
  (2 ≤ rs.length → 1 ≤ d) ∧ SortEnd H rs Q
theorem key_row (ns : Rw) : (ns.map (Sum.inl : Int → Key)).map kV = ns.map V.int := by
  rw [List.map_map]
  rfl
theorem rowsA_keys {kvs : List (List Key × V)} {bs : List Addr} (k : IsKeys H kvs bs) : ∀ {rs : List Rw}, kvs.map (·.1) = rs.map (·.map Sum.inl) → RowsA H bs rs := by
  unfold IsKeys at k
  induction k with
  | nil =>
    intro rs e
    cases rs with
    | nil => exact .nil
    | cons _ _ => cases e
  | @cons p b kvs bs h _ ih =>
    intro rs e
    cases rs with
    | nil => cases e
    | cons x rs =>
      rw [List.map_cons, List.map_cons] at e
      injection e with e1 e2
      refine .cons ?_ (ih e2)
      rw [e1, key_row] at h
      exact h
theorem cr_sortD (hc : X.calm = true) : CallR X (.builtin "sorted") rSortD := by
  intro pins s σ H xs us Q I r h
  obtain ⟨a, kvs, rs, d, rfl, hdt, ek, h64, ok, hd, q⟩ := h
  rw [Vals.ref1 r]
  obtain ⟨es, ep, ks, hs, raw, pr, l1, z, ent⟩ := dT_raw I hdt
  have l2 : kvs.length = ks.length := Paired.length pr
  have l3 : kvs.length = rs.length := by
    have z := congrArg List.length ek
    rw [List.length_map, List.length_map] at z
    exact z
  have ra : RowsA H (ks.map fun x => x.2.1) rs := rowsA_keys (isKeys_of pr) ek
  refine sorted_of (d := d) (collect_src (KdlSrc.rawDict hs) (I.ok.hd hc) raw (by omega) fun h1 tk acc kp it => ?_)
  have ea : acc.toList = (ks.map fun x => x.2.1).map Value.ref := by
    rw [List.map_map]
    refine drawn_all (g := fun x : List Key × Addr × Value => Value.ref x.2.1) it (by omega) fun i v hv => ?_
    obtain ⟨hi, e⟩ := hv
    obtain ⟨x, hx, e1, _⟩ := ent i hi
    exact ⟨x, hx, by rw [e, e1]⟩
  have I1 : Inv X pins σ H { s with heap := h1, toks := tk } := I.kept (t' := tk) kp
  rw [ea]
  have hlen : ((ks.map fun x => x.2.1).map Value.ref).length = rs.length := by rw [List.length_map, ra.len]
  exact ⟨by rw [hlen]; exact h64, rowsAt_of I1 ra ok, by rw [hlen]; exact hd, fun h' out c k e p pw => sort_end I1 ra ok h64 q k e p pw⟩
end
end Q44
namespace Q44
open PySem PySem.Spec PyProof.Rows L2 M44
section
variable {X : Cx} {pins : List (Addr × Obj)} {σ : L2.St} {H : Hp} {s : Shared}
/-- set(xs), xs a list of rows -/
def rSetR (K : PySem.W.Frag) (P : Program) (w : World) : List V → Hp → VK → Prop := fun xs H Q => ∃ (l : Addr) (as : List Addr) (rs : List Rw), xs = [V.ref l] ∧ SqL K H l (as.map V.ref) ∧ RowsA H as rs ∧ rs.length < 64 ∧
  ∀ a L, H a = none → (∀ p ∈ L, p ∈ as.zip rs) → L.length ≤ rs.length → Q (.ref a) (upd H a (SetTO P w a L))
theorem zip_refs : ∀ {as : List Addr} {rs : List Rw}, as.length = rs.length → (as.zip rs).map (fun p => Value.ref p.1) = as.map Value.ref
  | [], _, _ => rfl
  | _ :: _, [], h => by cases h
  | a :: as, r :: rs, h => by
    rw [List.zip_cons_cons, List.map_cons, List.map_cons, zip_refs (Nat.succ.inj h)]
theorem zip_rows {H : Hp} : ∀ {as : List Addr} {rs : List Rw}, RowsA H as rs → ∀ p ∈ as.zip rs, H p.1 = some (.tup (p.2.map V.int))
  | _, _, .nil, p, hp => by cases hp
  | _, _, .cons h t, p, hp => by
    rw [List.zip_cons_cons] at hp
    rcases List.mem_cons.mp hp with e | hp
    · rw [e]
      exact h
    · exact zip_rows t p hp
theorem cr_setR (hc : X.calm = true) (hu : X.A.units + 64 < cLine) : CallR X (.type "set") (rSetR X.K X.prog X.w) := by
  intro pins s σ H xs us Q I r h
  obtain ⟨l, as, rs, rfl, hl, ra, h64, q⟩ := h
  rw [Vals.ref1 r]
  obtain ⟨its, rv, pl, hz⟩ := I.list hl
  have ei := refs_of rv
  have lz : (as.zip rs).length = rs.length := by rw [List.length_zip, ra.len, Nat.min_self]
  refine call_set_tups (P := X.prog) (w := X.w) (as.zip rs) (I.ok.hd hc) pl.isList (by rw [zip_refs ra.len, ← ei]) (fun p hp => Inv.isT I (SqT.of (zip_rows ra p hp))) (by rw [lz]; exact h64) (by omega) fun h' tk L es ep t R g k => ?_
  refine ⟨.ref s.heap.objs.size, upd H s.heap.objs.size (SetTO X.prog X.w s.heap.objs.size L), I.laid (t' := tk) k (Nat.le_refl _) (setTO_new R.t0), rfl, ?_⟩
  exact q _ L (I.hok.fresh (Nat.le_refl _)) (fun p hp => List.mem_of_mem_take (g.sub p hp)) (by rw [← lz]; exact g.len)
/-- sorted(s), s such a set -/
def rSortS (P : Program) (w : World) : List V → Hp → VK → Prop := fun vs H Q => ∃ (a : Addr) (L : List (Addr × Rw)) (d : Nat), vs = [V.ref a] ∧ H a = some (SetTO P w a L) ∧ (∀ p ∈ L, H p.1 = some (.tup (p.2.map V.int))) ∧
  (∀ p ∈ L, RowOk d p.2) ∧ 1 ≤ d ∧ SortEnd H (L.map (·.2)) Q
theorem rows_fst {H : Hp} : ∀ {L : List (Addr × Rw)}, (∀ p ∈ L, H p.1 = some (.tup (p.2.map V.int))) → RowsA H (L.map (·.1)) (L.map (·.2))
  | [], _ => .nil
  | p :: L, h => .cons (h p List.mem_cons_self) (rows_fst fun q hq => h q (List.mem_cons_of_mem _ hq))
theorem cr_sortS (hc : X.calm = true) : CallR X (.builtin "sorted") (rSortS X.prog X.w) := by
  intro pins s σ H xs us Q I r h
  obtain ⟨a, L, d, rfl, ha, hk, ok, hd, q⟩ := h
  have R0 : SetT0 X.prog X.w s.heap a L := (I.hok a _ ha).1
  obtain ⟨es, ep, t, R⟩ := R0.full fun p hp => Inv.isT I (SqT.of (hk p hp))
  rw [Vals.ref1 r]
  obtain ⟨o, ho, hex, hdt⟩ := R.ob
  have hsz := R.size
  have hfew := R.few
  have hes : es.toList.map (·.2) = (L.map (·.1)).map Value.ref := by
    rw [R.rows]
    unfold rowsOf
    rw [List.map_map, List.map_map]
    rfl
  have ra := rows_fst hk
  have okr : ∀ x ∈ L.map (·.2), RowOk d x := fun x hx => by
    obtain ⟨p, hp, e⟩ := List.mem_map.mp hx
    rw [← e]
    exact ok p hp
  refine sorted_of (d := d) (collect_set (A := X.A.in1) (I.ok.hd hc) ⟨o, ho, hex.1, hdt⟩ R.fits (by unfold scanBound; omega) R.tab.ris R.led fun s1 vs k1 hz g1 o1 pm => ?_)
  rw [hes] at pm
  have J : Inv X pins σ H { s with heap := s1.heap, gens := s1.gens, drawn := s1.drawn, toks := s1.toks } :=
    I.call (ch := []) (Un.kept k1) (I.hok.kept k1) (by rw [g1]; exact I.bare) (fun _ z => nomatch z)
  have e : s1 = { s with heap := s1.heap, gens := s1.gens, drawn := s1.drawn, toks := s1.toks } := by
    cases s1
    cases s
    cases o1
    rfl
  rw [← e] at J
  have hlen : vs.length = L.length := by rw [pm.length_eq, List.length_map, List.length_map]
  have rat := rowsAt_of J ra okr
  refine ⟨by omega, fun v hv => rat v (pm.mem_iff.mp hv), fun _ => hd, fun h' out c k e2 p pw => ?_⟩
  exact sort_end J ra okr (by rw [List.length_map]; exact hfew) q k e2 (p.trans pm) pw
end
/-! ### len of an instance by its own __len__ -/
section
variable {prog : Program} {w : World} {A : Around} {E : Value → Shared → Prop} {s : Shared} {K : PySem.W.Frag} {x C f : Addr} {ox : Obj} {odd : Option Obj}
theorem len_run {Q : Value → Shared → Prop} (KX : K.In s.heap) (I : PySem.W.InstAt s.heap x ox C odd) (hs : PySem.W.findIn K (.ref C) "__len__" = some (some (.ref f))) (hf : PySem.W.isFn K (.ref f) = true)
    (h : wpAny (model prog w) A.in1 (call (.ref f) [.ref x]) (fun r s₁ => ∃ (n : Nat) (u : Tok), r = Value.int n u ∧ (n : Int) < 2 ^ 63 ∧ ∀ tk t, Q (.int n t) { s₁ with toks := tk }) E s) : wpAny (model prog w) A (call (.builtin "len") [.ref x]) Q E s := by
  refine Calls.call_function_entry kind_len plain_len entry_len (args_len1 _) ?_
  unfold Builtin.«len»
  refine wpAny_bind (m := oneArg "len" _) (wpAny_pure ?_)
  refine wpAny_bind (m := callSpecial? (.ref x) (Str.ofString "__len__")) (PySem.W.special_fn KX I hs (beq_iff_eq.mp hf) (wpAny_mono h (fun r s' z => ?_) fun _ _ y => y))
  obtain ⟨n, u, rfl, hn, q⟩ := z
  refine wpAny_bind (wpAny_holding (wpAny_pure ?_))
  refine wpAny_bind (wpAny_letGo ?_)
  show wpAny _ _ (if ((n : Nat) : Int) < 0 then _ else _) _ _ _
  rw [if_neg (by omega)]
  show wpAny _ _ (if ((n : Nat) : Int) ≥ 2 ^ 63 then _ else _) _ _ _
  rw [if_neg (by omega)]
  exact wpAny_bind (wpAny_mkInt (wpAny_pure ⟨_, rfl, q _ _⟩))
end
section
variable {X : Cx} {C g : Addr} {n : Nat} {sp : Sp}
def rLenOwn (C : Addr) (sp : Sp) : List V → Hp → VK → Prop := fun xs H Q => ∃ (a dx : Addr) (vs : List (Option V)), xs = [V.ref a] ∧ SlX.Slt H a C dx vs ∧ sp [.ref a] H (fun z H' => ∃ m : Nat, z = .int m ∧ (m : Int) < 2 ^ 63 ∧ Q (.int m) H') E0
theorem call_lenOwn (hs : PySem.W.findIn X.K (.ref C) "__len__" = some (some (.ref g))) (hf : PySem.W.isFn X.K (.ref g) = true) (F : FnR X.prog X.w X.K X.mg X.base CX0 n g sp) (hr : Room (n + 1) X.A) : CallR X (.builtin "len") (rLenOwn C sp) := by
  intro pins s σ H xs us Q I r h
  obtain ⟨a, dx, vs, rfl, hsl, q⟩ := h
  rw [Vals.ref1 r]
  obtain ⟨sl, od, _, J, _⟩ := SlX.slt_inst I hsl
  refine len_run I.kIn J hs hf (wpAny_mono (wpAny_call (SlX.run_at (us := [.ref a]) (ws := [.ref a]) F hr.in1 I.env0.in1 pass0 I (.cons rfl .nil) q)) (fun w s' z => ?_) fun _ _ x => x)
  obtain ⟨z', H', I', rz, m, ei, hm, qz⟩ := z
  subst ei
  obtain ⟨t, e⟩ := (show ∃ t, w = Value.int m t from rz)
  exact ⟨m, t, e, hm, fun tk t' => ⟨.int m, H', I'.tok tk, ⟨t', rfl⟩, qz⟩⟩
end
end Q44
/-! A dict comprehension whose keys are tuples. -/
namespace Q44
open PySem PySem.Spec PyProof.Rows L2 M44
theorem put_tup {X : Cx} {pins : List (Addr × Obj)} {σ : L2.St} {H : Hp} {s : Shared} {E : Value → Shared → Prop} {D b : Addr} {kvs : List (List Key × V)} {k : List Key} {v : V} {r : Value} {Q : Unit → Shared → Prop} (hu : X.A.units + 1 < cLine) (I : Inv X pins σ H s) (hD : H D = some (.dT kvs))
    (hb : H b = some (.tup (k.map kV))) (hz : kvs.length < sizeLine) (rv : RelV v r) (h : ∀ s', Inv X pins σ (upd H D (.dT (putK kvs k v))) s' → Q () s') : wpAny (model X.prog X.w) X.A (dictSet D (.ref b) r) Q E s := by
  obtain ⟨z, hd, xs, rel, dd⟩ := dt_of I.hok hD
  have hx : xs.length ≤ sizeLine := by rw [← Paired.length rel]; exact z
  have hl := length_putK kvs k v
  refine wpAny_dictSet_heap (hsz := hx) (by exact Nat.lt_of_succ_lt hu) (key_of I.hok hb) dd fun h' dd' hs => h _ ?_
  obtain ⟨q, es, ep, hq, h2, h3, h4, _, h5⟩ := dd'
  refine d_write I (by rw [hD]; exact True.intro) hs ⟨q, hq⟩ ⟨by omega, hd, _, (rel.put k hb rv).keeps fun c ys ec => ?_, q, es, ep, hq, h2, h3, h4, h5⟩
  rw [upd_ne (ne_of ec hD (fun z => nomatch z))]
  exact ec
section
variable {X : Cx}
/-- {k: v for target in iter if ..}, the keys tuples -/
def tDcT (wi : TI) (g : TG) (tt : TT) (tk tv : TE) (ws : List Nat) : TE := fun σ H Q => wi σ H fun J H1 => ∀ D, H1 D = none → ∃ W : Nat → Nat → Hp → Prop, (∃ m, W 0 m (upd H1 D (.dT []))) ∧ ∀ i m H, W i m H →
  (J.stop i H ∧ Q (.ref D) H) ∨ (J.go i H ∧ ∃ Nx : Hp → Prop, (∀ H', Nx H' → ∃ m', m' < m ∧ W (i + 1) m' H') ∧ ∀ x H', J.yld i H x H' → g x (wipe σ ws) H' fun σ2 H2 => wipe σ2 ws = wipe σ ws ∧ tt σ2 H2 fun b H3 =>
    if b = true then tk σ2 H3 fun y H4 => tv σ2 H4 fun z H5 => ∃ kvs k b, y = .ref b ∧ H5 b = some (.tup (k.map kV)) ∧ H5 D = some (.dT kvs) ∧ kvs.length < sizeLine ∧ Nx (upd H5 D (.dT (putK kvs k z))) else Nx H3)
theorem dcT_core {pins : List (Addr × Obj)} {s : Shared} {σ : L2.St} {H : Hp} {Q : VK} {kx vx tg iter : Expr} {ifs : List Expr} {scope : Scope} {own : List (Str × Nat)} {pos pos' : Pos} {wi : TI} {g : TG} {tt : TT} {tk tv : TE} {use : Option (Value → Sem Unit)} {Qf : Value → Shared → Prop}
    (hu : X.A.units + 1 < cLine) (hc : X.calm = true) (hN : X.N.Nodup) (I : Inv X pins σ H s) (hi : PI X tg iter wi) (ok : BlkOk X.N X.env.scope scope own)
    (hg : ∀ s0 H0 C0 cl fp, PG (X.blk s0 H0 scope (compEnvC scope cl C0 X.env) fp) tg g) (ht : ∀ s0 H0 C0 cl fp, PTs (X.blk s0 H0 scope (compEnvC scope cl C0 X.env) fp) ifs tt)
    (hk : ∀ s0 H0 C0 cl fp, PE (X.blk s0 H0 scope (compEnvC scope cl C0 X.env) fp) kx tk) (hv : ∀ s0 H0 C0 cl fp, PE (X.blk s0 H0 scope (compEnvC scope cl C0 X.env) fp) vx tv)
    (hs : ∀ x, foldedSetIterable iter X.env x = pure x) (h : tDcT wi g tt tk tv (own.map (·.2)) σ H Q)
    (fin : ∀ D C s' m H', Inv X pins σ H' s' → Q (.ref D) H' → s'.heap.Ns C m → FpOk X pins H' C → compPost (model X.prog X.w) X.A X.xe use Qf (.ref D) C (.ok .next) s') :
    wpAny (model X.prog X.w) X.A (comprehension (.DictComp kx vx [⟨tg, iter, ifs, 0⟩] scope pos) scope X.env pos' newDict false (eval iter X.env) use) Qf X.xe s := by
  have hfree : ∀ y ∈ scope.names, y.2 = .free → ∃ c, X.env.cells.lookup y.1 = some c := fun y hy e => (ok.free y hy e).elim (fun k => I.ok.has _ (.inl k)) fun k => I.ok.has _ (.inr k)
  refine wpAny_comprehension_free (use := use) rfl hs (closure_ok hfree) ok.kind (fun y hy e => by rw [ok.uniq y hy, e]) ?_
  refine thn (hi.run pins s σ H _ I h) fun xv s1 hx => thn hx fun itv s2 z => ?_
  obtain ⟨it, fp, tn, J, H2, rfl, I2, T, st2, f2, q⟩ := z
  refine wpAny_newObj_type (newEnv_comp ?_)
  generalize hD : s2.heap.objs.size = D
  have le : s2.heap.objs.size ≤ D := Nat.le_of_eq hD
  have hDn : H2 D = none := I2.hok.fresh le
  obtain ⟨W, ⟨m0, w0⟩, turn⟩ := q D hDn
  generalize hs3 : ({ s2 with heap := s2.heap.push { cls := .type "dict", data := .dict #[] } } : Shared) = s3
  have h3 : s3.heap = s2.heap.push { cls := .type "dict", data := .dict #[] } := by rw [← hs3]
  have up3 : ∀ b o, s2.heap.get? b = some o → s3.heap.get? b = some o := fun b o e => by
    rw [h3]
    exact Heap.get?_push_of_some _ e
  have I3 : Inv X pins σ (upd H2 D (.dT [])) s3 := by
    rw [← hs3]
    refine I2.laid (t' := s2.toks) (fun b o e => Heap.get?_push_of_some _ e) le ?_
    rw [← hD]
    exact dt_empty s2.heap I2.big
  have f3 : ∀ b ∈ fp, FpOk X pins (upd H2 D (.dT [])) b ∧ b < s3.heap.objs.size := fun b hb => by
    obtain ⟨o, e, _⟩ := T.obj _ _ st2 b hb
    have lt := Heap.lt_size e
    refine ⟨⟨?_, (f2 b hb).2⟩, Heap.lt_size (up3 b o e)⟩
    rw [upd_ne (by rw [← hD]; exact Nat.ne_of_lt lt)]
    exact (f2 b hb).1
  have st3 : tn 0 s3.heap := T.keep _ _ _ st2 fun b _ o e => up3 b o e
  have I4 := block_start I3 ok hN f3
  generalize hcl : cellsFrom (s3.heap.objs.size + 1) scope.names (cloFrom X.env.cells scope.names []) = cl at I4
  have pg := hg s3 (upd H2 D (.dT [])) s3.heap.objs.size cl fp
  have pt := ht s3 (upd H2 D (.dT [])) s3.heap.objs.size cl fp
  have pk := hk s3 (upd H2 D (.dT [])) s3.heap.objs.size cl fp
  have pv := hv s3 (upd H2 D (.dT [])) s3.heap.objs.size cl fp
  have nfp : ∀ b ∈ fp, (upd H2 D (.dT [])) b = none := fun b hb => (f3 b hb).1.1
  have e4 : s2.heap.push { cls := .type "dict", data := .dict #[] } = s3.heap := h3.symm
  show codeAny _ _ (.compStart (.DictComp kx vx [⟨tg, iter, ifs, 0⟩] scope pos) 0 (.ref it) (.ref D) (compEnvC scope cl s3.heap.objs.size X.env))
    (compPost (model X.prog X.w) X.A X.xe use Qf (.ref D) s3.heap.objs.size) { s3 with heap := pushCells (s3.heap.push { cls := .type "dict", data := .dict #[] }) scope.names }
  generalize hce : compEnvC scope cl s3.heap.objs.size X.env = ce at I4 pg pt pk pv ⊢
  have cL : ce.locals = s3.heap.objs.size := by
    subst hce
    rfl
  generalize hH3 : upd H2 D (.dT []) = H3 at I3 I4 pg pt pk pv w0 nfp f3
  generalize hs4 : ({ s3 with heap := pushCells (s3.heap.push { cls := .type "dict", data := .dict #[] }) scope.names } : Shared) = s4 at I4 ⊢
  have st4 : tn 0 s4.heap := T.keep _ _ _ st3 fun b _ o e => by
    rw [← hs4]
    exact pushCells_keeps _ _ _ _ (Heap.get?_push_of_some _ e)
  have stat : ∀ {σ' : L2.St} {H' : Hp} {s' : Shared}, Inv (X.blk s3 H3 scope ce fp) [] σ' H' s' → (∀ b ∈ fp, H' b = none) → ∀ b ∈ fp, FpOk (X.blk s3 H3 scope ce fp) [] H' b := fun {σ' H' s'} I' hn b hb =>
    ⟨hn b hb, (I'.ok.exf b hb).1, I'.ok.exfs b hb, .inl hb, fun x c e => (I'.ok.exf b hb).2 x c e, fun p hp => nomatch hp⟩
  have loop : codeAny (model X.prog X.w) X.A (.compLoop (.DictComp kx vx [⟨tg, iter, ifs, 0⟩] scope pos) 0 (.ref it) (.ref D) ce) (compPost (model X.prog X.w) X.A X.xe use Qf (.ref D) s3.heap.objs.size) s4 := by
    refine compLoop_anyD (fun n s' => ∃ i H', Inv (X.blk s3 H3 scope ce fp) [] (wipe σ (own.map (·.2))) H' s' ∧ tn i s'.heap ∧ (∀ b ∈ fp, H' b = none) ∧ W i n H') (fun n s5 z => ?_) m0 ⟨0, H3, I4, st4, nfp, w0⟩
    obtain ⟨i, H5, I5, st5, n5, w5⟩ := z
    rcases turn i n H5 w5 with ⟨stop, qq⟩ | ⟨go, Nx, hNx, step⟩
    · refine thnF (T.done (X.blk s3 H3 scope ce fp) rfl rfl rfl hc i [] s5 _ H5 (fun _ _ => False) I5 (stat I5 n5) st5 stop) fun r s6 z => ?_
      obtain ⟨rfl, I6⟩ := z
      have I7 : Inv X pins σ H5 s6 := I3.call' (ch := fp) I6.os I6.base I6.hok I6.bare fun b hb =>
        let ⟨_, y2, _, y4, y5, y6⟩ := (f3 b hb).1
        ⟨y4, y2, y5, y6⟩
      have nC : H5 s3.heap.objs.size = none := by
        rw [← cL]
        exact I6.free
      obtain ⟨m, hn, _⟩ := I6.loc
      have hn' : s6.heap.Ns s3.heap.objs.size m := by
        rw [← cL]
        exact hn
      exact fin D s3.heap.objs.size s6 m H5 I7 qq hn' (I3.fpOk (Nat.le_refl _) nC)
    · refine thnF (T.item (X.blk s3 H3 scope ce fp) rfl rfl rfl hc i [] s5 _ H5 (fun _ _ => False) I5 (stat I5 n5) st5 go) fun r s6 z => ?_
      obtain ⟨u, rfl, h6⟩ := z
      refine thnF h6 fun _ s7 z => ?_
      obtain ⟨x, H7, I7, r7, y7, st7, n7⟩ := z
      have I8 := I7.pinned (stat I7 n7) (T.obj _ _ st7)
      refine thnF (pg.run _ s7 _ H7 x u _ I8 r7 (step x H7 y7)) fun _ s8 z => ?_
      obtain ⟨σ8, H8, I9, hw8, q8⟩ := z
      refine thnF (pt.run _ s8 σ8 H8 _ I9 q8) fun b s9 z => ?_
      obtain ⟨H9, I10, q9⟩ := z
      have done : ∀ {s' : Shared} {H' : Hp}, Inv (X.blk s3 H3 scope ce fp) ([] ++ pinsAt fp s7.heap) σ8 H' s' → Nx H' → ∃ m, m < n ∧ ∃ i H', Inv (X.blk s3 H3 scope ce fp) [] (wipe σ (own.map (·.2))) H' s' ∧ tn i s'.heap ∧ (∀ b ∈ fp, H' b = none) ∧ W i m H' := fun {s' H'} I' nx => by
        obtain ⟨m', hm, w'⟩ := hNx H' nx
        have pin : ∀ b ∈ fp, ∀ o, s7.heap.get? b = some o → s'.heap.get? b = some o ∧ H' b = none := fun b hb o e =>
          let z := I'.pin (b, o) (List.mem_append_right _ (List.mem_append_right _ (mem_pinsAt hb e)))
          ⟨z.1, z.2.1⟩
        refine ⟨m', hm, i + 1, H', (I'.unpinned (pins := [])).weak (by rw [← hw8, wipe_length]) (fun j v e => ?_), T.keep _ _ _ st7 fun b hb o e => (pin b hb o e).1, fun b hb => ?_, w'⟩
        · rw [← hw8] at e
          exact (wipe_some e).1
        · obtain ⟨o, e, _⟩ := T.obj _ _ st7 b hb
          exact (pin b hb o e).2
      cases b with
      | false =>
        simp only [Bool.false_eq_true, if_false] at q9 ⊢
        exact done I10 q9
      | true =>
        simp only [if_true] at q9 ⊢
        refine thnF (pk.run _ s9 σ8 H9 _ I10 q9) fun z s10 y => ?_
        obtain ⟨yk, H10, I11, r10, q10⟩ := y
        refine thnF (pv.run _ s10 σ8 H10 _ I11 q10) fun z2 s11 y => ?_
        obtain ⟨yv, H11, I12, r11, kvs, k, b, ek, hb, hD11, hz11, nx⟩ := y
        subst ek
        cases r10
        exact put_tup (X := X.blk s3 H3 scope ce fp) hu I12 hD11 hb hz11 r11 fun s12 I13 => done I13 nx
  exact codeAny_compStart_dict loop (T.self X.A 0 _ _ _ st4 loop)
theorem pe_dcT {kx vx tg iter : Expr} {ifs : List Expr} {scope : Scope} {own : List (Str × Nat)} {pos : Pos} {wi : TI} {g : TG} {tt : TT} {tk tv : TE} (hu : X.A.units + 1 < cLine) (hc : X.calm = true) (hN : X.N.Nodup) (hi : PI X tg iter wi) (ok : BlkOk X.N X.env.scope scope own)
    (hg : ∀ s0 H0 C0 cl fp, PG (X.blk s0 H0 scope (compEnvC scope cl C0 X.env) fp) tg g) (ht : ∀ s0 H0 C0 cl fp, PTs (X.blk s0 H0 scope (compEnvC scope cl C0 X.env) fp) ifs tt)
    (hk : ∀ s0 H0 C0 cl fp, PE (X.blk s0 H0 scope (compEnvC scope cl C0 X.env) fp) kx tk) (hv : ∀ s0 H0 C0 cl fp, PE (X.blk s0 H0 scope (compEnvC scope cl C0 X.env) fp) vx tv)
    (hs : ∀ x, foldedSetIterable iter X.env x = pure x := by intro _; rfl) : PE X (.DictComp kx vx [⟨tg, iter, ifs, 0⟩] scope pos) (tDcT wi g tt tk tv (own.map (·.2))) := by
  refine ⟨fun pins s σ H Q I h => ?_⟩
  rw [arm_eval_DictComp]
  refine dcT_core hu hc hN I hi ok hg ht hk hv hs h fun D C s' m H' I' q hn f => ⟨m, hn, fun h'' sb => ?_⟩
  obtain ⟨f0, f1, f2, f3, f4, f5⟩ := f
  exact ⟨.ref D, H', I'.turned (t' := s'.toks) (fun b o hb e => (sb.2 b hb).trans e) f0 f1 f3 f4 f5, rfl, q⟩
/-- over a list that stays -/
theorem dcT_list {K : PySem.W.Frag} {a : Addr} {xs : List V} {g : TG} {tt : TT} {tk tv : TE} {ws : List Nat} {σ : L2.St} {H1 : Hp} {D : Addr} {Qd : Hp → Prop} (Pv : Nat → Hp → Prop) (h0 : Pv 0 (upd H1 D (.dT []))) (hl : ∀ i H, i ≤ xs.length → Pv i H → SqL K H a xs)
    (hs : ∀ i x H, xs[i]? = some x → Pv i H → g x (wipe σ ws) H fun σ2 H2 => wipe σ2 ws = wipe σ ws ∧ tt σ2 H2 fun b H3 =>
      if b = true then tk σ2 H3 fun y H4 => tv σ2 H4 fun z H5 => ∃ kvs k b, y = .ref b ∧ H5 b = some (.tup (k.map kV)) ∧ H5 D = some (.dT kvs) ∧ kvs.length < sizeLine ∧ Pv (i + 1) (upd H5 D (.dT (putK kvs k z))) else Pv (i + 1) H3)
    (hd : ∀ H, Pv xs.length H → Qd H) :
    ∃ W : Nat → Nat → Hp → Prop, (∃ m, W 0 m (upd H1 D (.dT []))) ∧ ∀ i m H, W i m H →
      ((Itl K a).stop i H ∧ Qd H) ∨ ((Itl K a).go i H ∧ ∃ Nx : Hp → Prop, (∀ H', Nx H' → ∃ m', m' < m ∧ W (i + 1) m' H') ∧ ∀ x H', (Itl K a).yld i H x H' → g x (wipe σ ws) H' fun σ2 H2 => wipe σ2 ws = wipe σ ws ∧ tt σ2 H2 fun b H3 =>
        if b = true then tk σ2 H3 fun y H4 => tv σ2 H4 fun z H5 => ∃ kvs k b, y = .ref b ∧ H5 b = some (.tup (k.map kV)) ∧ H5 D = some (.dT kvs) ∧ kvs.length < sizeLine ∧ Nx (upd H5 D (.dT (putK kvs k z))) else Nx H3) := by
  refine ⟨fun i m H => m = xs.length - i ∧ i ≤ xs.length ∧ Pv i H, ⟨xs.length, by simp, Nat.zero_le _, h0⟩, fun i m H z => ?_⟩
  obtain ⟨rfl, hi, p⟩ := z
  have q := hl i H hi p
  by_cases lt : i < xs.length
  · refine .inr ⟨⟨xs, xs[i], q, by simp [lt]⟩, Pv (i + 1), fun H' p' => ⟨xs.length - (i + 1), by omega, rfl, lt, p'⟩, fun x H' y => ?_⟩
    obtain ⟨rfl, y⟩ := y
    exact hs i x _ (y xs q) p
  · have e : i = xs.length := by omega
    subst e
    exact .inl ⟨⟨xs, q, Nat.le_refl _⟩, hd H p⟩
end
end Q44
namespace Q44
open PySem PySem.Spec PyProof.Rows L2 M44 Evl
section
variable {X : Cx}
/-- t.index(z), a tuple of ints -/
def rTupI : V → List V → Hp → VK → Prop := fun x xs H Q => ∃ (p : Addr) (ns : Rw) (z : Int) (j : Nat), x = .ref p ∧ xs = [.int z] ∧ Rd H p (.tup (ns.map V.int)) ∧ ns[j]? = some z ∧ (∀ m, m < j → ns[m]? ≠ some z) ∧ Q (.int (j : Nat)) H
theorem flat_ints (ns : Rw) : (ns.map V.int).all flatV = true := by
  rw [List.all_eq_true]
  intro v hv
  obtain ⟨n, _, e⟩ := List.mem_map.mp hv
  rw [← e]
  rfl
theorem mt_tupI : MtR X "tuple.index" rTupI := by
  intro pins s σ H x xs v us Q I rx rs h
  obtain ⟨p, ns, z, j, rfl, rfl, hq, hy, hno, q⟩ := h
  cases rx
  obtain ⟨u, rfl, t, rfl⟩ := vals1 rs
  obtain ⟨its, r, pl, hz⟩ := I.tuple (.inl hq)
  obtain ⟨⟨cls, dd, dt, sl⟩, ho, hc, n, hd⟩ := pl
  simp only at hc hd
  subst hc
  subst hd
  have hl : its.toArray.size = ns.length := by rw [List.size_toArray, ← r.length, List.length_map]
  have hj : j < its.toArray.size := by rw [hl]; exact (List.getElem?_eq_some_iff.mp hy).1
  have at' : ∀ (m : Nat) (hm : m < its.toArray.size), ∃ y t', ns[m]? = some y ∧ its.toArray[m] = Value.int y t' := fun m hm => by
    have hm' : m < ns.length := by rw [← hl]; exact hm
    obtain ⟨w, hw, t', hw'⟩ := r.get (i := m) (x := .int ns[m]) (by simp [hm'])
    refine ⟨ns[m], t', List.getElem?_eq_getElem hm', ?_⟩
    have e := (List.getElem?_eq_some_iff.mp hw).2
    rw [← hw', ← e]
    simp
  refine call_meets PySem.F.slot_tuple_index ⟨_, ho, rfl⟩ PySem.F.entry_tuple_index (PySem.F.args_tuple_index_2 _ _) (TI.tuple_indexAt p its.toArray n dd sl (.int z t) (eqU (.int z)) j hj ?_ ?_)
    ⟨ho, fun w hw => mem_eqAt (x := .int z) ⟨t, rfl⟩ rfl r (flat_ints ns) w (by simpa using hw), ⟨.int (j : Nat), H, I.tok _, ⟨_, rfl⟩, q⟩⟩
  · obtain ⟨y, t', h1, h2⟩ := at' j hj
    rw [hy] at h1
    cases h1
    rw [h2]
    show (z == z) = true
    exact beq_self_eq_true z
  · intro m hm hmj
    obtain ⟨y, t', h1, h2⟩ := at' m hm
    rw [h2]
    show (y == z) = false
    exact beq_eq_false_iff_ne.mpr fun e => hno m hmj (e ▸ h1)
/-- sorted(t), t a tuple of fewer than 64 rows -/
def rSortT (K : PySem.W.Frag) : List V → Hp → VK → Prop := fun vs H Q => ∃ (a : Addr) (as : List Addr) (rs : List Rw) (d : Nat), vs = [V.ref a] ∧ SqT K H a (as.map V.ref) ∧ RowsA H as rs ∧ rs.length < 64 ∧ (∀ x ∈ rs, RowOk d x) ∧
  (2 ≤ rs.length → 1 ≤ d) ∧ SortEnd H rs Q
theorem cr_sortT : CallR X (.builtin "sorted") (rSortT X.K) := by
  intro pins s σ H xs us Q I r h
  obtain ⟨a, as, rs, d, rfl, hl, ra, h64, ok, hd, q⟩ := h
  rw [Vals.ref1 r]
  obtain ⟨its, rv, ⟨o, ho, hc, n, hdt⟩, hz⟩ := I.tuple hl
  have ei := refs_of rv
  subst ei
  have hlen : (as.map Value.ref).length = rs.length := by rw [List.length_map, ra.len]
  refine sorted_of (d := d) (PySem.wpAny_collect_seq a (.inr rfl) ho hc hdt (fun h1 k1 => ?_) (by rw [List.size_toArray, hlen, sizeLine_eq]; omega))
  have I1 : Inv X pins σ H { s with heap := h1 } := I.kept (t' := s.toks) k1
  have e : (as.map Value.ref).toArray.toList = as.map Value.ref := by simp
  rw [e]
  exact ⟨by rw [hlen]; exact h64, rowsAt_of I1 ra ok, by rw [hlen]; exact hd, fun h' out c k e p pw => sort_end I1 ra ok h64 q k e p pw⟩
end
/-! ### kinds of values -/
theorem tyx_tup {K : PySem.W.Frag} {H : Hp} {a : Addr} {xs : List V} (e : Rd H a (.tup xs)) : TyX K H (.ref a) (.type "tuple") := by
  rcases e with e | ⟨o, e⟩
  · exact .base (.tup e)
  · exact .fTuple e
inductive Kd (K : PySem.W.Frag) (C : Addr) (H : Hp) : V → String → Prop
  | non : Kd K C H .non "NoneType"
  | bl (b : Bool) : Kd K C H (.bl b) "bool"
  | int (i : Int) : Kd K C H (.int i) "int"
  | str (x : Str) : Kd K C H (.str x) "str"
  | lst {a : Addr} {xs : List V} (e : H a = some (.lst xs)) : Kd K C H (.ref a) "list"
  | tup {a : Addr} {xs : List V} (e : Rd H a (.tup xs)) : Kd K C H (.ref a) "tuple"
  | dT {a : Addr} {kvs : List (List Key × V)} (e : H a = some (.dT kvs)) : Kd K C H (.ref a) "dict"
  | dK {a : Addr} {kvs : List (Key × V)} (e : H a = some (.dK kvs)) : Kd K C H (.ref a) "dict"
  | tab {a dx : Addr} {vs : List (Option V)} (e : SlX.Slt H a C dx vs) : Kd K C H (.ref a) "Table"
/-- what of the text isinstance needs -/
structure TIs (K : PySem.W.Frag) (C : Addr) : Prop where
  sc : SlX.SCls K C
  si : SlX.SIsi K C
  own : PySem.W.kitOne K (.ref C) (.ref C) = some true
  tupC : PySem.W.kitOne K (.type "tuple") (.ref C) = some false
  ownT : PySem.W.kitOne K (.ref C) (.type "tuple") = some false
def clsV (C : Addr) : String → V
  | "Table" => .ref C
  | n => .ty n
def isB (k c : String) : Bool := k == c || (k == "bool" && c == "int")
def rKd (K : PySem.W.Frag) (C : Addr) (c : String) : List V → Hp → VK → Prop := fun xs H Q => ∃ (x : V) (k : String), xs = [x, clsV C c] ∧ Kd K C H x k ∧ Q (.bl (isB k c)) H
section
variable {X : Cx} {C : Addr}
theorem call_kdT (T : TIs X.K C) : CallR X (.builtin "isinstance") (rKd X.K C "tuple") := by
  have z := CallR.or (X := X) call_isi (SlX.call_isiSl (.type "tuple"))
  intro pins s σ H xs us Q I r h
  refine z pins s σ H xs us Q I r ?_
  obtain ⟨x, k, rfl, kd, q⟩ := h
  cases kd with
  | non => exact .inl ⟨_, _, _, _, false, rfl, .ty "tuple", .base .non, kit_ty (by decide +kernel), q⟩
  | bl b => exact .inl ⟨_, _, _, _, false, rfl, .ty "tuple", .base (.bl b), kit_ty (by decide +kernel), q⟩
  | int b => exact .inl ⟨_, _, _, _, false, rfl, .ty "tuple", .base (.int b), kit_ty (by decide +kernel), q⟩
  | str b => exact .inl ⟨_, _, _, _, false, rfl, .ty "tuple", .base (.str b), kit_ty (by decide +kernel), q⟩
  | lst e => exact .inl ⟨_, _, _, _, false, rfl, .ty "tuple", .base (.lst e), kit_ty (by decide +kernel), q⟩
  | tup e => exact .inl ⟨_, _, _, _, true, rfl, .ty "tuple", tyx_tup e, kit_ty (by decide +kernel), q⟩
  | dT e => exact .inl ⟨_, _, _, _, false, rfl, .ty "tuple", .base (.dT e), kit_ty (by decide +kernel), q⟩
  | dK e => exact .inl ⟨_, _, _, _, false, rfl, .ty "tuple", .base (.dK e), kit_ty (by decide +kernel), q⟩
  | tab e => exact .inr ⟨_, C, _, _, _, false, rfl, rfl, fun _ z => z, e, T.sc, T.si, T.ownT, q⟩
theorem call_kdC (T : TIs X.K C) : CallR X (.builtin "isinstance") (fun xs H Q => ∃ (x : V) (k : String), xs = [x, clsV C "Table"] ∧ Kd X.K C H x k ∧ (k = "tuple" ∨ k = "Table") ∧ Q (.bl (isB k "Table")) H) := by
  have z := CallR.or (X := X) call_isi (SlX.call_isiSl (.ref C))
  intro pins s σ H xs us Q I r h
  refine z pins s σ H xs us Q I r ?_
  obtain ⟨x, k, rfl, kd, hk, q⟩ := h
  cases kd with
  | tup e => exact .inl ⟨_, _, _, _, false, rfl, .own C, tyx_tup e, T.tupC, q⟩
  | tab e => exact .inr ⟨_, C, _, _, _, true, rfl, rfl, fun _ z => z, e, T.sc, T.si, T.own, q⟩
  | _ => exact absurd hk (by decide)
def intlike : String → Bool
  | "int" => true
  | "bool" => true
  | _ => false
theorem call_kdI : CallR X (.builtin "isinstance") (fun xs H Q => ∃ (x : V) (k : String), xs = [x, clsV C "int"] ∧ Kd X.K C H x k ∧ intlike k = true ∧ Q (.bl (isB k "int")) H) := by
  intro pins s σ H xs us Q I r h
  refine call_isi pins s σ H xs us Q I r ?_
  obtain ⟨x, k, rfl, kd, hk, q⟩ := h
  cases kd with
  | bl b => exact ⟨_, _, _, _, true, rfl, .ty "int", .base (.bl b), kit_ty (by decide +kernel), q⟩
  | int b => exact ⟨_, _, _, _, true, rfl, .ty "int", .base (.int b), kit_ty (by decide +kernel), q⟩
  | _ => exact absurd hk (by decide)
theorem call_kdB : CallR X (.builtin "isinstance") (fun xs H Q => ∃ (x : V) (k : String), xs = [x, clsV C "bool"] ∧ Kd X.K C H x k ∧ intlike k = true ∧ Q (.bl (isB k "bool")) H) := by
  intro pins s σ H xs us Q I r h
  refine call_isi pins s σ H xs us Q I r ?_
  obtain ⟨x, k, rfl, kd, hk, q⟩ := h
  cases kd with
  | bl b => exact ⟨_, _, _, _, true, rfl, .ty "bool", .base (.bl b), kit_ty (by decide +kernel), q⟩
  | int b => exact ⟨_, _, _, _, false, rfl, .ty "bool", .base (.int b), kit_ty (by decide +kernel), q⟩
  | _ => exact absurd hk (by decide)
end
/-! ### tuples whose object is known to have no dict of its own: they may be asked for a method -/
section
variable {X : Cx} {es : List Expr} {e o : Expr} {t : TA} {pos apos cpos : Pos} {to : TE}
/-- (a, b, ..) -/
def tTupF (t : TA) : TE := fun σ H Q => t σ H fun xs H1 => xs.length ≤ sizeLine ∧ ∀ p ob, H1 p = none → ob.dict = none → Q (.ref p) (upd H1 p (.frz ob (.tup xs)))
theorem lay_frz {pins : List (Addr × Obj)} {σ : L2.St} {H : Hp} {s : Shared} {h' : Heap} {t' : Nat} {a : Addr} {ob : Obj} {xs : List V} {us : List Value} (I : Inv X pins σ H s) (k : ∀ b u, s.heap.get? b = some u → h'.get? b = some u) (hp : s.heap.objs.size ≤ a)
    (z : xs.length ≤ sizeLine) (r : Vals xs us) (ho : h'.get? a = some ob) (ht : IsTup h' a us.toArray) : Inv X pins σ (upd H a (.frz ob (.tup xs))) { s with heap := h', toks := t' } := I.laid k hp ⟨ho, z, us, r, ht⟩
theorem pe_tupF {x1} (h : PA X es t) : PE X (.Tuple es x1 pos) (tTupF t) := by
  refine ⟨fun pins s σ H Q I hq => ?_⟩
  refine wpAny_Tuple_spliced (thn (h.run pos pins s σ H _ I hq) fun us s1 y => ?_)
  obtain ⟨xs, H1, I1, r, z, q⟩ := y
  refine ⟨by rw [← r.length]; exact z, ?_⟩
  have hf : H1 s1.heap.objs.size = none := I1.hok.fresh (Nat.le_refl _)
  exact ⟨.ref s1.heap.objs.size, _, lay_frz (t' := s1.toks) I1 (fun b u e => Heap.get?_push_of_some _ e) (Nat.le_refl _) z r (Heap.get?_push_size _ rfl) ⟨_, Heap.get?_push_size _ rfl, rfl, _, rfl⟩, rfl, q _ _ hf rfl⟩
/-- tuple(xs), xs a list -/
def rTupF : List V → Hp → VK → Prop := fun xs H Q => ∃ p ys, xs = [V.ref p] ∧ H p = some (.lst ys) ∧ ∀ l ob, H l = none → ob.dict = none → Q (.ref l) (upd H l (.frz ob (.tup ys)))
theorem call_tupF : CallR X (.type "tuple") rTupF := by
  intro pins s σ H xs us Q I r h
  obtain ⟨p, ys, rfl, hq, q⟩ := h
  obtain ⟨u, rfl, rx⟩ := vals1 r
  cases rx
  obtain ⟨its, r', pl, hz⟩ := I.list (.inl (.inl hq))
  have hlen := r'.length
  refine call_tuple_list pl.isList (fun h' kp => ?_) (by simp only [List.size_toArray] <;> omega)
  have I1 : Inv X pins σ H { s with heap := h' } := I.kept (t' := s.toks) kp
  have I2 := lay_frz (h' := h'.push { cls := .type "tuple", data := .seq its.toArray }) (t' := s.toks) (xs := ys) (us := its) I1 (fun b u e => Heap.get?_push_of_some _ e) (Nat.le_refl _) hz r' (Heap.get?_push_size _ rfl) ⟨_, Heap.get?_push_size _ rfl, rfl, _, rfl⟩
  exact ⟨.ref h'.objs.size, _, I2, rfl, q _ _ (I1.hok.fresh (Nat.le_refl _)) rfl⟩
/-- t.m(..) of such a tuple -/
def tBMT (r : V → List V → Hp → VK → Prop) (to : TE) (t : TA) : TE := fun σ H Q => to σ H fun x H1 => (∃ p ob xs, x = .ref p ∧ H1 p = some (.frz ob (.tup xs)) ∧ ob.dict = none) ∧ t σ H1 fun xs H2 => r x xs H2 Q
theorem pe_bmT {name : Str} {id : String} {r : V → List V → Hp → VK → Prop} (pa : PlainAttrs "tuple") (slot : Slot "tuple" name id) (hty : typeOf (.builtin id) = pure (.type "method_descriptor")) (hm : MtR X id r) (ho : PE X o to) (ha : PA X (e :: es) t)
    (hbase : attributeBase o name X.env (eval o X.env) = eval o X.env := by rfl)
    (hfew : ((backTo cpos (starEach (e :: es) X.env)).all (fun x => !x.1) && (backToKw cpos (keywordEach [] X.env)).all (fun x => x.1.isSome)
      && decide ((e :: es).length + ([] : List Keyword).length + (if ([] : List Keyword).isEmpty then 0 else 1) < 30)) = true := by rfl)
    (hline : (apos.endLine == cpos.line) = true := by rfl) (hs : starEach (e :: es) X.env = (false, eval e X.env) :: starEach es X.env := by rfl) (hplain : (backTo cpos (starEach es X.env)).any (·.1) = false := by rfl) :
    PE X (.Call (.Attribute o name apos) (e :: es) [] cpos) (tBMT r to t) := by
  refine ⟨fun pins s σ H Q I h => ?_⟩
  refine wpAny_Call_method_late hbase hfew hline rfl (thn (ho.run pins s σ H _ I h) fun v s1 y => ?_)
  obtain ⟨x, H1, I1, r1, ⟨p, ob, xs, ex, hp, hd⟩, q1⟩ := y
  subst ex
  cases (show v = Value.ref p from r1)
  obtain ⟨h1, _, us, _, h2⟩ := (show ObjOk X.prog X.w H1 s1.heap p (.frz ob (.tup xs)) from I1.hok p _ hp)
  refine ⟨"tuple", id, pa, slot, hty, h2.typeIs, fun a ea => by cases ea; exact ⟨ob, h1, hd⟩, ?_⟩
  have hA := ha.run cpos pins s1 σ H1 _ I1 q1
  rw [hs] at hA ⊢
  refine Calls.callWith_builtin (by show (false || (backTo cpos (starEach es X.env)).any (·.1)) = false; rw [hplain] <;> rfl) (Calls.evalArgs_plain ?_)
  refine thn hA fun us s2 z => ?_
  obtain ⟨vs, H2, I2, r2, q2⟩ := z
  exact hm pins s2 σ H2 (.ref p) vs _ us Q I2 rfl r2 q2
/-- t[lo:hi] of such a tuple is such a tuple -/
def rSlF : V → Option Int → Option Int → Hp → VK → Prop := fun x lo hi H Q => ∃ a ob xs, x = .ref a ∧ H a = some (.frz ob (.tup xs)) ∧
  (HT.sIx xs.length 0 lo = 0 ∧ HT.sIx xs.length xs.length hi = xs.length → Q (.ref a) H) ∧ (¬ (HT.sIx xs.length 0 lo = 0 ∧ HT.sIx xs.length xs.length hi = xs.length) → ∀ p o2, H p = none → o2.dict = none → Q (.ref p) (upd H p (.frz o2 (.tup (cutV xs lo hi)))))
theorem sl_tupF : SlR X rSlF := by
  intro pins s σ H x v vl vu lo hi sl Q I rx hs pl pu h
  obtain ⟨a, ob, xs, rfl, hx, q1, q2⟩ := h
  cases rx
  obtain ⟨its, r, ht, hz⟩ := I.tuple (.inl (.inr ⟨ob, hx⟩))
  have hlen : its.toArray.size = xs.length := by rw [List.size_toArray]; exact r.length.symm
  refine ⟨"tuple", _, PyProof.Rows.slot_tuple_getitem.lookup, ht.typeIs, ?_⟩
  by_cases hw : HT.sIx xs.length 0 lo = 0 ∧ HT.sIx xs.length xs.length hi = xs.length
  · exact getItem_tuple_whole ht hs pl pu (by rw [hlen]; exact hw) ⟨.ref a, H, I, rfl, q1 hw⟩
  · refine HT.getItem_tuple_cut ht hs pl pu (by rw [hlen]; exact hw) ?_ (by rw [hlen]; exact hz)
    rw [hlen]
    refine ⟨.ref s.heap.objs.size, _, lay_frz (t' := s.toks) I (fun b ob q => Heap.get?_push_of_some _ q) (Nat.le_refl _) (Nat.le_trans (cutV_length xs lo hi) hz) ((r.drop (HT.sIx xs.length 0 lo)).take (HT.sIx xs.length xs.length hi - HT.sIx xs.length 0 lo)) (Heap.get?_push_size _ rfl) (IsTup.new _ _), rfl, q2 hw _ _ (I.hok.fresh (Nat.le_refl _)) rfl⟩
end
/-! ### a def of the module as it is called -/
structure Df (P : Program) (w : World) (K : PySem.W.Frag) (mg : Str → Option Value) (base : Heap) (x : Str) (f : Addr) (k : Nat) (sp : Sp) : Prop where
  F : FnR P w K mg base CX0 k f sp
  at_ : mg x = some (.ref f)
  kp : PySem.W.keepIn K (.ref f) = true
section
variable {X : Cx} {e : Expr} {es : List Expr} {t : TA} {x : Str} {p pos : Pos} {f : Addr} {k k' : Nat} {sp : Sp}
theorem pe_d (D : Df X.prog X.w X.K X.mg X.base x f k sp) (hr : Room k' X.A) (hk : k ≤ k') (ha : PA X (e :: es) t) (hg : Gl X x := by rfl) (hd : (x == ("__debug__" : Str)) = false := by decide)
    (he : starEach (e :: es) X.env = (false, eval e X.env) :: starEach es X.env := by rfl) (hpl : (backTo pos (starEach es X.env)).any (·.1) = false := by rfl) : PE X (.Call (.Name x p) (e :: es) [] pos) (tDef sp E0 t) :=
  pe_def D.F (hr.mono hk) D.at_ D.kp ha hg hd he hpl
end
end Q44
namespace Q44
open PySem PySem.Spec PyProof.Rows L2 M44 Evl
/-! the text by places -/
def top (i : Nat) : Stmt := PySem.Challenge.pw_crestjoin_k44_whole_pieces_judged.main.body.getD i (.Pass ⟨0, 0, 0, 0⟩)
/-! what of the module every def may lean on -/
structure Tx (K : PySem.W.Frag) (mg : Str → Option Value) (C : Addr) : Prop where
  is : TIs K C
  mC : mg "Table" = some (.ref C)
  sl0 : ∃ p, SlX.Slot1 K C "own_lot" p 0
  sl1 : ∃ p, SlX.Slot1 K C "own_rows" p 1
  sl2 : ∃ p, SlX.Slot1 K C "own_there" p 2
  sl3 : ∃ p, SlX.Slot1 K C "own_told" p 3
  nf : PySem.W.notFirst K C (.ref C) = true
  LETTERS : ∃ t, mg "LETTERS" = some (.int 6 t)
  MOST_ROWS : ∃ t, mg "MOST_ROWS" = some (.int 1000 t)
  BOUND : ∃ t, mg "BOUND" = some (.int 1000000000 t)
  MOST_POWER : ∃ t, mg "MOST_POWER" = some (.int 20 t)
  MOST_PIECES : ∃ t, mg "MOST_PIECES" = some (.int 50 t)
  PAIR : ∃ t, mg "PAIR" = some (.int 2 t)
  len : mg "len" = none
  isinstance : mg "isinstance" = none
  all : mg "all" = none
  zip : mg "zip" = none
  range : mg "range" = none
  sorted : mg "sorted" = none
  max : mg "max" = none
  min : mg "min" = none
  abs : mg "abs" = none
  m_tuple : mg "tuple" = none
  list : mg "list" = none
  m_list : mg "list" = none
  m_int : mg "int" = none
  m_bool : mg "bool" = none
  m_set : mg "set" = none
  m_str : mg "str" = none
theorem pe_gi {X : Cx} {x : Str} {i : Int} {pos : Pos} (hg : Gl X x) (hm : ∃ t, X.mg x = some (.int i t)) (hd : (x == ("__debug__" : Str)) = false := by decide) : PE X (.Name x pos) (tC (.int i)) := by
  obtain ⟨t, h⟩ := hm
  exact pe_glob (v := .int i) hg h ⟨_, rfl⟩ hd
section
variable (P : Program) (w : World) (K : PySem.W.Frag) (mg : Str → Option Value) (base : Heap)
/-- making a Table -/
structure MkD (C f : Addr) (k : Nat) (sp : Sp) : Prop where
  M : Mk K C f
  F : FnR P w K mg base CX0 k f sp
/-- a method -/
structure MeD (C : Addr) (m : Str) (f : Addr) (k : Nat) (sp : Sp) : Prop where
  m : Meth K C m f
  F : FnR P w K mg base CX0 k f sp
/-- a property -/
structure PrD (C : Addr) (m : Str) (p g : Addr) (k : Nat) (sp : Sp) : Prop where
  at_ : PySem.W.findIn K (.ref C) m = some (some (.ref p))
  get : PySem.W.specialIn K (.ref p) "__get__" = some (some (.builtin "property.__get__"))
  tk : PySem.W.takesIn K (.ref p) = some true
  rc : ∃ rest, PySem.W.recIn K p "property" = some (.ref g :: rest)
  F : FnR P w K mg base CX0 k g sp
/-- a special method -/
structure OwD (C : Addr) (m : Str) (g : Addr) (k : Nat) (sp : Sp) : Prop where
  hs : PySem.W.findIn K (.ref C) m = some (some (.ref g))
  hf : PySem.W.isFn K (.ref g) = true
  F : FnR P w K mg base CX0 k g sp
end
/-! promises by their arguments -/
def sp1 (r : V → Hp → VK → Prop) : Sp := fun vs H Q _ => ∃ a, vs = [a] ∧ r a H Q
def sp2 (r : V → V → Hp → VK → Prop) : Sp := fun vs H Q _ => ∃ a b, vs = [a, b] ∧ r a b H Q
def sp3 (r : V → V → V → Hp → VK → Prop) : Sp := fun vs H Q _ => ∃ a b c, vs = [a, b, c] ∧ r a b c H Q
def sp4 (r : V → V → V → V → Hp → VK → Prop) : Sp := fun vs H Q _ => ∃ a b c d, vs = [a, b, c, d] ∧ r a b c d H Q
def sp5 (r : V → V → V → V → V → Hp → VK → Prop) : Sp := fun vs H Q _ => ∃ a b c d e, vs = [a, b, c, d, e] ∧ r a b c d e H Q
section
variable {vs : List V} {H : Hp} {Q : VK} {E : XK}
theorem len_sp1 {r} (h : sp1 r vs H Q E) : vs.length = 1 := by obtain ⟨_, rfl, _⟩ := h; rfl
theorem len_sp2 {r} (h : sp2 r vs H Q E) : vs.length = 2 := by obtain ⟨_, _, rfl, _⟩ := h; rfl
theorem len_sp3 {r} (h : sp3 r vs H Q E) : vs.length = 3 := by obtain ⟨_, _, _, rfl, _⟩ := h; rfl
theorem len_sp4 {r} (h : sp4 r vs H Q E) : vs.length = 4 := by obtain ⟨_, _, _, _, rfl, _⟩ := h; rfl
theorem len_sp5 {r} (h : sp5 r vs H Q E) : vs.length = 5 := by obtain ⟨_, _, _, _, _, rfl, _⟩ := h; rfl
end
end Q44
/-! the rules once more, the text's part named K (so that they fit within a comprehension's block) -/
namespace Q44
open PySem PySem.Spec PyProof.Rows L2 M44 Evl
section
variable {X : Cx} {K : PySem.W.Frag} {C : Addr} {e o : Expr} {es : List Expr} {f : Str} {pos p apos cpos p2 p3 : Pos} {te ta td : TE} {t : TA} {tg : Expr} {ts : TGs}
theorem k_in (hK : X.K = K) : OpR X (compareOp .In) (rIn K false) := by subst hK; exact op_in_seq
theorem k_ixT (hK : X.K = K) : IxR X (rIxT K) := by subst hK; exact ix_tup
theorem k_ixL (hK : X.K = K) : IxR X (rIxL K) := by subst hK; exact ix_list
theorem k_sl (hK : X.K = K) (he : PE X e ta) (hb : attributeBase e f X.env (eval e X.env) = eval e X.env := by rfl) : PE X (.Attribute e f pos) (SlX.tSl K ta f) := by subst hK; exact SlX.pe_sl he hb
theorem k_len (hK : X.K = K) : CallR X (.builtin "len") (rLenS K) := by subst hK; exact call_len_seq
theorem k_list (hK : X.K = K) : CallR X (.type "list") (rListS K) := by subst hK; exact call_list_of
def rTupS (K : PySem.W.Frag) : List V → Hp → VK → Prop := fun xs H Q => ∃ p ys, xs = [V.ref p] ∧ ((SqL K H p ys ∧ ∀ l, H l = none → Q (.ref l) (upd H l (.tup ys))) ∨ (SqT K H p ys ∧ Q (.ref p) H))
theorem k_tuple (hK : X.K = K) : CallR X (.type "tuple") (rTupS K) := by subst hK; exact call_tuple_of
theorem k_all (hK : X.K = K) (hc : X.calm = true := by rfl) : CallR X (.builtin "all") (rAll K) := by subst hK; exact cr_all hc
theorem k_max (hK : X.K = K) (hc : X.calm = true := by rfl) : CallR X (.builtin "max") (rMax K) := by subst hK; exact cr_max hc
theorem k_sorted (hK : X.K = K) : CallR X (.builtin "sorted") (rSorted K) := by subst hK; exact cr_sorted
theorem k_sortL (hK : X.K = K) : CallR X (.builtin "sorted") (rSortL K) := by subst hK; exact cr_sortL
def rSortLT (K : PySem.W.Frag) : List V → Hp → VK → Prop := fun xs H Q => rSortL K xs H Q ∨ rSortT K xs H Q
theorem k_sortLT (hK : X.K = K) : CallR X (.builtin "sorted") (rSortLT K) := by subst hK; exact cr_sortL.or cr_sortT
theorem k_eqD (hK : X.K = K) (hu : X.A.units + 64 < cLine) : OpR X (compareOp .Eq) (rEqD K) := by subst hK; exact op_eqD hu
theorem k_neD (hK : X.K = K) (hu : X.A.units + 64 < cLine) : OpR X (compareOp .NotEq) (rNeD K) := by subst hK; exact op_neD hu
/-- t != (), whatever t holds -/
def rNeNil : R2 := fun x y H Q => ∃ (a b : Addr) (xs : List V), x = .ref a ∧ y = .ref b ∧ H a = some (.tup xs) ∧ H b = some (.tup []) ∧ Q (.bl (!xs.isEmpty)) H
theorem op_neNil (hu : X.A.units < cLine) : OpR X (compareOp .NotEq) rNeNil := by
  intro pins s σ H x y v u Q I rx ry h
  obtain ⟨a, b, xs, rfl, rfl, ha, hb, q⟩ := h
  cases rx
  cases ry
  obtain ⟨its, r1, p1, _⟩ := I.tuple (SqT.of ha)
  obtain ⟨its2, r2, p2, _⟩ := I.tuple (SqT.of hb)
  cases r2
  refine SeqAt.RcNeAt.tuples (e := fun _ => true) p1 p2 hu (fun j h1 h2 => absurd h2 (by simp)) X.prog X.w X.xe _ ⟨.bl (!xs.isEmpty), H, I, ?_, q⟩
  show Value.bool _ = Value.bool _
  cases r1 with
  | nil => rfl
  | cons _ _ => simp
theorem k_slT (hK : X.K = K) : SlR X (rSlA K) := by subst hK; exact sl_tupA
theorem k_slL (hK : X.K = K) : SlR X (rSlL K) := by subst hK; exact sl_list
theorem k_catT (hK : X.K = K) : OpR X (binaryOp .Add) (rCatA K) := by subst hK; exact op_catA
theorem k_rev {k : Nat} (hK : X.K = K) (he : PE X e te) : PE X (.Subscript e (.Slice none none (some (.UnaryOp .USub (.Constant (.int 1) k p) p2)) p3) pos) (tRevT K te) := by subst hK; exact pe_revT he
theorem k_bm {name : Str} {T id : String} {r : V → List V → Hp → VK → Prop} (hK : X.K = K) (pa : PlainAttrs T) (slot : Slot T name id) (hty : typeOf (.builtin id) = pure (.type "method_descriptor")) (hm : MtR X id r) (ho : PE X o te) (ha : PA X (e :: es) t)
    (hbase : attributeBase o name X.env (eval o X.env) = eval o X.env := by rfl)
    (hfew : ((backTo cpos (starEach (e :: es) X.env)).all (fun x => !x.1) && (backToKw cpos (keywordEach [] X.env)).all (fun x => x.1.isSome)
      && decide ((e :: es).length + ([] : List Keyword).length + (if ([] : List Keyword).isEmpty then 0 else 1) < 30)) = true := by rfl)
    (hline : (apos.endLine == cpos.line) = true := by rfl) (hs : starEach (e :: es) X.env = (false, eval e X.env) :: starEach es X.env := by rfl) (hplain : (backTo cpos (starEach es X.env)).any (·.1) = false := by rfl) :
    PE X (.Call (.Attribute o name apos) (e :: es) [] cpos) (tBM K T r te t) := by subst hK; exact pe_bm pa slot hty hm ho ha hbase hfew hline hs hplain
def rIsT (K : PySem.W.Frag) (C : Addr) : List V → Hp → VK → Prop := fun xs H Q => ∃ (x : V) (k : String), xs = [x, .ty "tuple"] ∧ Kd K C H x k ∧ Q (.bl (isB k "tuple")) H
theorem k_isT (hK : X.K = K) (T : TIs K C) : CallR X (.builtin "isinstance") (rIsT K C) := by subst hK; exact call_kdT T
def rIsC (K : PySem.W.Frag) (C : Addr) : List V → Hp → VK → Prop := fun xs H Q => ∃ (x : V) (k : String), xs = [x, .ref C] ∧ Kd K C H x k ∧ (k = "tuple" ∨ k = "Table") ∧ Q (.bl (isB k "Table")) H
theorem k_isC (hK : X.K = K) (T : TIs K C) : CallR X (.builtin "isinstance") (rIsC K C) := by subst hK; exact call_kdC T
def rIsI (K : PySem.W.Frag) (C : Addr) : List V → Hp → VK → Prop := fun xs H Q => ∃ (x : V) (k : String), xs = [x, .ty "int"] ∧ Kd K C H x k ∧ intlike k = true ∧ Q (.bl (isB k "int")) H
theorem k_isI (hK : X.K = K) (T : TIs K C) : CallR X (.builtin "isinstance") (rIsI K C) := by subst hK; exact call_kdI
def rIsB (K : PySem.W.Frag) (C : Addr) : List V → Hp → VK → Prop := fun xs H Q => ∃ (x : V) (k : String), xs = [x, .ty "bool"] ∧ Kd K C H x k ∧ intlike k = true ∧ Q (.bl (isB k "bool")) H
theorem k_isB (hK : X.K = K) (T : TIs K C) : CallR X (.builtin "isinstance") (rIsB K C) := by subst hK; exact call_kdB
theorem k_join (hK : X.K = K) (ho : PE X o ta) (he : PE X e te) (hs : starEach [e] X.env = [(false, eval e X.env)] := by rfl) (hbase : attributeBase o "join" X.env (eval o X.env) = eval o X.env := by rfl) (hline : (apos.endLine == pos.line) = true := by rfl) :
    PE X (.Call (.Attribute o "join" apos) [e] [] pos) (tM1 (fun x xs H Q => ∃ a p, ∃ ys : List Str, x = .str a ∧ xs = [.ref p] ∧ (SqL K H p (ys.map V.str) ∨ SqT K H p (ys.map V.str)) ∧
      (ys.map (·.length)).sum + ys.length * a.length ≤ 16777216 ∧ Q (.str (Txt.join a ys)) H) ta te) := by subst hK; exact pe_join ho he hs hbase hline
theorem k_pil (hK : X.K = K) (he : PE X e te) : PI X tg e (iList K te) := by subst hK; exact pi_list he
theorem k_pit (hK : X.K = K) (he : PE X e te) : PI X tg e (iTup K te) := by subst hK; exact pi_tup he
theorem k_zip {e2 : Expr} {elts : List Expr} {kk : Nat} {tpos : Pos} (hK : X.K = K) (hg : Gl X "zip") (hm : X.mg "zip" = none) (ha : PA X [e, e2] t)
    (hs : starEach [e, e2] X.env = (false, eval e X.env) :: starEach [e2] X.env := by rfl) (hpl : (backTo pos (starEach [e2] X.env)).any (·.1) = false := by rfl) : PI X (.Tuple elts kk tpos) (.Call (.Name "zip" p) [e, e2] [] pos) (RZ.iZipA K t) := by
  subst hK; exact RZ.pi_zipA hg hm ha hs hpl
theorem k_gt {ns : List Expr} {k n : Nat} (hK : X.K = K) (hc : X.calm = true) (h : PGs X ns ts)
    (hn : (assignEach ns X.env).length = n := by rfl) (hst : (assignEach ns X.env).findIdx? (·.1) = none := by rfl) : PG X (.Tuple ns k pos) (gTup K n ts) := by subst hK; exact pg_tup hc h hn hst
theorem k_gsl (hK : X.K = K) (ha : PE X o ta) : PG X (.Attribute o f pos) (gSl K ta f) := by subst hK; exact pg_sl ha
theorem k_ssl {value : Expr} {pos' : Pos} {tv : TE} (hK : X.K = K) (ha : PE X o ta) (hv : PE X value tv) (hs : swapsWith value (some (.Attribute o f pos')) pos.line X.env = pure false := by rfl) : PS X (.Assign [.Attribute o f pos'] value pos) (SlX.sSl K ta tv f) := by
  subst hK; exact SlX.ps_sl ha hv hs
def tOwnR (K : PySem.W.Frag) (C : Addr) (sp : Sp) (E : XK) : R2 := SlX.rOwn K C sp E
end
section
variable {X : Cx} {C f p g : Addr} {k n : Nat} {sp : Sp} {e o : Expr} {es : List Expr} {m x : Str} {pos p1 apos : Pos} {ta : TE} {t : TA}
theorem k_prop (D : PrD X.prog X.w X.K X.mg X.base C m p g k sp) (c : SlX.SCls X.K C) (hr : Room n X.A) (hn : k + 1 ≤ n) (he : PE X e ta) (hb : attributeBase e m X.env (eval e X.env) = eval e X.env := by rfl) : PE X (.Attribute e m pos) (SlX.tPropSl C sp E0 ta) :=
  SlX.pe_propSl he c D.at_ D.get D.tk D.rc D.F (hr.mono hn) (fun _ _ _ _ h => h) hb
theorem k_mk (D : MkD X.prog X.w X.K X.mg X.base C f k sp) (hr : Room n X.A) (hn : k + 1 ≤ n) (hm : X.mg x = some (.ref C)) (ha : PA X (e :: es) t) (hg : Gl X x := by rfl) (hdb : (x == ("__debug__" : Str)) = false := by decide)
    (he : starEach (e :: es) X.env = (false, eval e X.env) :: starEach es X.env := by rfl) (hpl : (backTo pos (starEach es X.env)).any (·.1) = false := by rfl) : PE X (.Call (.Name x p1) (e :: es) [] pos) (StX.tMakeR C sp E0 t) :=
  StX.pe_makeR D.M D.F (hr.mono hn) hg hm pass0 ha hdb he hpl
theorem k_meth {pl : Sem Bool} (D : MeD X.prog X.w X.K X.mg X.base C m f k sp) (c : SlX.SCls X.K C) (hr : Room n X.A) (hn : k ≤ n) (ho : PE X o ta) (ha : PA X (e :: es) t)
    (hst : starEach (e :: es) X.env = (false, eval e X.env) :: starEach es X.env := by rfl) (hpl : (backTo pos (starEach es X.env)).any (·.1) = false := by rfl)
    (ht : eval (.Call (.Attribute o m apos) (e :: es) [] pos) X.env = (do
      let ov ← eval o X.env
      standAt apos.atName
      let (f, first) ← holding [ov] (getMethod ov m pl)
      callWith pos f first (backTo pos (starEach (e :: es) X.env)) (backToKw pos (keywordEach [] X.env))) := by rfl) : PE X (.Call (.Attribute o m apos) (e :: es) [] pos) (SlX.tMethSl C sp E0 ta t) :=
  SlX.pe_methSl ho c D.m D.F (hr.mono hn) pass0 ha hst hpl ht
theorem k_lenO (D : OwD X.prog X.w X.K X.mg X.base C "__len__" g k sp) (hr : Room n X.A) (hn : k + 1 ≤ n) : CallR X (.builtin "len") (rLenOwn C sp) := call_lenOwn D.hs D.hf D.F (hr.mono hn)
theorem k_ownEq {K : PySem.W.Frag} (hK : X.K = K) (D : OwD X.prog X.w X.K X.mg X.base C "__eq__" g k sp) (hr : Room n X.A) (hn : k ≤ n) : OpR X (compareOp .Eq) (SlX.rOwn K C sp E0) := by
  subst hK
  exact SlX.op_own (fun _ _ => rfl) D.hs D.hf D.F (hr.mono hn) pass0
end
end Q44
namespace Q44
open PySem PySem.Spec PyProof.Rows L2 M44 Evl
def partOf (lot low r : Rw) : Rw := low.map fun x => r.getD (lot.idxOf x) 0
def ins (acc : List Rw) (p : Rw) : List Rw := if p ∈ acc then acc else acc ++ [p]
def dist (l : List Rw) : List Rw := l.foldl ins []
theorem dist_snoc (l : List Rw) (p : Rw) : dist (l ++ [p]) = ins (dist l) p := by
  unfold dist
  rw [List.foldl_append]
  rfl
theorem mem_ins {acc : List Rw} {p q : Rw} : q ∈ ins acc p ↔ q ∈ acc ∨ q = p := by
  unfold ins
  by_cases h : p ∈ acc
  · rw [if_pos h]
    constructor
    · exact Or.inl
    · rintro (x | rfl)
      · exact x
      · exact h
  · rw [if_neg h, List.mem_append, List.mem_singleton]
theorem snoc_ind {P : List Rw → Prop} (h0 : P []) (h1 : ∀ l p, P l → P (l ++ [p])) (l : List Rw) : P l := by
  have z : ∀ m : List Rw, P m.reverse := fun m => by
    induction m with
    | nil => exact h0
    | cons x m ih =>
      rw [List.reverse_cons]
      exact h1 _ _ ih
  have y := z l.reverse
  rw [List.reverse_reverse] at y
  exact y
theorem mem_dist {p : Rw} (l : List Rw) : p ∈ dist l ↔ p ∈ l := by
  refine snoc_ind (P := fun l => p ∈ dist l ↔ p ∈ l) Iff.rfl (fun l q ih => ?_) l
  rw [dist_snoc, mem_ins, ih, List.mem_append, List.mem_singleton]
theorem nodup_dist (l : List Rw) : (dist l).Nodup := by
  refine snoc_ind (P := fun l => (dist l).Nodup) List.nodup_nil (fun l q ih => ?_) l
  rw [dist_snoc]
  unfold ins
  by_cases h : q ∈ dist l
  · rw [if_pos h]
    exact ih
  · rw [if_neg h]
    rw [List.nodup_append]
    exact ⟨ih, by simp, fun a ha b hb => by
      rw [List.mem_singleton] at hb
      rw [hb]
      rintro rfl
      exact h ha⟩
theorem ins_len (acc : List Rw) (p : Rw) : (ins acc p).length ≤ acc.length + 1 := by
  unfold ins
  by_cases h : p ∈ acc
  · rw [if_pos h]
    omega
  · rw [if_neg h, List.length_append, List.length_singleton]
    omega
theorem dist_len (l : List Rw) : (dist l).length ≤ l.length := by
  refine snoc_ind (P := fun l => (dist l).length ≤ l.length) (Nat.le_refl _) (fun l q ih => ?_) l
  rw [dist_snoc, List.length_append, List.length_singleton]
  have := ins_len (dist l) q
  omega
def mk (rs : List Rw) : List Rw := dist (srt rs)
theorem mem_mk {p : Rw} {rs : List Rw} : p ∈ mk rs ↔ p ∈ rs := by
  unfold mk
  rw [mem_dist]
  exact (srt_perm rs).mem_iff
theorem mk_len (rs : List Rw) : (mk rs).length ≤ rs.length := by
  have h1 := dist_len (srt rs)
  rw [srt_len] at h1
  exact h1
def parts (lot low : Rw) (rows : List Rw) : List Rw := rows.map (partOf lot low)
def fit (lot low : Rw) (k j : Nat) (rows : List Rw) : Bool := decide ((dist (parts lot low rows)).length ≤ 2 ^ (k - j)) && (dist (parts lot low rows)).all fun p => decide ((parts lot low rows).count p ≤ 2 ^ j)
abbrev Pc := V × Rw × List Rw
def pieceB (lot low : Rw) (k : Nat) (q : Pc) : Bool := match q.1 with
  | .int i => decide (0 ≤ i ∧ i ≤ (k : Int)) && decide (q.2.1 = lot) && !q.2.2.isEmpty && fit lot low k i.toNat q.2.2
  | _ => false
def rowsP (ps : List Pc) : List Rw := ps.flatMap fun q => q.2.2
def partedB (lot low : Rw) (rows : List Rw) (k : Nat) (ps : List Pc) : Bool := decide (ps.length ≤ 2 * k + 1) && ps.all (pieceB lot low k) && decide (srt (rowsP ps) = rows)
/-! dicts keyed by rows -/
def keyR (p : Rw) : List Key := p.map Sum.inl
theorem keyR_inj {p q : Rw} (h : keyR p = keyR q) : p = q := by
  have z := congrArg (List.map (fun k : Key => match k with | .inl i => i | .inr _ => 0)) h
  unfold keyR at z
  rw [List.map_map, List.map_map] at z
  have e : ∀ l : Rw, l.map ((fun k : Key => match k with | .inl i => i | .inr _ => 0) ∘ Sum.inl) = l := fun l => List.map_id _
  rw [e, e] at z
  exact z
theorem keyR_kV (p : Rw) : (keyR p).map kV = p.map V.int := key_row p
def tab (f : Rw → V) (ks : List Rw) : List (List Key × V) := ks.map fun p => (keyR p, f p)
theorem tab_len (f : Rw → V) (ks : List Rw) : (tab f ks).length = ks.length := List.length_map _
theorem tab_keys (f : Rw → V) (ks : List Rw) : (tab f ks).map (·.1) = ks.map (fun p => p.map Sum.inl) := by
  unfold tab
  rw [List.map_map]
  rfl
theorem tab_vals (f : Rw → V) (ks : List Rw) : (tab f ks).map (·.2) = ks.map f := by
  unfold tab
  rw [List.map_map]
  rfl
theorem valV_tab (f : Rw → V) (p : Rw) : ∀ ks : List Rw, valV (tab f ks) (keyR p) = if p ∈ ks then some (f p) else none
  | [] => by rw [if_neg (by simp)]; rfl
  | q :: ks => by
    by_cases h : q = p
    · subst h
      rw [if_pos List.mem_cons_self]
      exact valV_pos rfl
    · have e := valV_neg (p := (keyR q, f q)) (r := tab f ks) (k := keyR p) (fun z => h (keyR_inj z))
      show valV ((keyR q, f q) :: tab f ks) (keyR p) = _
      rw [e, valV_tab f p ks]
      by_cases hm : p ∈ ks
      · rw [if_pos hm, if_pos (List.mem_cons_of_mem _ hm)]
      · rw [if_neg hm, if_neg]
        intro z
        rcases List.mem_cons.mp z with z | z
        · exact h z.symm
        · exact hm z
theorem putK_tab (f : Rw → V) (p : Rw) (v : V) (ks : List Rw) : putK (tab f ks) (keyR p) v = tab (fun q => if q = p then v else f q) (ins ks p) := by
  by_cases h : p ∈ ks
  · unfold putK ins
    rw [if_pos h, if_pos (by rw [valV_any, valV_tab, if_pos h]; rfl)]
    unfold tab
    rw [List.map_map]
    refine List.map_congr_left fun q hq => ?_
    show (if keyR q = keyR p then (keyR q, v) else (keyR q, f q)) = (keyR q, if q = p then v else f q)
    by_cases e : q = p
    · rw [e, if_pos rfl, if_pos rfl]
    · rw [if_neg (fun z => e (keyR_inj z)), if_neg e]
  · rw [putK_new _ (by rw [valV_tab, if_neg h])]
    unfold ins
    rw [if_neg h]
    unfold tab
    rw [List.map_append]
    congr 1
    · refine List.map_congr_left fun q hq => ?_
      show (keyR q, f q) = (keyR q, if q = p then v else f q)
      rw [if_neg]
      rintro rfl
      exact h hq
    · show [(keyR p, v)] = [(keyR p, if p = p then v else f p)]
      rw [if_pos rfl]
theorem tab_congr {f g : Rw → V} {ks : List Rw} (h : ∀ p ∈ ks, f p = g p) : tab f ks = tab g ks := List.map_congr_left fun q hq => by rw [h q hq]
end Q44
/-! readings: what evaluates to what, further ones -/
namespace Q44
open PySem PySem.Spec PyProof.Rows L2 M44 Evl
/-- all but lists stays -/
def Fz (H H' : Hp) : Prop := ∀ a o, H a = some o → (∀ xs, o ≠ .lst xs) → H' a = some o
theorem Fz.refl (H : Hp) : Fz H H := fun _ _ h _ => h
theorem Fz.trans {H H1 H2 : Hp} (a : Fz H H1) (b : Fz H1 H2) : Fz H H2 := fun x o h n => b x o (a x o h n) n
theorem fz_of {H H' : Hp} (e : Ex H H') : Fz H H' := fun a o h _ => e a o h
theorem fz_upd {H : Hp} {p : Addr} {xs : List V} {o : HO} (h : H p = some (.lst xs)) : Fz H (upd H p o) := fun a u e n => by
  have q : a ≠ p := fun z => by
    rw [z, h] at e
    exact n xs (Option.some.inj e).symm
  rw [upd_ne q]
  exact e
theorem rd_fz {H H' : Hp} {a : Addr} {xs : List V} (e : Fz H H') (h : Rd H a (.tup xs)) : Rd H' a (.tup xs) := by
  rcases h with h | ⟨o, h⟩
  · exact .inl (e _ _ h (fun _ z => nomatch z))
  · exact .inr ⟨o, e _ _ h (fun _ z => nomatch z)⟩
/-- the cup: a list of three ints -/
def Cup (H : Hp) (c : Addr) : Prop := ∃ a b n : Int, H c = some (.lst [.int a, .int b, .int n])
/-- all but the cup stays, the cup is a cup -/
def Ec (c : Addr) (H H' : Hp) : Prop := (∀ a o, a ≠ c → H a = some o → H' a = some o) ∧ Cup H' c
theorem ec_refl {c : Addr} {H : Hp} (h : Cup H c) : Ec c H H := ⟨fun _ _ _ e => e, h⟩
theorem ec_trans {c : Addr} {H H1 H2 : Hp} (a : Ec c H H1) (b : Ec c H1 H2) : Ec c H H2 := ⟨fun x o n e => b.1 x o n (a.1 x o n e), b.2⟩
theorem cup_ex {c : Addr} {H H1 : Hp} (h : Cup H c) (e : Ex H H1) : Cup H1 c := by
  obtain ⟨a, b, n, z⟩ := h
  exact ⟨a, b, n, e _ _ z⟩
theorem ec_ex {c : Addr} {H H1 : Hp} (h : Cup H c) (e : Ex H H1) : Ec c H H1 := ⟨fun a o _ z => e a o z, cup_ex h e⟩
theorem ec_fz {c : Addr} {H H1 : Hp} (h : Cup H c) (e : Ec c H H1) : Fz H H1 := fun a o z n => by
  obtain ⟨x, y, m, q⟩ := h
  refine e.1 a o (fun w => ?_) z
  rw [w, q] at z
  exact n _ (Option.some.inj z).symm
theorem ec_upd {c : Addr} {H : Hp} {a b n : Int} : Ec c H (upd H c (.lst [.int a, .int b, .int n])) := ⟨fun x o h e => by rw [upd_ne h]; exact e, a, b, n, upd_same⟩
theorem ec_fresh {c p : Addr} {H H1 : Hp} (h : Cup H c) (e : Ec c H H1) (hp : H1 p = none) : H p = none := by
  cases z : H p with
  | none => rfl
  | some o =>
    by_cases q : p = c
    · obtain ⟨a, b, n, w⟩ := e.2
      rw [q, w] at hp
      cases hp
    · rw [e.1 p o q z] at hp
      cases hp
theorem ec_ne {c p : Addr} {H : Hp} (h : Cup H c) (hp : H p = none) : p ≠ c := fun z => by
  obtain ⟨a, b, n, w⟩ := h
  rw [z, w] at hp
  cases hp
theorem ec_mut {c p : Addr} {H H1 : Hp} {o : HO} (h : Cup H c) (e : Ec c H H1) (hp : H p = none) : Ec c H (upd H1 p o) := by
  have pc := ec_ne h hp
  refine ⟨fun a u n z => ?_, ?_⟩
  · rw [upd_ne (ne_of_none z hp)]
    exact e.1 a u n z
  · obtain ⟨a, b, n, w⟩ := e.2
    exact ⟨a, b, n, by rw [upd_ne (Ne.symm pc)]; exact w⟩

/-! ### values that are only described -/
def EvP (te : TE) (σ : L2.St) (H : Hp) (P : V → Hp → Prop) : Prop := ∀ H1, Ex H H1 → ∀ Q : VK, (∀ v H2, Ex H1 H2 → P v H2 → Q v H2) → te σ H1 Q
def SpP (sp : Sp) (vs : List V) (H : Hp) (P : V → Hp → Prop) : Prop := ∀ H1, Ex H H1 → ∀ Q : VK, (∀ v H2, Ex H1 H2 → P v H2 → Q v H2) → ∀ E : XK, sp vs H1 Q E
section
variable {K : PySem.W.Frag} {C : Addr} {σ : L2.St} {H H' : Hp} {ta tb tc te : TE} {tA : TA} {t u : TT} {x y z v : V} {r r' : R2} {P : V → Hp → Prop} {sp : Sp} {E : XK} {vs : List V}
theorem EvP.mono (e : Ex H H') (h : EvP te σ H P) : EvP te σ H' P := fun H1 a Q q => h H1 (e.trans a) Q q
theorem EvP.go {Q : VK} (h : EvP te σ H P) (k : ∀ v H2, Ex H H2 → P v H2 → Q v H2) : te σ H Q := h H (Ex.refl H) Q k
theorem Ev.go {Q : VK} (h : Ev te σ H v) (k : ∀ H2, Ex H H2 → Q v H2) : te σ H Q := h H (Ex.refl H) Q k
theorem evp_of (h : Ev te σ H v) (hp : ∀ H2, Ex H H2 → P v H2) : EvP te σ H P := fun H1 e Q q => h H1 e Q fun H2 e2 => q v H2 e2 (hp H2 (e.trans e2))
theorem evp_imp {P' : V → Hp → Prop} (h : EvP te σ H P) (hp : ∀ v H2, Ex H H2 → P v H2 → P' v H2) : EvP te σ H P' := fun H1 e Q q => h H1 e Q fun v H2 e2 p => q v H2 e2 (hp v H2 (e.trans e2) p)
/-- a def's call -/
theorem ev_def (h : EvA tA σ H vs) (hs : SpV sp vs H z) : Ev (tDef sp E tA) σ H z := fun H1 e Q q => h H1 e _ fun H2 e2 => hs H2 (e.trans e2) Q (fun H3 e3 => q H3 (e2.trans e3)) E
theorem evp_def (h : EvA tA σ H vs) (hs : SpP sp vs H P) : EvP (tDef sp E tA) σ H P := fun H1 e Q q => h H1 e _ fun H2 e2 => hs H2 (e.trans e2) Q (fun w H3 e3 p => q w H3 (e2.trans e3) p) E
theorem spv1 {r : V → Hp → VK → Prop} {a : V} (h : ∀ H1, Ex H H1 → ∀ Q, RetV z H1 Q → r a H1 Q) : SpV (sp1 r) [a] H z := fun H1 e Q q _ => ⟨a, rfl, h H1 e Q q⟩
theorem spv2 {r : V → V → Hp → VK → Prop} {a b : V} (h : ∀ H1, Ex H H1 → ∀ Q, RetV z H1 Q → r a b H1 Q) : SpV (sp2 r) [a, b] H z := fun H1 e Q q _ => ⟨a, b, rfl, h H1 e Q q⟩
theorem spv3 {r : V → V → V → Hp → VK → Prop} {a b c : V} (h : ∀ H1, Ex H H1 → ∀ Q, RetV z H1 Q → r a b c H1 Q) : SpV (sp3 r) [a, b, c] H z := fun H1 e Q q _ => ⟨a, b, c, rfl, h H1 e Q q⟩
theorem spv4 {r : V → V → V → V → Hp → VK → Prop} {a b c d : V} (h : ∀ H1, Ex H H1 → ∀ Q, RetV z H1 Q → r a b c d H1 Q) : SpV (sp4 r) [a, b, c, d] H z := fun H1 e Q q _ => ⟨a, b, c, d, rfl, h H1 e Q q⟩
theorem spv5 {r : V → V → V → V → V → Hp → VK → Prop} {a b c d f : V} (h : ∀ H1, Ex H H1 → ∀ Q, RetV z H1 Q → r a b c d f H1 Q) : SpV (sp5 r) [a, b, c, d, f] H z := fun H1 e Q q _ => ⟨a, b, c, d, f, rfl, h H1 e Q q⟩
theorem spp2 {r : V → V → Hp → VK → Prop} {a b : V} (h : ∀ H1, Ex H H1 → ∀ Q : VK, (∀ v H2, Ex H1 H2 → P v H2 → Q v H2) → r a b H1 Q) : SpP (sp2 r) [a, b] H P := fun H1 e Q q _ => ⟨a, b, rfl, h H1 e Q q⟩
theorem spp3 {r : V → V → V → Hp → VK → Prop} {a b c : V} (h : ∀ H1, Ex H H1 → ∀ Q : VK, (∀ v H2, Ex H1 H2 → P v H2 → Q v H2) → r a b c H1 Q) : SpP (sp3 r) [a, b, c] H P := fun H1 e Q q _ => ⟨a, b, c, rfl, h H1 e Q q⟩
theorem ea1 (h : Ev ta σ H x) : EvA (tCons ta tNil) σ H [x] := ea_cons h ea_nil
theorem ea2 (h : Ev ta σ H x) (h2 : Ev tb σ H y) : EvA (tCons ta (tCons tb tNil)) σ H [x, y] := ea_cons h (ea_cons h2 ea_nil)
theorem ea3 (h : Ev ta σ H x) (h2 : Ev tb σ H y) (h3 : Ev tc σ H z) : EvA (tCons ta (tCons tb (tCons tc tNil))) σ H [x, y, z] := ea_cons h (ea_cons h2 (ea_cons h3 ea_nil))
/-- a < b < c -/
theorem ev_chain {b1 b2 : Bool} (ha : Ev ta σ H x) (hb : Ev tb σ H y) (hr : RV r x y H (.bl b1)) (hc : b1 = true → Ev tc σ H z) (hr2 : b1 = true → RV r' y z H (.bl b2)) : Ev (tChain r r' ta tb tc) σ H (.bl (b1 && b2)) := fun H1 e Q q =>
  ha H1 e _ fun H2 e2 => hb H2 (e.trans e2) _ fun H3 e3 => hr H3 ((e.trans e2).trans e3) _ fun H4 e4 => ⟨b1, rfl, by
    cases b1 with
    | false =>
      show Q (.bl false) H4
      exact q H4 ((e2.trans e3).trans e4)
    | true =>
      show tc σ H4 fun w' H5 => r' y w' H5 Q
      exact hc rfl H4 (((e.trans e2).trans e3).trans e4) _ fun H5 e5 => hr2 rfl H5 ((((e.trans e2).trans e3).trans e4).trans e5) Q fun H6 e6 => q H6 ((((e2.trans e3).trans e4).trans e5).trans e6)⟩
/-! kinds -/
theorem slt_mono {a dx : Addr} {ws : List (Option V)} (e : Fz H H') (h : SlX.Slt H a C dx ws) : SlX.Slt H' a C dx ws := by
  rcases h with ⟨h1, h2⟩ | ⟨h1, h2⟩
  · exact .inl ⟨e _ _ h1 (fun _ z => nomatch z), h2⟩
  · refine .inr ⟨e _ _ h1 (fun _ z => ?_), e _ _ h2 (fun _ z => nomatch z)⟩
    unfold SlX.SlO at z
    cases z
theorem kd_mono {k : String} (e : Ex H H') (h : Kd K C H x k) : Kd K C H' x k := by
  cases h with
  | non => exact .non
  | bl b => exact .bl b
  | int b => exact .int b
  | str b => exact .str b
  | lst z => exact .lst (e _ _ z)
  | tup z => exact .tup (ex_rd e z)
  | dT z => exact .dT (e _ _ z)
  | dK z => exact .dK (e _ _ z)
  | tab z => exact .tab (slt_mono (fz_of e) z)
theorem ev_isT {k : String} {b : Bool} (h : Ev ta σ H x) (hk : Kd K C H x k) (e : isB k "tuple" = b := by rfl) : Ev (tCB (rIsT K C) (tCons ta (tCons (tC (.ty "tuple")) tNil))) σ H (.bl b) := fun H1 e1 Q q =>
  h H1 e1 _ fun H2 e2 => ⟨x, k, rfl, kd_mono (e1.trans e2) hk, by rw [e]; exact q H2 e2⟩
theorem ev_isC {k : String} {b : Bool} (h : Ev ta σ H x) (hk : Kd K C H x k) (hc : k = "tuple" ∨ k = "Table") (e : isB k "Table" = b := by rfl) : Ev (tCB (rIsC K C) (tCons ta (tCons (tC (.ref C)) tNil))) σ H (.bl b) := fun H1 e1 Q q =>
  h H1 e1 _ fun H2 e2 => ⟨x, k, rfl, kd_mono (e1.trans e2) hk, hc, by rw [e]; exact q H2 e2⟩
theorem ev_isI {k : String} {b : Bool} (h : Ev ta σ H x) (hk : Kd K C H x k) (hc : intlike k = true := by rfl) (e : isB k "int" = b := by rfl) : Ev (tCB (rIsI K C) (tCons ta (tCons (tC (.ty "int")) tNil))) σ H (.bl b) := fun H1 e1 Q q =>
  h H1 e1 _ fun H2 e2 => ⟨x, k, rfl, kd_mono (e1.trans e2) hk, hc, by rw [e]; exact q H2 e2⟩
theorem ev_isB {k : String} {b : Bool} (h : Ev ta σ H x) (hk : Kd K C H x k) (hc : intlike k = true := by rfl) (e : isB k "bool" = b := by rfl) : Ev (tCB (rIsB K C) (tCons ta (tCons (tC (.ty "bool")) tNil))) σ H (.bl b) := fun H1 e1 Q q =>
  h H1 e1 _ fun H2 e2 => ⟨x, k, rfl, kd_mono (e1.trans e2) hk, hc, by rw [e]; exact q H2 e2⟩
/-! len, all of a comprehension, tuple(list) -/
theorem ev_lenT {p : Addr} {xs : List V} (ha : Ev ta σ H (.ref p)) (h : Rd H p (.tup xs)) : Ev (tCB (rLenS K) (tCons ta tNil)) σ H (.int (xs.length : Int)) := fun H1 e Q q =>
  ha H1 e _ fun H2 e2 => ⟨p, xs, rfl, Or.inr (.inl (ex_rd (e.trans e2) h)), q H2 e2⟩
theorem ev_all {bs : List Bool} (h : EvL te σ H (bs.map V.bl)) : Ev (tCB (rAll K) (tCons te tNil)) σ H (.bl (bs.all id)) := fun H1 e Q q =>
  h H1 e _ fun p H2 _ e2 hp => ⟨p, bs, rfl, sq_of hp, q H2 e2⟩
theorem eu_tuple {xs : List V} (h : EvL te σ H xs) : EvU (tCB (rTupS K) (tCons te tNil)) σ H xs := fun H1 e Q q =>
  h H1 e _ fun p H2 hp e2 h2 => ⟨p, xs, rfl, Or.inl ⟨sq_of h2, fun l hl => q l _ (fresh_back e2 hl) (e2.trans (Ex.new hl)) upd_same⟩⟩
/-! ### walks -/
def EvI (ti : TI) (σ : L2.St) (H : Hp) (n : Nat) (Y : Nat → Hp → V → Hp → Prop) : Prop := ∀ H1, Ex H H1 → ∀ R : It → Hp → Prop,
  (∀ J H2, Ex H1 H2 → (∀ i H3, Ex H2 H3 → (i < n → J.go i H3) ∧ (n ≤ i → J.stop i H3) ∧ ∀ v H4, J.yld i H3 v H4 → Y i H3 v H4) → R J H2) → ti σ H1 R
theorem EvI.mono {ti : TI} {n : Nat} {Y : Nat → Hp → V → Hp → Prop} (e : Ex H H') (h : EvI ti σ H n Y) : EvI ti σ H' n Y := fun H1 a R q => h H1 (e.trans a) R q
abbrev YL (xs : List V) : Nat → Hp → V → Hp → Prop := fun i H3 v H4 => H4 = H3 ∧ xs[i]? = some v
theorem ei_tup {a : Addr} {xs : List V} (h : Ev te σ H (.ref a)) (ht : Rd H a (.tup xs)) : EvI (iTup K te) σ H xs.length (YL xs) := fun H1 e R q =>
  h H1 e _ fun H2 e2 => ⟨a, rfl, ⟨xs, .inl (ex_rd (e.trans e2) ht)⟩, q _ _ e2 fun i H3 e3 => by
    have hs : SqT K H3 a xs := .inl (ex_rd ((e.trans e2).trans e3) ht)
    exact ⟨fun hi => ⟨xs, xs[i], hs, List.getElem?_eq_getElem hi⟩, fun hi => ⟨xs, hs, hi⟩, fun v H4 y => ⟨y.1, y.2 xs hs⟩⟩⟩
theorem ei_tupU {xs : List V} (h : EvU te σ H xs) : EvI (iTup K te) σ H xs.length (YL xs) := fun H1 e R q =>
  h H1 e _ fun a H2 _ e2 ha => ⟨a, rfl, ⟨xs, st_of ha⟩, q _ _ e2 fun i H3 e3 => by
    have hs := st_of (K := K) (e3 _ _ ha)
    exact ⟨fun hi => ⟨xs, xs[i], hs, List.getElem?_eq_getElem hi⟩, fun hi => ⟨xs, hs, hi⟩, fun v H4 y => ⟨y.1, y.2 xs hs⟩⟩⟩
theorem ei_lst {a : Addr} {xs : List V} (h : Ev te σ H (.ref a)) (ht : H a = some (.lst xs)) : EvI (iList K te) σ H xs.length (YL xs) := fun H1 e R q =>
  h H1 e _ fun H2 e2 => ⟨a, rfl, ⟨xs, sq_of (e2 _ _ (e _ _ ht))⟩, q _ _ e2 fun i H3 e3 => by
    have hs := sq_of (K := K) (e3 _ _ (e2 _ _ (e _ _ ht)))
    exact ⟨fun hi => ⟨xs, xs[i], hs, List.getElem?_eq_getElem hi⟩, fun hi => ⟨xs, hs, hi⟩, fun v H4 y => ⟨y.1, y.2 xs hs⟩⟩⟩
theorem ei_rng1 {n : Nat} (h : EvA tA σ H [.int (n : Int)]) (hn : n ≤ 100000) : EvI (iRng1 tA) σ H n (fun i H3 v H4 => H4 = H3 ∧ v = .int (i : Int)) := fun H1 e R q =>
  h H1 e _ fun H2 e2 => ⟨(n : Int), rfl, by omega, by omega, q _ _ e2 fun i H3 e3 => by
    refine ⟨fun hi => ?_, fun hi => ?_, fun v H4 y => ⟨y.1, ?_⟩⟩
    · show i < ((n : Int)).toNat
      omega
    · show ((n : Int)).toNat ≤ i
      omega
    · rw [y.2, Int.zero_add]⟩
/-- the new list that a comprehension makes -/
def NewL (H : Hp) (n : Nat) (P : Nat → List V → Hp → Prop) (v : V) (H2 : Hp) : Prop := ∃ p ys, v = .ref p ∧ H p = none ∧ H2 p = some (.lst ys) ∧ P n ys H2
theorem lc_gen {ti : TI} {g : TG} {n : Nat} {Y : Nat → Hp → V → Hp → Prop} {ws : List Nat} (P : Nat → List V → Hp → Prop) (hi : EvI ti σ H n Y) (hn : n ≤ 40000) (h0 : ∀ H1, Ex H H1 → P 0 [] H1) (hm : ∀ i ys H1 H2, Fz H1 H2 → P i ys H1 → P i ys H2)
    (ht : ∀ i v ys H1 H2, i < n → Ex H H1 → P i ys H1 → Y i H1 v H2 → g v (wipe σ ws) H2 fun σ2 H3 => wipe σ2 ws = wipe σ ws ∧ Ex H1 H3 ∧ ∃ b, EvT t σ2 H3 b ∧ (b = false → P (i + 1) ys H3) ∧ (b = true → EvP te σ2 H3 fun v H4 => P (i + 1) (ys ++ [v]) H4))
    (hg : ∀ v σ H (A B : L2.St → Hp → Prop), (∀ σ H, A σ H → B σ H) → g v σ H A → g v σ H B) :
    EvP (tLc ti g t te ws) σ H (NewL H n P) := fun H0 e Q q => hi H0 e _ fun J H1 e1 hJ => fun D hD => by
  refine ⟨fun i m H' => m = n - i ∧ i ≤ n ∧ Ex H1 H' ∧ ∃ ys, H' D = some (.lst ys) ∧ ys.length ≤ i ∧ P i ys H', ⟨n, by omega, by omega, Ex.new hD, [], upd_same, Nat.le_refl _, h0 _ ((e.trans e1).trans (Ex.new hD))⟩, ?_⟩
  rintro i m H' ⟨rfl, hin, ex, ys, hd, hl, hp⟩
  obtain ⟨g1, g2, g3⟩ := hJ i H' ex
  by_cases lt : i < n
  · refine .inr ⟨g1 lt, fun H5 => i + 1 ≤ n ∧ Ex H1 H5 ∧ ∃ ys, H5 D = some (.lst ys) ∧ ys.length ≤ i + 1 ∧ P (i + 1) ys H5, fun H5 z => ⟨n - (i + 1), by omega, rfl, z⟩, fun v H2 y => ?_⟩
    refine hg _ _ _ _ _ (fun σ2 H3 z => ?_) (ht i v ys H' H2 lt ((e.trans e1).trans ex) hp (g3 v H2 y))
    obtain ⟨w, e3, b, hb, hf, htr⟩ := z
    refine ⟨w, hb H3 (Ex.refl _) _ fun H4 e4 => ?_⟩
    cases b with
    | false =>
      show i + 1 ≤ n ∧ Ex H1 H4 ∧ ∃ ys, H4 D = some (.lst ys) ∧ ys.length ≤ i + 1 ∧ P (i + 1) ys H4
      exact ⟨lt, (ex.trans e3).trans e4, ys, e4 _ _ (e3 _ _ hd), by omega, hm _ _ _ _ (fz_of e4) (hf rfl)⟩
    | true =>
      show te σ2 H4 fun y H4 => ∃ acc, H4 D = some (.lst acc) ∧ acc.length < sizeLine ∧ (i + 1 ≤ n ∧ Ex H1 (upd H4 D (.lst (acc ++ [y]))) ∧ ∃ ys, upd H4 D (.lst (acc ++ [y])) D = some (.lst ys) ∧ ys.length ≤ i + 1 ∧ P (i + 1) ys (upd H4 D (.lst (acc ++ [y]))))
      refine htr rfl H4 e4 _ fun v H5 e5 pv => ?_
      have hd5 := e5 _ _ (e4 _ _ (e3 _ _ hd))
      refine ⟨ys, hd5, sz_lt (by omega), lt, Ex.mut (((ex.trans e3).trans e4).trans e5) hD, ys ++ [v], upd_same, by rw [List.length_append, List.length_singleton]; omega, hm _ _ _ _ (fz_upd hd5) pv⟩
  · have ei : i = n := by omega
    subst ei
    exact .inl ⟨g2 (Nat.le_refl _), q _ _ (e1.trans ex) ⟨D, ys, rfl, fresh_back (e.trans e1) hD, hd, hp⟩⟩
theorem gn_mono {j : Nat} : ∀ v σ H (A B : L2.St → Hp → Prop), (∀ σ H, A σ H → B σ H) → gName j v σ H A → gName j v σ H B := fun v σ H A B h a => h _ _ a
theorem g2_mono {j k : Nat} : ∀ v σ H (A B : L2.St → Hp → Prop), (∀ σ H, A σ H → B σ H) → gTup K 2 (gCons (gName j) (gCons (gName k) gNil)) v σ H A → gTup K 2 (gCons (gName j) (gCons (gName k) gNil)) v σ H B := fun v σ H A B h a => by
  obtain ⟨a, xs, e1, e2, e3, v, r, e4, v2, r2, e5, e6, e7⟩ := a
  exact ⟨a, xs, e1, e2, e3, v, r, e4, v2, r2, e5, e6, h _ _ e7⟩
/-- plain: one value an item -/
theorem el_map {ti : TI} {j : Nat} {xs : List V} {ws : List Nat} (f : V → Bool) (gv : V → V) (hi : EvI ti σ H xs.length (YL xs)) (hn : xs.length ≤ 40000) (hw : ∀ v, wipe ((wipe σ ws).set j (some v)) ws = wipe σ ws)
    (ht : ∀ v H1, v ∈ xs → Ex H H1 → EvT t ((wipe σ ws).set j (some v)) H1 (f v)) (he : ∀ v H1, v ∈ xs → Ex H H1 → f v = true → Ev te ((wipe σ ws).set j (some v)) H1 (gv v)) :
    EvL (tLc ti (gName j) t te ws) σ H ((xs.filter f).map gv) := fun H0 e Q q => by
  have z := lc_gen (σ := σ) (t := t) (te := te) (g := gName j) (ws := ws) (H := H0) (P := fun i ys _ => ys = ((xs.take i).filter f).map gv) (hi.mono e) hn (fun _ _ => rfl) (fun _ _ _ _ _ p => p) (fun i v ys H1 H2 lt e1 p y => ?_) gn_mono
  · refine z H0 (Ex.refl _) Q fun v H2 e2 w => ?_
    obtain ⟨p, ys, rfl, hp, hl, rfl⟩ := w
    rw [List.take_length] at hl
    exact q p H2 hp e2 hl
  · obtain ⟨rfl, hx⟩ := y
    have hm := List.mem_of_getElem? hx
    subst p
    have tk : xs.take (i + 1) = xs.take i ++ [v] := by rw [List.take_add_one, hx]; rfl
    refine ⟨hw v, Ex.refl _, f v, ht v _ hm (e.trans e1), fun hf => ?_, fun hf => ?_⟩
    · rw [tk, List.filter_append, List.filter_cons, if_neg (by rw [hf]; exact Bool.false_ne_true)]
      simp
    · refine evp_of (he v _ hm (e.trans e1) hf) fun H3 e3 => ?_
      rw [tk, List.filter_append, List.filter_cons, if_pos hf]
      simp
theorem et_yes : EvT tYes σ H true := fun H1 _ _ q => q H1 (Ex.refl H1)
/-- without an if -/
theorem el_map1 {ti : TI} {j : Nat} {xs : List V} {ws : List Nat} (gv : V → V) (hi : EvI ti σ H xs.length (YL xs)) (hn : xs.length ≤ 40000) (hw : ∀ v, wipe ((wipe σ ws).set j (some v)) ws = wipe σ ws)
    (he : ∀ v H1, v ∈ xs → Ex H H1 → Ev te ((wipe σ ws).set j (some v)) H1 (gv v)) : EvL (tLc ti (gName j) tYes te ws) σ H (xs.map gv) := by
  have z := el_map (t := tYes) (te := te) (fun _ => true) gv hi hn hw (fun _ _ _ _ => et_yes) (fun v H1 hv e _ => he v H1 hv e)
  rw [List.filter_eq_self.mpr (fun _ _ => rfl)] at z
  exact z
end
end Q44
/-! what each def promises -/
namespace Q44
open PySem PySem.Spec PyProof.Rows L2 M44 Evl
def IT (H : Hp) (v : V) (ns : Rw) : Prop := ∃ a, v = .ref a ∧ Rd H a (.tup (ns.map V.int))
/-- a tuple that may be asked for a method -/
def LT (H : Hp) (v : V) (ns : Rw) : Prop := ∃ a ob, v = .ref a ∧ H a = some (.frz ob (.tup (ns.map V.int))) ∧ ob.dict = none
theorem LT.it {H : Hp} {v : V} {ns : Rw} (h : LT H v ns) : IT H v ns := by
  obtain ⟨a, ob, rfl, h1, _⟩ := h
  exact ⟨a, rfl, .inr ⟨ob, h1⟩⟩
theorem LT.mono {H H' : Hp} {v : V} {ns : Rw} (e : Fz H H') (h : LT H v ns) : LT H' v ns := by
  obtain ⟨a, ob, rfl, h1, h2⟩ := h
  exact ⟨a, ob, rfl, e _ _ h1 (fun _ z => nomatch z), h2⟩
def LotOk (ns : Rw) : Prop := (∀ x ∈ ns, 0 ≤ x ∧ x < 6) ∧ ns.Pairwise (· < ·)
structure TOk (lot : Rw) (rows : List Rw) : Prop where
  lo : LotOk lot
  ro : ∀ r ∈ rows, RowOk lot.length r
def TabD (C : Addr) (H : Hp) (a dx : Addr) (lot : Rw) (rows : List Rw) : Prop := TOk lot rows ∧ ∃ vs la ra as, SlX.Slt H a C dx vs ∧ vs[0]? = some (some (.ref la)) ∧ vs[1]? = some (some (.ref ra)) ∧
  LT H (.ref la) lot ∧ H ra = some (.tup (as.map V.ref)) ∧ RowsA H as rows
def TabAt (C : Addr) (H : Hp) (a : Addr) (lot : Rw) (rows : List Rw) : Prop := ∃ dx, TabD C H a dx lot rows
def TabV (C : Addr) (H : Hp) (v : V) (lot : Rw) (rows : List Rw) : Prop := ∃ a, v = .ref a ∧ TabAt C H a lot rows
def RowsT (H : Hp) (v : V) (rows : List Rw) : Prop := ∃ a as, v = .ref a ∧ H a = some (.tup (as.map V.ref)) ∧ RowsA H as rows
def RowsL (H : Hp) (v : V) (rows : List Rw) : Prop := ∃ a as, v = .ref a ∧ H a = some (.lst (as.map V.ref)) ∧ RowsA H as rows
def PairAt (C : Addr) (H : Hp) (v : V) (q : Pc) : Prop := ∃ p t, v = .ref p ∧ H p = some (.tup [q.1, .ref t]) ∧ TabAt C H t q.2.1 q.2.2
def PVals (C : Addr) (H : Hp) (vs : List V) (ps : List Pc) : Prop := Paired (PairAt C H) vs ps
def IsJ (v : V) : Prop := (∃ i, v = .int i) ∨ ∃ b, v = .bl b
def jB (v : V) (m : Int) : Bool := match v with
  | .int i => decide (0 ≤ i ∧ i ≤ m)
  | _ => false
def isI : V → Bool
  | .int _ => true
  | _ => false
def pwr (n : Int) : Int := if 1 < n then ((Builtin.Int.intBits (n - 1) : Nat) : Int) else 0
section
variable {H H' : Hp} {C : Addr} {v : V} {ns lot : Rw} {rows : List Rw}
theorem IT.mono (e : Fz H H') (h : IT H v ns) : IT H' v ns := by
  obtain ⟨a, rfl, q⟩ := h
  exact ⟨a, rfl, rd_fz e q⟩
theorem rows_mono (e : Fz H H') {as : List Addr} (h : RowsA H as rows) : RowsA H' as rows := Paired.mapP h fun a b q => e _ _ q (fun _ z => nomatch z)
theorem TabD.mono (e : Fz H H') {a dx : Addr} (h : TabD C H a dx lot rows) : TabD C H' a dx lot rows := by
  obtain ⟨ok, vs, la, ra, as, h1, h2, h3, h4, h5, h6⟩ := h
  exact ⟨ok, vs, la, ra, as, slt_mono e h1, h2, h3, h4.mono e, e _ _ h5 (fun _ z => nomatch z), rows_mono e h6⟩
theorem TabAt.mono (e : Fz H H') {a : Addr} (h : TabAt C H a lot rows) : TabAt C H' a lot rows := by
  obtain ⟨dx, q⟩ := h
  exact ⟨dx, q.mono e⟩
theorem TabV.mono (e : Fz H H') (h : TabV C H v lot rows) : TabV C H' v lot rows := by
  obtain ⟨a, rfl, q⟩ := h
  exact ⟨a, rfl, q.mono e⟩
theorem RowsT.mono (e : Fz H H') (h : RowsT H v rows) : RowsT H' v rows := by
  obtain ⟨a, as, rfl, q, r⟩ := h
  exact ⟨a, as, rfl, e _ _ q (fun _ z => nomatch z), rows_mono e r⟩
theorem RowsL.mono (e : Ex H H') (h : RowsL H v rows) : RowsL H' v rows := by
  obtain ⟨a, as, rfl, q, r⟩ := h
  exact ⟨a, as, rfl, e _ _ q, rows_mono (fz_of e) r⟩
theorem PairAt.mono {q : Pc} (e : Fz H H') (h : PairAt C H v q) : PairAt C H' v q := by
  obtain ⟨p, t, rfl, h1, h2⟩ := h
  exact ⟨p, t, rfl, e _ _ h1 (fun _ z => nomatch z), h2.mono e⟩
theorem PVals.mono {vs : List V} {ps : List Pc} (e : Fz H H') (h : PVals C H vs ps) : PVals C H' vs ps := Paired.mapP h fun a b q => PairAt.mono e q
theorem TabV.ok (h : TabV C H v lot rows) : TOk lot rows := by
  obtain ⟨a, _, dx, q⟩ := h
  exact q.1
end
/-! promises -/
def R_is_letter (a : V) (H : Hp) (Q : VK) : Prop := ∃ n, a = .int n ∧ 0 ≤ n ∧ n < 6 ∧ RetV (.bl true) H Q
def R_is_lot (a : V) (H : Hp) (Q : VK) : Prop := ∃ ns, IT H a ns ∧ LotOk ns ∧ RetV (.bl true) H Q
def R_within_in (a b : V) (H : Hp) (Q : VK) : Prop := ∃ ns ms, IT H a ns ∧ IT H b ms ∧ ns.length ≤ 1000 ∧ (∀ x ∈ ns, x ∈ ms) ∧ RetV (.bl true) H Q
def R_require_lot (a : V) (H : Hp) (Q : VK) : Prop := ∃ ns, IT H a ns ∧ LotOk ns ∧ RetV .non H Q
def R_is_whole (a : V) (H : Hp) (Q : VK) : Prop := IsJ a ∧ RetV (.bl (isI a)) H Q
def R_is_within (a b c : V) (H : Hp) (Q : VK) : Prop := ∃ m, b = .int 0 ∧ c = .int m ∧ IsJ a ∧ RetV (.bl (jB a m)) H Q
def R_power_in (a : V) (H : Hp) (Q : VK) : Prop := ∃ n, a = .int n ∧ RetV (.int (pwr n)) H Q
def R_require_within (a b c : V) (H : Hp) (Q : VK) : Prop := ∃ i m, a = .int i ∧ b = .int 0 ∧ c = .int m ∧ 0 ≤ i ∧ i ≤ m ∧ RetV .non H Q
def R_is_small (a : V) (H : Hp) (Q : VK) : Prop := ∃ n, a = .int n ∧ -1000000000 < n ∧ n < 1000000000 ∧ RetV (.bl true) H Q
def R_is_row_in (a b : V) (H : Hp) (Q : VK) : Prop := ∃ ls ns, IT H a ls ∧ IT H b ns ∧ ls.length ≤ 1000 ∧ RowOk ls.length ns ∧ RetV (.bl true) H Q
def R_are_rows (a b : V) (H : Hp) (Q : VK) : Prop := ∃ ls rs, IT H a ls ∧ RowsT H b rs ∧ ls.length ≤ 1000 ∧ rs.length ≤ 1000 ∧ (∀ r ∈ rs, RowOk ls.length r) ∧ RetV (.bl true) H Q
/-- the fresh or elder instance at x becomes a table of these rows; all but it stays -/
def Made (C x dx : Addr) (lot : Rw) (rs : List Rw) (H H2 : Hp) : Prop := (∀ a o, a ≠ x → a ≠ dx → H a = some o → H2 a = some o) ∧ (∀ a, H2 a = none → H a = none) ∧ TabD C H2 x dx lot (mk rs)
def R_keep (C : Addr) (a b c : V) (H : Hp) (Q : VK) : Prop := ∃ x dx vs lot rs, a = .ref x ∧ SlX.Slt H x C dx vs ∧ dx ≠ x ∧ (H dx = some (.own x) ∨ H dx = some (.xd [])) ∧ LT H b lot ∧ (RowsT H c rs ∨ RowsL H c rs) ∧ TOk lot rs ∧ rs.length < 64 ∧ (2 ≤ rs.length → 1 ≤ lot.length) ∧
  ∀ H2, Made C x dx lot rs H H2 → Q .non H2
def R_init (C : Addr) (a b c : V) (H : Hp) (Q : VK) : Prop := ∃ x dx lot rs, a = .ref x ∧ H x = some (.ins C dx []) ∧ dx ≠ x ∧ H dx = some (.own x) ∧ LT H b lot ∧ RowsT H c rs ∧ TOk lot rs ∧ rs.length < 64 ∧ (2 ≤ rs.length → 1 ≤ lot.length) ∧
  ∀ H2, Made C x dx lot rs H H2 → Q .non H2
def R_lot (C : Addr) (a : V) (H : Hp) (Q : VK) : Prop := ∃ lot rows, TabV C H a lot rows ∧ ∀ v H2, Ex H H2 → LT H2 v lot → Q v H2
def R_rows (C : Addr) (a : V) (H : Hp) (Q : VK) : Prop := ∃ lot rows, TabV C H a lot rows ∧ ∀ v H2, Ex H H2 → RowsT H2 v rows → Q v H2
def R_len (C : Addr) (a : V) (H : Hp) (Q : VK) : Prop := ∃ lot rows, TabV C H a lot rows ∧ RetV (.int (rows.length : Nat)) H Q
def R_eq (C : Addr) (a b : V) (H : Hp) (Q : VK) : Prop := ∃ l1 r1 l2 r2, TabV C H a l1 r1 ∧ TabV C H b l2 r2 ∧ RetV (.bl (decide (l1 = l2) && decide (r1 = r2))) H Q
def R_lot_told (a : V) (H : Hp) (Q : VK) : Prop := ∃ ns, IT H a ns ∧ LotOk ns ∧ ∀ s H2, Ex H H2 → Q (.str s) H2
def R_made_table (C : Addr) (a b : V) (H : Hp) (Q : VK) : Prop := ∃ lot rs, LT H a lot ∧ RowsL H b rs ∧ TOk lot rs ∧ rs.length < 64 ∧ (2 ≤ rs.length → 1 ≤ lot.length) ∧ ∀ v H2, Ex H H2 → TabV C H2 v lot (mk rs) → Q v H2
def R_is_table (K : PySem.W.Frag) (C : Addr) (a : V) (H : Hp) (Q : VK) : Prop := ∃ k, Kd K C H a k ∧ (k = "tuple" ∨ k = "Table") ∧ RetV (.bl (isB k "Table")) H Q
def R_require_table (C : Addr) (a : V) (H : Hp) (Q : VK) : Prop := ∃ lot rows, TabV C H a lot rows ∧ RetV .non H Q
/-- the rows by their part: a dict of lists -/
def GroupsAt (H : Hp) (d : Addr) (lot low : Rw) (rows : List Rw) : Prop := ∃ L : Rw → Addr, H d = some (.dT (tab (fun p => .ref (L p)) (srt (dist (parts lot low rows))))) ∧
  ∀ p ∈ dist (parts lot low rows), RowsL H (.ref (L p)) (rows.filter fun r => decide (partOf lot low r = p))
def R_groups_in (C : Addr) (a b : V) (H : Hp) (Q : VK) : Prop := ∃ lot rows low, TabV C H a lot rows ∧ IT H b low ∧ LotOk low ∧ (∀ x ∈ low, x ∈ lot) ∧ rows.length < 64 ∧ ∀ d H2, Ex H H2 → GroupsAt H2 d lot low rows → Q (.ref d) H2
def totR (ps : List Pc) : Nat := (ps.map fun q => q.2.2.length).sum
structure Told (lot : Rw) (rows : List Rw) (ps : List Pc) : Prop where
  j : ∀ q ∈ ps, ∃ i, q.1 = .int i
  l : ∀ q ∈ ps, q.2.1 = lot
  n : ∀ q ∈ ps, q.2.2 ≠ []
  s : totR ps ≤ rows.length
def R_parted_in (C : Addr) (a b c : V) (H : Hp) (Q : VK) : Prop := ∃ lot rows low k, TabV C H a lot rows ∧ IT H b low ∧ c = .int ((k : Nat) : Int) ∧ k ≤ 20 ∧ LotOk low ∧ (∀ x ∈ low, x ∈ lot) ∧ rows.length < 64 ∧ 1 ≤ lot.length ∧
  ∀ l vs ps H2, Ex H H2 → H l = none → H2 l = some (.lst vs) → PVals C H2 vs ps → Told lot rows ps → Q (.ref l) H2
def R_does_fit (C : Addr) (a b c d : V) (H : Hp) (Q : VK) : Prop := ∃ lot rows low k j, TabV C H a lot rows ∧ IT H b low ∧ c = .int ((k : Nat) : Int) ∧ d = .int ((j : Nat) : Int) ∧ k ≤ 20 ∧ j ≤ k ∧ LotOk low ∧ (∀ x ∈ low, x ∈ lot) ∧ rows.length < 64 ∧
  RetV (.bl (fit lot low k j rows)) H Q
/-- no pair of a number and a table -/
inductive Odd (K : PySem.W.Frag) (C : Addr) (H : Hp) : V → Prop
  | kind {v : V} {k : String} (h : Kd K C H v k) (n : k ≠ "tuple") : Odd K C H v
  | len {a : Addr} {xs : List V} (h : H a = some (.tup xs)) (n : xs.length ≠ 2) (z : xs.length ≤ 1000) : Odd K C H (.ref a)
  | second {a b : Addr} {i : Int} {ys : List V} (h : H a = some (.tup [.int i, .ref b])) (h2 : H b = some (.tup ys)) : Odd K C H (.ref a)
theorem Odd.mono {K : PySem.W.Frag} {C : Addr} {H H' : Hp} {v : V} (e : Ex H H') (h : Odd K C H v) : Odd K C H' v := by
  cases h with
  | kind h n => exact .kind (kd_mono e h) n
  | len h n z => exact .len (e _ _ h) n z
  | second h h2 => exact .second (e _ _ h) (e _ _ h2)
def R_is_piece (K : PySem.W.Frag) (C : Addr) (a b c d : V) (H : Hp) (Q : VK) : Prop := ∃ lot rows low k, TabV C H a lot rows ∧ IT H b low ∧ c = .int ((k : Nat) : Int) ∧ k ≤ 20 ∧ LotOk low ∧ (∀ x ∈ low, x ∈ lot) ∧
  ((∃ q : Pc, PairAt C H d q ∧ IsJ q.1 ∧ q.2.2.length < 64 ∧ RetV (.bl (pieceB lot low k q)) H Q) ∨ (Odd K C H d ∧ RetV (.bl false) H Q))
def R_require_cut (C : Addr) (a b : V) (H : Hp) (Q : VK) : Prop := ∃ lot rows low, TabV C H a lot rows ∧ IT H b low ∧ LotOk low ∧ RetV .non H Q
def R_need_within (C : Addr) (a b : V) (H : Hp) (Q : VK) : Prop := ∃ lot rows low, TabV C H a lot rows ∧ IT H b low ∧ low.length ≤ 1000 ∧ (∀ x ∈ low, x ∈ lot) ∧ RetV .non H Q
def R_rcap (C : Addr) (a b c : V) (H : Hp) (Q : VK) : Prop := ∃ lot rows low k, TabV C H a lot rows ∧ IT H b low ∧ c = .int ((k : Nat) : Int) ∧ k ≤ 20 ∧ LotOk low ∧ (∀ x ∈ low, x ∈ lot) ∧ rows.length ≤ 2 ^ k ∧ RetV .non H Q
def R_require_pieces (C : Addr) (a : V) (H : Hp) (Q : VK) : Prop := ∃ t vs ps lot, a = .ref t ∧ H t = some (.tup vs) ∧ PVals C H vs ps ∧ 1 ≤ ps.length ∧ ps.length ≤ 50 ∧ (∀ q ∈ ps, jB q.1 20 = true ∧ q.2.1 = lot) ∧ RetV .non H Q
def R_parted (C : Addr) (a b c : V) (H : Hp) (Q : VK) : Prop := ∃ lot rows low k, TabV C H a lot rows ∧ IT H b low ∧ c = .int ((k : Nat) : Int) ∧ k ≤ 20 ∧ LotOk low ∧ (∀ x ∈ low, x ∈ lot) ∧ rows.length < 64 ∧ 1 ≤ lot.length ∧ rows.length ≤ 2 ^ k ∧
  ∀ t vs ps H2, Ex H H2 → H2 t = some (.tup vs) → PVals C H2 vs ps → Told lot rows ps → Q (.ref t) H2
/-- a value asked about: pieces, or odd -/
def ValP (C : Addr) (H : Hp) (v : V) (ps : List Pc) : Prop := ∃ t vs, v = .ref t ∧ H t = some (.tup vs) ∧ PVals C H vs ps ∧ (∀ q ∈ ps, IsJ q.1) ∧ totR ps < 64 ∧ ps.length ≤ 1000
inductive OddV (K : PySem.W.Frag) (C : Addr) (H : Hp) : V → Prop
  | kind {v : V} {k : String} (h : Kd K C H v k) (n : k ≠ "tuple") : OddV K C H v
  | one {a : Addr} {x : V} (h : H a = some (.tup [x])) (o : Odd K C H x) : OddV K C H (.ref a)
theorem ValP.mono {C : Addr} {H H' : Hp} {v : V} {ps : List Pc} (e : Fz H H') (h : ValP C H v ps) : ValP C H' v ps := by
  obtain ⟨t, vs, rfl, h1, h2, h3⟩ := h
  exact ⟨t, vs, rfl, e _ _ h1 (fun _ z => nomatch z), h2.mono e, h3⟩
theorem OddV.mono {K : PySem.W.Frag} {C : Addr} {H H' : Hp} {v : V} (e : Ex H H') (h : OddV K C H v) : OddV K C H' v := by
  cases h with
  | kind h n => exact .kind (kd_mono e h) n
  | one h o => exact .one (e _ _ h) (o.mono e)
def R_is_parted (K : PySem.W.Frag) (C : Addr) (a b c d : V) (H : Hp) (Q : VK) : Prop := ∃ lot rows low k, TabV C H a lot rows ∧ IT H b low ∧ c = .int ((k : Nat) : Int) ∧ k ≤ 20 ∧ LotOk low ∧ (∀ x ∈ low, x ∈ lot) ∧ rows.length ≤ 2 ^ k ∧ 1 ≤ lot.length ∧ rows.length ≤ 1000 ∧
  ((∃ ps, ValP C H d ps ∧ RetV (.bl (partedB lot low rows k ps)) H Q) ∨ (OddV K C H d ∧ RetV (.bl false) H Q))
def R_put_together (C : Addr) (a : V) (H : Hp) (Q : VK) : Prop := ∃ t vs ps lot, a = .ref t ∧ H t = some (.tup vs) ∧ PVals C H vs ps ∧ 1 ≤ ps.length ∧ ps.length ≤ 50 ∧ (∀ q ∈ ps, jB q.1 20 = true ∧ q.2.1 = lot) ∧ 1 ≤ lot.length ∧ totR ps < 64 ∧
  ∀ v H2, Ex H H2 → TabV C H2 v lot (mk (rowsP ps)) → Q v H2
/-! the law's own -/
def R_cup (K : PySem.W.Frag) (a b : V) (H : Hp) (Q : VK) : Prop := ∃ (s : Addr) (ns : List Int) (sp : Nat), a = .ref s ∧ SqL K H s (ns.map V.int) ∧ ns.length ≤ 63 ∧ b = .int ((sp : Nat) : Int) ∧ sp ≤ 2 ∧ ∀ c H2, Ex H H2 → H c = none → Cup H2 c → Q (.ref c) H2
def R_tossed (a b : V) (H : Hp) (Q : VK) : Prop := ∃ c t, a = .ref c ∧ b = .int t ∧ Cup H c ∧ 0 < t ∧ t < 1000000 ∧ ∀ (r : Int) H2, 0 ≤ r → r < t → Ec c H H2 → Q (.int r) H2
def R_one_of (a b : V) (H : Hp) (Q : VK) : Prop := ∃ c l vs, a = .ref c ∧ b = .ref l ∧ Cup H c ∧ l ≠ c ∧ H l = some (.lst vs) ∧ 0 < vs.length ∧ vs.length < 1000 ∧ ∀ v H2, v ∈ vs → Ec c H H2 → Q v H2
def R_lot_drawn (a b d : V) (H : Hp) (Q : VK) : Prop := ∃ c ns m, a = .ref c ∧ Cup H c ∧ IT H b ns ∧ LotOk ns ∧ d = .int ((m : Nat) : Int) ∧ m ≤ ns.length ∧ ∀ v ms H2, Ec c H H2 → LT H2 v ms → LotOk ms → (∀ x ∈ ms, x ∈ ns) → m ≤ ms.length → Q v H2
def R_rows_drawn (a b d f : V) (H : Hp) (Q : VK) : Prop := ∃ c ls, a = .ref c ∧ Cup H c ∧ IT H b ls ∧ ls.length ≤ 10 ∧ d = .int 14 ∧ f = .int 3 ∧ ∀ v rs H2, Ec c H H2 → RowsL H2 v rs → rs.length ≤ 28 → (∀ r ∈ rs, RowOk ls.length r) → Q v H2
def R_part (a b c : V) (H : Hp) (Q : VK) : Prop := ∃ ns lot low, IT H a ns ∧ LT H b lot ∧ IT H c low ∧ ns.length = lot.length ∧ low.length ≤ 1000 ∧ (∀ x ∈ low, x ∈ lot) ∧ ∀ t H2, Ex H H2 → H2 t = some (.tup ((partOf lot low ns).map V.int)) → Q (.ref t) H2
def R_lt_power (a b : V) (H : Hp) (Q : VK) : Prop := ∃ n : Nat, a = .int 2 ∧ b = .int (n : Int) ∧ n ≤ 20 ∧ RetV (.int ((2 ^ n : Nat) : Int)) H Q
def R_lt_least (a : V) (H : Hp) (Q : VK) : Prop := ∃ n : Nat, a = .int (n : Int) ∧ n ≤ 64 ∧ ∀ j : Nat, j ≤ 6 → n ≤ 2 ^ j → RetV (.int (j : Int)) H Q
def R_is_few (a b c d e : V) (H : Hp) (Q : VK) : Prop := ∃ rows lot low k j, RowsT H a rows ∧ LT H b lot ∧ IT H c low ∧ d = .int ((k : Nat) : Int) ∧ e = .int ((j : Nat) : Int) ∧ k ≤ 20 ∧ j ≤ k ∧ rows.length ≤ 1000 ∧ (∀ r ∈ rows, r.length = lot.length) ∧ low.length ≤ 1000 ∧
  (∀ x ∈ low, x ∈ lot) ∧ RetV (.bl (fit lot low k j rows)) H Q
def R_are_pieces (C : Addr) (a b c d e : V) (H : Hp) (Q : VK) : Prop := ∃ rows lot low k ps, RowsT H a rows ∧ LT H b lot ∧ IT H c low ∧ d = .int ((k : Nat) : Int) ∧ ValP C H e ps ∧ k ≤ 20 ∧ rows.length ≤ 1000 ∧ 1 ≤ lot.length ∧ low.length ≤ 1000 ∧ LotOk lot ∧ (∀ r ∈ rows, RowOk lot.length r) ∧
  (∀ x ∈ low, x ∈ lot) ∧ RetV (.bl (partedB lot low rows k ps)) H Q
def R_near (C : Addr) (a b d : V) (H : Hp) (Q : VK) : Prop := ∃ c lot rows t vs ps, a = .ref c ∧ Cup H c ∧ TabV C H b lot rows ∧ rows.length ≤ 28 ∧ 1 ≤ lot.length ∧ d = .ref t ∧ H t = some (.tup vs) ∧ PVals C H vs ps ∧ Told lot rows ps ∧
  ∀ l us H2, Ec c H H2 → l ≠ c → H2 l = some (.lst us) → (∀ u ∈ us, ∃ qs, ValP C H2 u qs) → Q (.ref l) H2
def R_right (a : V) (H : Hp) (Q : VK) : Prop := ∃ c, a = .ref c ∧ Cup H c ∧ ∀ H2, Ec c H H2 → Q (.bl true) H2
def R_law (K : PySem.W.Frag) (a : V) (H : Hp) (Q : VK) : Prop := ∃ (s : Addr) (ns : List Int), a = .ref s ∧ SqL K H s (ns.map V.int) ∧ ns.length ≤ 63 ∧ ∀ H2, Q (.bl true) H2
def sp_is_letter (K : PySem.W.Frag) (C : Addr) : Sp := sp1 (R_is_letter)
def sp_is_lot (K : PySem.W.Frag) (C : Addr) : Sp := sp1 (R_is_lot)
def sp_within_in (K : PySem.W.Frag) (C : Addr) : Sp := sp2 (R_within_in)
def sp_require_lot (K : PySem.W.Frag) (C : Addr) : Sp := sp1 (R_require_lot)
def sp_is_whole (K : PySem.W.Frag) (C : Addr) : Sp := sp1 (R_is_whole)
def sp_is_within (K : PySem.W.Frag) (C : Addr) : Sp := sp3 (R_is_within)
def sp_power_in (K : PySem.W.Frag) (C : Addr) : Sp := sp1 (R_power_in)
def sp_require_within (K : PySem.W.Frag) (C : Addr) : Sp := sp3 (R_require_within)
def sp_is_small (K : PySem.W.Frag) (C : Addr) : Sp := sp1 (R_is_small)
def sp_is_row_in (K : PySem.W.Frag) (C : Addr) : Sp := sp2 (R_is_row_in)
def sp_are_rows (K : PySem.W.Frag) (C : Addr) : Sp := sp2 (R_are_rows)
def sp_T_init (K : PySem.W.Frag) (C : Addr) : Sp := sp3 (R_init C)
def sp_T_keep (K : PySem.W.Frag) (C : Addr) : Sp := sp3 (R_keep C)
def sp_T_lot (K : PySem.W.Frag) (C : Addr) : Sp := sp1 (R_lot C)
def sp_T_rows (K : PySem.W.Frag) (C : Addr) : Sp := sp1 (R_rows C)
def sp_T_len (K : PySem.W.Frag) (C : Addr) : Sp := sp1 (R_len C)
def sp_T_eq (K : PySem.W.Frag) (C : Addr) : Sp := sp2 (R_eq C)
def sp_lot_told (K : PySem.W.Frag) (C : Addr) : Sp := sp1 (R_lot_told)
def sp_made_table (K : PySem.W.Frag) (C : Addr) : Sp := sp2 (R_made_table C)
def sp_is_table (K : PySem.W.Frag) (C : Addr) : Sp := sp1 (R_is_table K C)
def sp_require_table (K : PySem.W.Frag) (C : Addr) : Sp := sp1 (R_require_table C)
def sp_groups_in (K : PySem.W.Frag) (C : Addr) : Sp := sp2 (R_groups_in C)
def sp_parted_in (K : PySem.W.Frag) (C : Addr) : Sp := sp3 (R_parted_in C)
def sp_does_fit (K : PySem.W.Frag) (C : Addr) : Sp := sp4 (R_does_fit C)
def sp_is_piece (K : PySem.W.Frag) (C : Addr) : Sp := sp4 (R_is_piece K C)
def sp_require_cut (K : PySem.W.Frag) (C : Addr) : Sp := sp2 (R_require_cut C)
def sp_need_within (K : PySem.W.Frag) (C : Addr) : Sp := sp2 (R_need_within C)
def sp_require_cut_and_power (K : PySem.W.Frag) (C : Addr) : Sp := sp3 (R_rcap C)
def sp_require_pieces (K : PySem.W.Frag) (C : Addr) : Sp := sp1 (R_require_pieces C)
def sp_parted (K : PySem.W.Frag) (C : Addr) : Sp := sp3 (R_parted C)
def sp_is_parted (K : PySem.W.Frag) (C : Addr) : Sp := sp4 (R_is_parted K C)
def sp_put_together (K : PySem.W.Frag) (C : Addr) : Sp := sp1 (R_put_together C)
def sp__law_cup (K : PySem.W.Frag) (C : Addr) : Sp := sp2 (R_cup K)
def sp__law_tossed (K : PySem.W.Frag) (C : Addr) : Sp := sp2 (R_tossed)
def sp__law_one_of (K : PySem.W.Frag) (C : Addr) : Sp := sp2 (R_one_of)
def sp__law_lot_drawn (K : PySem.W.Frag) (C : Addr) : Sp := sp3 (R_lot_drawn)
def sp__law_rows_drawn (K : PySem.W.Frag) (C : Addr) : Sp := sp4 (R_rows_drawn)
def sp__law_part (K : PySem.W.Frag) (C : Addr) : Sp := sp3 (R_part)
def sp__law_lt_power (K : PySem.W.Frag) (C : Addr) : Sp := sp2 (R_lt_power)
def sp__law_lt_least (K : PySem.W.Frag) (C : Addr) : Sp := sp1 (R_lt_least)
def sp__law_is_few (K : PySem.W.Frag) (C : Addr) : Sp := sp5 (R_is_few)
def sp__law_are_pieces (K : PySem.W.Frag) (C : Addr) : Sp := sp5 (R_are_pieces C)
def sp__law_near (K : PySem.W.Frag) (C : Addr) : Sp := sp3 (R_near C)
def sp__law_right (K : PySem.W.Frag) (C : Addr) : Sp := sp1 (R_right)
def sp_law (K : PySem.W.Frag) (C : Addr) : Sp := sp1 (R_law K)
end Q44
namespace Q44
open PySem PySem.Spec PyProof.Rows L2 M44 Evl
def EvPA (tA : TA) (σ : L2.St) (H : Hp) (P : List V → Hp → Prop) : Prop := ∀ H1, Ex H H1 → ∀ Q : List V → Hp → Prop, (∀ vs H2, Ex H1 H2 → P vs H2 → Q vs H2) → tA σ H1 Q
section
variable {K : PySem.W.Frag} {mg : Str → Option Value} {C : Addr} {σ : L2.St} {H H' : Hp} {ta tb tc te : TE} {tA : TA} {t u : TT} {x y z v : V} {r r' : R2} {P : V → Hp → Prop} {sp : Sp} {E : XK} {vs : List V}
theorem eap_nil {P : List V → Hp → Prop} (h : ∀ H1, Ex H H1 → P [] H1) : EvPA tNil σ H P := fun H1 e _ q => q [] H1 (Ex.refl H1) (h H1 e)
theorem eap_cons {P : List V → Hp → Prop} {P1 : V → Hp → Prop} (h : EvP ta σ H P1) (hr : ∀ v H1, Ex H H1 → P1 v H1 → EvPA tA σ H1 fun vs H2 => P (v :: vs) H2) : EvPA (tCons ta tA) σ H P := fun H1 e _ q =>
  h H1 e _ fun v H2 e2 p => hr v H2 (e.trans e2) p H2 (Ex.refl H2) _ fun vs H3 e3 p3 => q _ H3 (e2.trans e3) p3
theorem evp_defA {Pa : List V → Hp → Prop} (h : EvPA tA σ H Pa) (hs : ∀ vs H1, Ex H H1 → Pa vs H1 → SpP sp vs H1 P) : EvP (tDef sp E tA) σ H P := fun H1 e Q q =>
  h H1 e _ fun vs H2 e2 p => hs vs H2 (e.trans e2) p H2 (Ex.refl H2) Q (fun w H3 e3 p3 => q w H3 (e2.trans e3) p3) E
theorem evp_U {xs : List V} (h : EvU te σ H xs) : EvP te σ H fun v H2 => ∃ p, v = .ref p ∧ H p = none ∧ H2 p = some (.tup xs) := fun H1 e Q q => h H1 e Q fun p H2 hp e2 h2 => q _ H2 e2 ⟨p, rfl, fresh_back e hp, h2⟩
theorem evp_L {xs : List V} (h : EvL te σ H xs) : EvP te σ H fun v H2 => ∃ p, v = .ref p ∧ H p = none ∧ H2 p = some (.lst xs) := fun H1 e Q q => h H1 e Q fun p H2 hp e2 h2 => q _ H2 e2 ⟨p, rfl, fresh_back e hp, h2⟩
/-- a tuple of described parts -/
theorem evp_tup {P : List V → Hp → Prop} (h : EvPA tA σ H P) (hl : ∀ vs H1, P vs H1 → vs.length ≤ 100000) (hm : ∀ vs H1 H2, Ex H1 H2 → P vs H1 → P vs H2) : EvP (tTup tA) σ H fun v H2 => ∃ p vs, v = .ref p ∧ H p = none ∧ H2 p = some (.tup vs) ∧ P vs H2 := fun H1 e Q q =>
  h H1 e _ fun vs H2 e2 p2 => ⟨sz_of (hl _ _ p2), fun p hp => q _ _ (e2.trans (Ex.new hp)) ⟨p, vs, rfl, fresh_back (e.trans e2) hp, upd_same, hm _ _ _ (Ex.new hp) p2⟩⟩
/-! slots -/
theorem ev_slot {a dx p la : Addr} {i : Nat} {ws : List (Option V)} {f : Str} (c : SlX.SCls K C) (s : SlX.Slot1 K C f p i) (ha : Ev ta σ H (.ref a)) (hs : SlX.Slt H a C dx ws) (hw : ws[i]? = some (some v)) : Ev (SlX.tSl K ta f) σ H v := fun H1 e Q q =>
  ha H1 e _ fun H2 e2 => ⟨a, C, dx, p, ws, i, v, rfl, slt_mono (fz_of (e.trans e2)) hs, c, s, hw, q H2 e2⟩
theorem ev_own0 {a dx : Addr} {ws : List (Option V)} (T : Tx K mg C) (ha : Ev ta σ H (.ref a)) (hs : SlX.Slt H a C dx ws) (hw : ws[0]? = some (some v)) : Ev (SlX.tSl K ta "own_lot") σ H v := by
  obtain ⟨p, s⟩ := T.sl0
  exact ev_slot (la := a) T.is.sc s ha hs hw
theorem ev_own1 {a dx : Addr} {ws : List (Option V)} (T : Tx K mg C) (ha : Ev ta σ H (.ref a)) (hs : SlX.Slt H a C dx ws) (hw : ws[1]? = some (some v)) : Ev (SlX.tSl K ta "own_rows") σ H v := by
  obtain ⟨p, s⟩ := T.sl1
  exact ev_slot (la := a) T.is.sc s ha hs hw
/-! all of a comprehension -/
theorem map_bl {xs : List V} (f : V → Bool) : xs.map (fun v => V.bl (f v)) = (xs.map f).map V.bl := by rw [List.map_map]; rfl
theorem ev_allC {ti : TI} {j : Nat} {xs : List V} {ws : List Nat} (f : V → Bool) (hi : EvI ti σ H xs.length (YL xs)) (hn : xs.length ≤ 40000) (hw : ∀ v, wipe ((wipe σ ws).set j (some v)) ws = wipe σ ws)
    (he : ∀ v H1, v ∈ xs → Ex H H1 → Ev te ((wipe σ ws).set j (some v)) H1 (.bl (f v))) : Ev (tCB (rAll K) (tCons (tLc ti (gName j) tYes te ws) tNil)) σ H (.bl (xs.all f)) := by
  have z := el_map1 (te := te) (fun v => V.bl (f v)) hi hn hw he
  rw [map_bl] at z
  have y := ev_all (K := K) z
  rw [List.all_map] at y
  exact y
theorem ev_allT {ti : TI} {j : Nat} {xs : List V} {ws : List Nat} (hi : EvI ti σ H xs.length (YL xs)) (hn : xs.length ≤ 40000) (hw : ∀ v, wipe ((wipe σ ws).set j (some v)) ws = wipe σ ws)
    (he : ∀ v H1, v ∈ xs → Ex H H1 → Ev te ((wipe σ ws).set j (some v)) H1 (.bl true)) : Ev (tCB (rAll K) (tCons (tLc ti (gName j) tYes te ws) tNil)) σ H (.bl true) := by
  have z := ev_allC (K := K) (fun _ => true) hi hn hw he
  rw [List.all_eq_true.mpr (fun _ _ => rfl)] at z
  exact z
end
/-! slices of tuples -/
def IsTu (xs : List V) (v : V) (H : Hp) : Prop := ∃ p, v = .ref p ∧ Rd H p (.tup xs)
theorem IsTu.mono {xs : List V} {v : V} {H H' : Hp} (e : Fz H H') (h : IsTu xs v H) : IsTu xs v H' := by
  obtain ⟨p, rfl, q⟩ := h
  exact ⟨p, rfl, rd_fz e q⟩
theorem cut_whole {xs : List V} {lo hi : Option Int} (h : HT.sIx xs.length 0 lo = 0 ∧ HT.sIx xs.length xs.length hi = xs.length) : cutV xs lo hi = xs := by
  unfold cutV
  rw [h.1, h.2]
  simp
theorem cut_to {xs : List V} (n : Nat) : cutV xs none (some (n : Int)) = xs.take n := by
  unfold cutV
  rw [HT.sIx_none, HT.sIx_nat, List.drop_zero, Nat.sub_zero]
  by_cases h : n ≤ xs.length
  · rw [Nat.min_eq_left h]
  · rw [Nat.min_eq_right (by omega), List.take_length, List.take_of_length_le (by omega)]
theorem cut_from {xs : List V} (n : Nat) : cutV xs (some (n : Int)) none = xs.drop n := by
  unfold cutV
  rw [HT.sIx_none, HT.sIx_nat]
  by_cases h : n ≤ xs.length
  · rw [Nat.min_eq_left h]
    exact List.take_of_length_le (by rw [List.length_drop]; omega)
  · rw [Nat.min_eq_right (by omega), List.drop_length, List.drop_eq_nil_of_le (by omega)]
    simp
theorem cut_mid {xs : List V} (n m : Nat) (hm : n ≤ m) : cutV xs (some (n : Int)) (some (m : Int)) = (xs.drop n).take (m - n) := by
  unfold cutV
  rw [HT.sIx_nat, HT.sIx_nat]
  by_cases h : m ≤ xs.length
  · rw [Nat.min_eq_left h, Nat.min_eq_left (by omega)]
  · by_cases h2 : n ≤ xs.length
    · rw [Nat.min_eq_left h2, Nat.min_eq_right (by omega), List.take_of_length_le (by rw [List.length_drop]; omega), List.take_of_length_le (by rw [List.length_drop]; omega)]
    · rw [Nat.min_eq_right (by omega), Nat.min_eq_right (by omega), List.drop_length, List.drop_eq_nil_of_le (by omega)]
      simp
section
variable {K : PySem.W.Frag} {mg : Str → Option Value} {C : Addr} {σ : L2.St} {H H' : Hp} {ta tb tc te : TE} {tA : TA} {t u : TT} {x y z v : V} {r r' : R2} {P : V → Hp → Prop} {sp : Sp} {E : XK} {vs : List V} {tl th : TO}
theorem evp_slT {xs : List V} {lo hi : Option Int} (ha : EvP ta σ H (IsTu xs)) (hl : EvO tl σ H lo) (hh : EvO th σ H hi) : EvP (L2.tSl (rSlA K) ta tl th) σ H (IsTu (cutV xs lo hi)) := fun H1 e Q q =>
  ha H1 e _ fun w H2 e2 h2 => hl H2 (e.trans e2) _ fun H3 e3 => hh H3 ((e.trans e2).trans e3) _ fun H4 e4 => by
    obtain ⟨a, rfl, ht⟩ := h2
    have h4 := ex_rd (e3.trans e4) ht
    refine ⟨a, xs, rfl, .inl h4, fun hw => ?_, fun hw p hp => ?_⟩
    · exact q _ H4 ((e2.trans e3).trans e4) ⟨a, rfl, by rw [cut_whole hw]; exact h4⟩
    · exact q _ _ (((e2.trans e3).trans e4).trans (Ex.new hp)) ⟨p, rfl, .inl upd_same⟩
theorem evp_catT {xs ys : List V} (ha : EvP ta σ H (IsTu xs)) (hb : ∀ H1, Ex H H1 → EvP tb σ H1 (IsTu ys)) (hz : xs.length + ys.length ≤ 100000) : EvP (tOp (rCatA K) ta tb) σ H (IsTu (xs ++ ys)) := fun H1 e Q q =>
  ha H1 e _ fun w H2 e2 h2 => hb H2 (e.trans e2) H2 (Ex.refl _) _ fun w2 H3 e3 h3 => by
    obtain ⟨a, rfl, h2⟩ := h2
    obtain ⟨b, rfl, h3⟩ := h3
    have h2' := ex_rd e3 h2
    refine ⟨a, b, xs, ys, rfl, rfl, .inl h2', .inl h3, sz_of hz, fun hx => ?_, fun hx hy => ?_, fun hx hy p hp => ?_⟩
    · exact q _ H3 (e2.trans e3) ⟨b, rfl, by rw [hx]; exact h3⟩
    · exact q _ H3 (e2.trans e3) ⟨a, rfl, by rw [hy, List.append_nil]; exact h2'⟩
    · exact q _ _ ((e2.trans e3).trans (Ex.new hp)) ⟨p, rfl, .inl upd_same⟩
theorem evp_rev {xs : List V} (ha : EvP ta σ H (IsTu xs)) : EvP (tRevT K ta) σ H (IsTu xs.reverse) := fun H1 e Q q => ha H1 e _ fun w H2 e2 h2 => by
  obtain ⟨a, rfl, h2⟩ := h2
  exact ⟨a, xs, rfl, .inl h2, fun p hp => q _ _ (e2.trans (Ex.new hp)) ⟨p, rfl, .inl upd_same⟩⟩
theorem evp_tu {p : Addr} {xs : List V} (h : Ev ta σ H (.ref p)) (ht : Rd H p (.tup xs)) : EvP ta σ H (IsTu xs) := evp_of h fun H2 e2 => ⟨p, rfl, ex_rd e2 ht⟩
theorem evp_tuU {xs : List V} (h : EvU ta σ H xs) : EvP ta σ H (IsTu xs) := fun H1 e Q q => h H1 e Q fun p H2 hp e2 h2 => q _ H2 e2 ⟨p, rfl, .inl h2⟩
theorem evp_tuple {xs : List V} (h : EvL te σ H xs) : EvP (tCB (rTupS K) (tCons te tNil)) σ H (IsTu xs) := evp_tuU (eu_tuple h)
theorem ei_tupP {xs : List V} (h : EvP te σ H (IsTu xs)) : EvI (iTup K te) σ H xs.length (YL xs) := fun H1 e R q =>
  h H1 e _ fun w H2 e2 hw => by
    obtain ⟨a, rfl, ha⟩ := hw
    refine ⟨a, rfl, ⟨xs, .inl ha⟩, q _ _ e2 fun i H3 e3 => ?_⟩
    have hs : SqT K H3 a xs := .inl (ex_rd e3 ha)
    exact ⟨fun hi => ⟨xs, xs[i], hs, List.getElem?_eq_getElem hi⟩, fun hi => ⟨xs, hs, hi⟩, fun v H4 y => ⟨y.1, y.2 xs hs⟩⟩
theorem ei_zipP {xs ys : List V} {n : Nat} (h : EvPA tA σ H fun vs H2 => ∃ a b, vs = [.ref a, .ref b] ∧ Rd H2 a (.tup xs) ∧ Rd H2 b (.tup ys)) (hn : n = min xs.length ys.length) :
    EvI (RZ.iZipA K tA) σ H n (fun i H3 v H4 => ∃ T x y, v = .ref T ∧ H3 T = none ∧ H4 = upd H3 T (.tup [x, y]) ∧ xs[i]? = some x ∧ ys[i]? = some y) := fun H1 e R q =>
  h H1 e _ fun vs H2 e2 w => by
    obtain ⟨a, b, rfl, hx, hy⟩ := w
    refine ⟨a, b, xs, ys, rfl, Or.inr ⟨.inl hx, .inl hy, q _ _ e2 fun i H3 e3 => ?_⟩⟩
    have h1 : SqT K H3 a xs := .inl (ex_rd e3 hx)
    have h2 : SqT K H3 b ys := .inl (ex_rd e3 hy)
    refine ⟨fun hi => ⟨xs, ys, xs[i]'(by omega), ys[i]'(by omega), h1, h2, List.getElem?_eq_getElem _, List.getElem?_eq_getElem _⟩, fun hi => ⟨xs, ys, h1, h2, by omega⟩, fun v H4 y => ?_⟩
    obtain ⟨T, x, y, e1, e2, e3, e4, e5⟩ := y
    exact ⟨T, x, y, e1, e2, e3, e4 xs h1, e5 ys h2⟩
theorem ev_allP {n : Nat} {Q0 : Nat → List V → Hp → Prop} (h : EvP te σ H (NewL H n fun i ys _ => ys = List.replicate i (.bl true))) : Ev (tCB (rAll K) (tCons te tNil)) σ H (.bl true) := fun H1 e Q q =>
  h H1 e _ fun w H2 e2 z => by
    obtain ⟨p, ys, rfl, _, hp, rfl⟩ := z
    refine ⟨p, List.replicate n true, rfl, sq_of (by rw [hp, List.map_replicate]), ?_⟩
    have e3 : (List.replicate n true).all id = true := List.all_eq_true.mpr fun x hx => by
      rw [List.mem_replicate] at hx
      rw [hx.2]
      rfl
    rw [e3]
    exact q H2 e2
end
/-! sorting rows, dicts of rows -/
theorem yes_if {σ : L2.St} {H : Hp} {A B : Hp → Prop} (h : A H) : tYes σ H (fun b H3 => if b = true then A H3 else B H3) := by
  show if true = true then A H else B H
  rw [if_pos rfl]
  exact h
section
variable {K : PySem.W.Frag} {mg : Str → Option Value} {C : Addr} {σ : L2.St} {H H' : Hp} {ta tb tc te tv : TE} {tA : TA}
theorem evp_sortLT {lot : Rw} {rs : List Rw} {v : V} (h : Ev ta σ H v) (hr : RowsT H v rs ∨ RowsL H v rs) (ok : ∀ r ∈ rs, RowOk lot.length r) (h64 : rs.length < 64) (hd : 2 ≤ rs.length → 1 ≤ lot.length) :
    EvP (tCB (rSortLT K) (tCons ta tNil)) σ H fun v H2 => RowsL H2 v (srt rs) := fun H1 e Q q => h H1 e _ fun H2 e2 => by
  have fin : SortEnd H2 rs Q := fun p as' hp hr' => q _ _ (e2.trans (Ex.new hp)) ⟨p, as', rfl, upd_same, rows_mono (fz_of (Ex.new hp)) hr'⟩
  rcases hr with ⟨a, as, rfl, ha, r⟩ | ⟨a, as, rfl, ha, r⟩
  · exact .inr ⟨a, as, rs, lot.length, rfl, st_of (e2 _ _ (e _ _ ha)), rows_mono (fz_of (e.trans e2)) r, h64, ok, hd, fin⟩
  · exact .inl ⟨a, as, rs, lot.length, rfl, sq_of (e2 _ _ (e _ _ ha)), rows_mono (fz_of (e.trans e2)) r, h64, ok, hd, fin⟩
theorem evp_sortL {d : Nat} {rs : List Rw} (h : EvP ta σ H fun v H2 => RowsL H2 v rs) (ok : ∀ r ∈ rs, RowOk d r) (h64 : rs.length < 64) (hd : 2 ≤ rs.length → 1 ≤ d) :
    EvP (tCB (rSortL K) (tCons ta tNil)) σ H fun v H2 => RowsL H2 v (srt rs) := fun H1 e Q q => h H1 e _ fun v H2 e2 hr => by
  have fin : SortEnd H2 rs Q := fun p as' hp hr' => q _ _ (e2.trans (Ex.new hp)) ⟨p, as', rfl, upd_same, rows_mono (fz_of (Ex.new hp)) hr'⟩
  obtain ⟨a, as, rfl, ha, r⟩ := hr
  exact ⟨a, as, rs, d, rfl, sq_of ha, r, h64, ok, hd, fin⟩
theorem evp_sortD {d : Nat} {a : Addr} {f : Rw → V} {rs : List Rw} (h : Ev ta σ H (.ref a)) (ha : H a = some (.dT (tab f rs))) (ok : ∀ r ∈ rs, RowOk d r) (h64 : rs.length < 64) (hd : 2 ≤ rs.length → 1 ≤ d) :
    EvP (tCB rSortD (tCons ta tNil)) σ H fun v H2 => RowsL H2 v (srt rs) := fun H1 e Q q => h H1 e _ fun H2 e2 => by
  have fin : SortEnd H2 rs Q := fun p as' hp hr' => q _ _ (e2.trans (Ex.new hp)) ⟨p, as', rfl, upd_same, rows_mono (fz_of (Ex.new hp)) hr'⟩
  exact ⟨a, tab f rs, rs, d, rfl, .inl (e2 _ _ (e _ _ ha)), tab_keys f rs, h64, ok, hd, fin⟩
/-- {p: v for p in rows} -/
theorem evp_dcT {j : Nat} {ws : List Nat} {xs : List Rw} (f : Rw → V) (h : EvP te σ H fun v H2 => RowsL H2 v xs) (hn : xs.length ≤ 40000) (hw : ∀ v, wipe ((wipe σ ws).set j (some v)) ws = wipe σ ws) (hj : ∀ v, ((wipe σ ws).set j (some v))[j]? = some (some v))
    (hv : ∀ p t H', p ∈ xs → Ex H H' → H' t = some (.tup (p.map V.int)) → Ev tv ((wipe σ ws).set j (some (.ref t))) H' (f p)) :
    EvP (tDcT (iList K te) (gName j) tYes (tVar j) tv ws) σ H fun v H2 => ∃ d, v = .ref d ∧ H2 d = some (.dT (tab f (dist xs))) := fun H1 e Q q => h H1 e _ fun v H2 e2 hr => by
  obtain ⟨a, as, rfl, ha, r⟩ := hr
  have len := r.len
  refine ⟨a, rfl, ⟨_, sq_of ha⟩, fun D hD => dcT_list (xs := as.map V.ref) (Qd := Q (.ref D)) (fun i H' => Ex H2 H' ∧ H' D = some (.dT (tab f (dist (xs.take i))))) ⟨Ex.new hD, upd_same⟩ (fun i H' _ p => sq_of (p.1 _ _ ha)) (fun i x H' hx p => ?_) fun H' p => ?_⟩
  · obtain ⟨p1, p2⟩ := p
    rw [List.getElem?_map] at hx
    obtain ⟨t, ht, rfl⟩ := Option.map_eq_some_iff.mp hx
    obtain ⟨ns, hns, hh⟩ := r.get ht
    refine ⟨hw _, ?_⟩
    refine yes_if ⟨.ref t, hj _, ?_⟩
    refine hv ns t H' (List.mem_of_getElem? hns) ((e.trans e2).trans p1) (p1 _ _ hh) H' (Ex.refl _) _ fun H5 e5 => ?_
    have l1 := dist_len (xs.take i)
    rw [List.length_take] at l1
    refine ⟨_, keyR ns, t, rfl, by rw [keyR_kV]; exact e5 _ _ (p1 _ _ hh), e5 _ _ p2, sz_lt (by rw [tab_len]; omega), Ex.mut (p1.trans e5) hD, ?_⟩
    rw [upd_same, putK_tab, tab_congr (g := f) (fun p _ => by
      by_cases z : p = ns
      · rw [if_pos z, z]
      · rw [if_neg z]), List.take_add_one, hns]
    show _ = some (HO.dT (tab f (dist (xs.take i ++ [ns]))))
    rw [dist_snoc]
  · obtain ⟨p1, p2⟩ := p
    rw [List.length_map, len, List.take_length] at p2
    exact q _ _ (e2.trans p1) ⟨D, rfl, p2⟩
end
/-! statements over described values -/
section
variable {K : PySem.W.Frag} {σ : L2.St} {H : Hp} {ta te tv : TE} {P : V → Hp → Prop} {D : Ends} {tz : TS} {g : TG} {f : Str}
theorem q_asgP {i : Nat} (h : EvP te σ H P) (k : ∀ v H1, Ex H H1 → P v H1 → tz D (σ.set i (some v)) H1) : tSeq (tAsg te (gName i)) tz D σ H := h H (Ex.refl H) _ k
theorem s_asgP {i : Nat} (h : EvP te σ H P) (k : ∀ v H1, Ex H H1 → P v H1 → D.nx (σ.set i (some v)) H1) : tAsg te (gName i) D σ H := h H (Ex.refl H) _ k
theorem q_asgG (h : EvP te σ H P) (k : ∀ v H1, Ex H H1 → P v H1 → g v σ H1 fun σ2 H2 => tz D σ2 H2) : tSeq (tAsg te g) tz D σ H := h H (Ex.refl H) _ k
theorem s_asgG (h : EvP te σ H P) (k : ∀ v H1, Ex H H1 → P v H1 → g v σ H1 D.nx) : tAsg te g D σ H := h H (Ex.refl H) _ k
theorem s_retP (h : EvP te σ H P) (k : ∀ v H1, Ex H H1 → P v H1 → D.rt v H1) : tRet te D σ H := h H (Ex.refl H) _ k
theorem q_dropP (h : EvP te σ H P) (k : ∀ v H1, Ex H H1 → P v H1 → tz D σ H1) : tSeq (tDrop te) tz D σ H := h H (Ex.refl H) _ k
theorem q_sslP (h : EvP tv σ H P) (k : ∀ v H1, Ex H H1 → P v H1 → ta σ H1 fun x H2 => ∃ a C dx p vs i, x = .ref a ∧ SlX.Slt H2 a C dx vs ∧ SlX.SCls K C ∧ SlX.Slot1 K C f p i ∧ tz D σ (SlX.slH H2 a C dx (SlX.putS i v vs))) : tSeq (SlX.sSl K ta tv f) tz D σ H := h H (Ex.refl H) _ k
end
/-! a table made -/
theorem evp_tupF {tA : TA} {σ : L2.St} {H : Hp} {vs : List V} (h : EvA tA σ H vs) (hl : vs.length ≤ 100000) : EvP (tTupF tA) σ H fun v H2 => ∃ p ob, v = .ref p ∧ H2 p = some (.frz ob (.tup vs)) ∧ ob.dict = none := fun H1 e Q q =>
  h H1 e _ fun H2 e2 => ⟨sz_of hl, fun p ob hp ho => q _ _ (e2.trans (Ex.new hp)) ⟨p, ob, rfl, upd_same, ho⟩⟩
theorem q_raw {te : TE} {tz : TS} {D : Ends} {σ : L2.St} {H : Hp} {i : Nat} (h : te σ H fun v H1 => tz D (σ.set i (some v)) H1) : tSeq (tAsg te (gName i)) tz D σ H := h
theorem mk_raw {C : Addr} {sp : Sp} {E : XK} {tA : TA} {σ : L2.St} {H : Hp} {Q : VK} {Pa : List V → Hp → Prop} (h : EvPA tA σ H Pa) (k : ∀ vs H1, Ex H H1 → Pa vs H1 → ∀ x dx, H1 x = none → H1 dx = none → dx ≠ x →
  sp (V.ref x :: vs) (upd (upd H1 dx (.own x)) x (.ins C dx [])) (fun v H2 => v = .non ∧ Q (.ref x) H2) E) : StX.tMakeR C sp E tA σ H Q := h H (Ex.refl H) _ k
section
variable {K : PySem.W.Frag} {C : Addr} {σ : L2.St} {H : Hp} {tA : TA} {lot : Rw} {rs : List Rw}
theorem made_ex {x dx : Addr} {H1 H2 : Hp} {o u : HO} (hx : H1 x = none) (hdx : H1 dx = none) (m : Made C x dx lot rs (upd (upd H1 dx o) x u) H2) : Ex H1 H2 := fun a w q => by
  have n1 := ne_of_none q hx
  have n2 := ne_of_none q hdx
  refine m.1 a w n1 n2 ?_
  rw [upd_ne n1, upd_ne n2]
  exact q
theorem evp_mk (h : EvPA tA σ H fun vs H1 => ∃ b c, vs = [b, c] ∧ LT H1 b lot ∧ RowsT H1 c rs) (ok : TOk lot rs) (h64 : rs.length < 64) (hd : 2 ≤ rs.length → 1 ≤ lot.length) :
    EvP (StX.tMakeR C (sp_T_init K C) E0 tA) σ H fun v H2 => TabV C H2 v lot (mk rs) := fun H1 e Q q => h H1 e _ fun vs H2 e2 z => by
  obtain ⟨b, c, rfl, hb, hc⟩ := z
  intro x dx hx hdx ne
  have ex : Ex H2 (upd (upd H2 dx (.own x)) x (.ins C dx [])) := fun a o q => by
    rw [upd_ne (ne_of_none q hx), upd_ne (ne_of_none q hdx)]
    exact q
  refine ⟨_, _, _, rfl, x, dx, lot, rs, rfl, upd_same, ne, by rw [upd_ne ne, upd_same], hb.mono (fz_of ex), hc.mono (fz_of ex), ok, h64, hd, fun H3 m => ⟨rfl, ?_⟩⟩
  exact q _ _ (e2.trans (made_ex hx hdx m)) ⟨x, rfl, dx, m.2.2⟩
end
theorem mem_int {ns : Rw} {v : V} (h : v ∈ ns.map V.int) : ∃ n, n ∈ ns ∧ v = .int n := by
  obtain ⟨n, h1, h2⟩ := List.mem_map.mp h
  exact ⟨n, h1, h2.symm⟩
end Q44
namespace Q44
open PySem PySem.Spec PyProof.Rows L2 M44 Evl
section
variable {P : Program} {w : World} {K : PySem.W.Frag} {mg : Str → Option Value} {base : Heap} {C : Addr}
abbrev s_is_letter : Stmt := top 8
abbrev N_is_letter : List Str := ["value"]
theorem sc_is_letter : FnScope N_is_letter ["value"] (defScope s_is_letter) := ⟨rfl, rfl, rfl, by decide +kernel, rfl, by decide +kernel, by decide +kernel⟩
theorem ok_is_letter {f : Addr} {fd : FuncData} (F : Fun K "is_letter" "is_letter" s_is_letter f fd) (T : Tx K mg C) : FnOk P w K mg base CX0 1 f fd ["value"] (sp_is_letter K C) := by
  refine F.ok sc_is_letter (fun vs H Q E h => len_sp1 h) (fun cdv A outer s H vs Q E hr h => ?_)
  obtain ⟨v0, rfl, h⟩ := h
  refine ⟨_, (pss_one (ps_ret (pe_and (pe_callB (k_isI (K := K) rfl T.is) (by rfl) T.isinstance (by decide +kernel) (pa_cons (pv 0) (pa_cons (pe_bltn (v := .ty "int") (by rfl) T.m_int boot_int rfl) pa_nil))) (pe_and (pe_not (pe_callB (k_isB (K := K) rfl T.is) (by rfl) T.isinstance (by decide +kernel) (pa_cons (pv 0) (pa_cons (pe_bltn (v := .ty "bool") (by rfl) T.m_bool boot_bool rfl) pa_nil)))) (pe_one (pe_chain op_le op_lt pe_int (pv 0) (pe_gi (by rfl) T.LETTERS))))))), ?_⟩
  obtain ⟨n, rfl, h0, h6, k⟩ := h
  refine s_ret (ev_is (ev_andV (ev_isI (ev_var rfl) (.int n)) fun _ => ev_andV (ev_notV (ev_isB (ev_var rfl) (.int n))) fun _ => ev_chain ev_c (ev_var rfl) rv_I0 (fun _ => ev_c) fun _ => rv_I0) ?_) k
  rw [decide_eq_true h0, decide_eq_true h6]
  rfl
abbrev s_is_whole : Stmt := top 13
abbrev N_is_whole : List Str := ["value"]
theorem sc_is_whole : FnScope N_is_whole ["value"] (defScope s_is_whole) := ⟨rfl, rfl, rfl, by decide +kernel, rfl, by decide +kernel, by decide +kernel⟩
theorem ok_is_whole {f : Addr} {fd : FuncData} (F : Fun K "is_whole" "is_whole" s_is_whole f fd) (T : Tx K mg C) : FnOk P w K mg base CX0 1 f fd ["value"] (sp_is_whole K C) := by
  refine F.ok sc_is_whole (fun vs H Q E h => len_sp1 h) (fun cdv A outer s H vs Q E hr h => ?_)
  obtain ⟨v0, rfl, h⟩ := h
  refine ⟨_, (pss_one (ps_ret (pe_and (pe_callB (k_isI (K := K) rfl T.is) (by rfl) T.isinstance (by decide +kernel) (pa_cons (pv 0) (pa_cons (pe_bltn (v := .ty "int") (by rfl) T.m_int boot_int rfl) pa_nil))) (pe_one (pe_not (pe_callB (k_isB (K := K) rfl T.is) (by rfl) T.isinstance (by decide +kernel) (pa_cons (pv 0) (pa_cons (pe_bltn (v := .ty "bool") (by rfl) T.m_bool boot_bool rfl) pa_nil)))))))), ?_⟩
  obtain ⟨⟨i, rfl⟩ | ⟨b, rfl⟩, k⟩ := h
  · exact s_ret (v := .bl true) (ev_andV (b := true) (ev_isI (b := true) (ev_var rfl) (.int i)) fun _ => ev_notV (ev_isB (b := false) (ev_var rfl) (.int i))) k
  · exact s_ret (v := .bl false) (ev_andV (b := false) (ev_isI (b := true) (ev_var rfl) (.bl b)) fun _ => ev_notV (ev_isB (b := true) (ev_var rfl) (.bl b))) k
theorem lot_len {ns : Rw} (ok : LotOk ns) : ns.length ≤ 6 := by
  have h : ∀ (ns : Rw) (lo : Int), (∀ x ∈ ns, lo ≤ x ∧ x < 6) → ns.Pairwise (· < ·) → (ns.length : Int) ≤ max (6 - lo) 0 := by
    intro ns
    induction ns with
    | nil => intro lo _ _; show ((0 : Nat) : Int) ≤ _; omega
    | cons a ns ih =>
      intro lo h1 h2
      have ha := h1 a List.mem_cons_self
      rw [List.pairwise_cons] at h2
      have z := ih (a + 1) (fun x hx => ⟨h2.1 x hx, (h1 x (List.mem_cons_of_mem _ hx)).2⟩) h2.2
      rw [List.length_cons]
      omega
  have z := h ns 0 ok.1 ok.2
  omega
abbrev s_is_lot : Stmt := top 9
abbrev N_is_lot : List Str := ["value", "letter", "one", "other"]
theorem sc_is_lot : FnScope N_is_lot ["value"] (defScope s_is_lot) := ⟨rfl, rfl, rfl, by decide +kernel, rfl, by decide +kernel, by decide +kernel⟩
theorem ok_is_lot {f : Addr} {fd : FuncData} (F : Fun K "is_lot" "is_lot" s_is_lot f fd) (T : Tx K mg C) {f_is_letter : Addr} (D_is_letter : Df P w K mg base "is_letter" f_is_letter 1 (sp_is_letter K C)) : FnOk P w K mg base CX0 2 f fd ["value"] (sp_is_lot K C) := by
  refine F.ok sc_is_lot (fun vs H Q E h => len_sp1 h) (fun cdv A outer s H vs Q E hr h => ?_)
  obtain ⟨v0, rfl, h⟩ := h
  refine ⟨_, (pss_cons (ps_if ((pw_or (pt_not (pt_val (pe_callB (k_isT (K := K) rfl T.is) (by rfl) T.isinstance (by decide +kernel) (pa_cons (pv 0) (pa_cons (pe_bltn (v := .ty "tuple") (by rfl) T.m_tuple boot_tuple rfl) pa_nil))))) (pw_or1 (pt_not (pt_val (pe_callB (k_all (K := K) rfl) (by rfl) T.all (by decide +kernel) (pa_cons (pe_lc (own := [("letter", 1)]) rfl sc_is_lot.nd (k_pit (K := K) rfl (pv 0)) (blkOk_by (own := [("letter", 1)]) (N := N_is_lot) (sc := defScope s_is_lot) (by decide +kernel)) (fun _ _ _ _ _ => (pg_name (i := 1) sc_is_lot.nd rfl (Or.inl rfl))) (fun _ _ _ _ _ => pts_nil) (fun _ _ _ _ _ => (pe_d D_is_letter hr (by decide) (pa_cons (pv 1) pa_nil)))) pa_nil)))))).pt) (pss_one (ps_ret pe_bl)) pss_nil)
      (pss_one (ps_ret (pe_callB (k_all (K := K) rfl) (by rfl) T.all (by decide +kernel) (pa_cons (pe_lc (own := [("one", 2), ("other", 3)]) rfl sc_is_lot.nd (k_zip (K := K) rfl (by rfl) T.zip (pa_cons (pv 0) (pa_cons (pe_slice (k_slT (K := K) rfl) (pv 0) (po_some pe_int) po_none) pa_nil))) (blkOk_by (own := [("one", 2), ("other", 3)]) (N := N_is_lot) (sc := defScope s_is_lot) (by decide +kernel)) (fun _ _ _ _ _ => (k_gt (K := K) (n := 2) rfl rfl (pgs_cons (pg_name (i := 2) sc_is_lot.nd rfl (Or.inl rfl)) (pgs_cons (pg_name (i := 3) sc_is_lot.nd rfl (Or.inl rfl)) pgs_nil)))) (fun _ _ _ _ _ => pts_nil) (fun _ _ _ _ _ => (pe_cmpR op_lt (pv 2) (pv 3) (nomark _)))) pa_nil))))), ?_⟩
  obtain ⟨ns, ⟨a, rfl, ha⟩, ok, k⟩ := h
  have hlen : ns.length ≤ 6 := lot_len ok
  refine q_when (b := false) (et_or (et_not (et_B (ev_isT (ev_var rfl) (.tup ha)))) fun _ => et_not (et_B (ev_allT (ei_tup (ev_var rfl) ha) (by rw [List.length_map]; omega) (fun _ => rfl) fun v H1 hv e => ?_))) (fun z => nomatch z) fun _ H1 e1 => ?_
  · obtain ⟨n, hn, rfl⟩ := mem_int hv
    exact ev_def (ea1 (ev_var rfl)) (spv1 fun H2 e2 Q k => ⟨n, rfl, (ok.1 n hn).1, (ok.1 n hn).2, k⟩)
  · have ha1 := ex_rd e1 ha
    refine s_ret (v := .bl true) (ev_allP (Q0 := fun _ _ _ => True) (lc_gen (fun i ys _ => ys = List.replicate i (.bl true)) (ei_zipP (xs := ns.map V.int) (ys := (ns.map V.int).drop 1) (n := (ns.map V.int).length - 1) ?_ ?_) (by rw [List.length_map]; omega) (fun _ _ => rfl) (fun _ _ _ _ _ p => p) (fun i v ys H2 H3 lt e2 p y => ?_) g2_mono)) fun H2 e2 => k H2 (e1.trans e2)
    · refine eap_cons (evp_tu (ev_var rfl) ha1) fun v H2 e2 z => ?_
      obtain ⟨p, rfl, hp⟩ := z
      refine eap_cons (evp_slT (evp_tu (ev_var rfl) (ex_rd e2 ha1)) (eo_some ev_c) eo_none) fun v H3 e3 z => ?_
      obtain ⟨q, rfl, hq⟩ := z
      rw [show (1 : Int) = ((1 : Nat) : Int) from rfl, cut_from] at hq
      exact eap_nil fun H4 e4 => ⟨p, q, rfl, ex_rd (e3.trans e4) hp, ex_rd e4 hq⟩
    · rw [List.length_drop]
      omega
    · obtain ⟨T, x, y, rfl, hT, rfl, hx, hy⟩ := y
      subst p
      rw [List.getElem?_drop] at hy
      obtain ⟨m, hm, rfl⟩ := mem_int (List.mem_of_getElem? hx)
      obtain ⟨m2, hm2, rfl⟩ := mem_int (List.mem_of_getElem? hy)
      rw [List.getElem?_map] at hx hy
      have lt2 : m < m2 := by
        obtain ⟨a1, b1, c1⟩ := Option.map_eq_some_iff.mp hx
        obtain ⟨a2, b2, c2⟩ := Option.map_eq_some_iff.mp hy
        cases c1
        cases c2
        obtain ⟨l1, g1⟩ := List.getElem?_eq_some_iff.mp b1
        obtain ⟨l2, g2⟩ := List.getElem?_eq_some_iff.mp b2
        rw [← g1, ← g2]
        exact List.pairwise_iff_getElem.mp ok.2 _ _ l1 l2 (by omega)
      refine ⟨T, [.int m, .int m2], rfl, st_of upd_same, rfl, _, _, rfl, _, _, rfl, rfl, rfl, Ex.new hT, true, et_yes, fun z => (nomatch z), fun _ => ?_⟩
      refine evp_of (ev_op (ev_var rfl) (ev_var rfl) rv_I0) fun H4 e4 => ?_
      rw [decide_eq_true lt2, List.replicate_succ']
theorem inV_int {n : Int} {ms : Rw} : inV (.int n) (ms.map V.int) = decide (n ∈ ms) := by
  unfold inV
  rw [List.any_map]
  by_cases h : n ∈ ms
  · rw [decide_eq_true h]
    exact List.any_eq_true.mpr ⟨n, h, by show eqV (.int n) (.int n) = true; simp [eqV]⟩
  · rw [decide_eq_false h]
    refine List.any_eq_false.mpr fun x hx z => h ?_
    have e : x = n := by
      have z : eqV (.int x) (.int n) = true := z
      simpa [eqV] using z
    rw [← e]
    exact hx
abbrev s_within_in : Stmt := top 10
abbrev N_within_in : List Str := ["one", "other", "letter"]
theorem sc_within_in : FnScope N_within_in ["one", "other"] (defScope s_within_in) := ⟨rfl, rfl, rfl, by decide +kernel, rfl, by decide +kernel, by decide +kernel⟩
theorem ok_within_in {f : Addr} {fd : FuncData} (F : Fun K "within_in" "within_in" s_within_in f fd) (T : Tx K mg C) : FnOk P w K mg base CX0 1 f fd ["one", "other"] (sp_within_in K C) := by
  refine F.ok sc_within_in (fun vs H Q E h => len_sp2 h) (fun cdv A outer s H vs Q E hr h => ?_)
  obtain ⟨v0, v1, rfl, h⟩ := h
  refine ⟨_, (pss_one (ps_ret (pe_callB (k_all (K := K) rfl) (by rfl) T.all (by decide +kernel) (pa_cons (pe_lc (own := [("letter", 2)]) rfl sc_within_in.nd (k_pit (K := K) rfl (pv 0)) (blkOk_by (own := [("letter", 2)]) (N := N_within_in) (sc := defScope s_within_in) (by decide +kernel)) (fun _ _ _ _ _ => (pg_name (i := 2) sc_within_in.nd rfl (Or.inl rfl))) (fun _ _ _ _ _ => pts_nil) (fun _ _ _ _ _ => (pe_cmpR (k_in (K := K) rfl) (pv 2) (pv 1) (by rfl)))) pa_nil)))), ?_⟩
  obtain ⟨ns, ms, ⟨a, rfl, ha⟩, ⟨b, rfl, hb⟩, hlen, sub, k⟩ := h
  refine s_ret (v := .bl true) (ev_allT (ei_tup (ev_var rfl) ha) (by rw [List.length_map]; omega) (fun _ => rfl) fun v H1 hv e => ?_) k
  obtain ⟨n, hn, rfl⟩ := mem_int hv
  refine ev_is (ev_op (ev_var rfl) (ev_var rfl) (rv_isT (.inl (ex_rd e hb)) rfl (flat_ints ms))) ?_
  rw [inV_int, decide_eq_true (sub n hn)]
abbrev s_require_lot : Stmt := top 11
abbrev N_require_lot : List Str := ["value"]
theorem sc_require_lot : FnScope N_require_lot ["value"] (defScope s_require_lot) := ⟨rfl, rfl, rfl, by decide +kernel, rfl, by decide +kernel, by decide +kernel⟩
theorem ok_require_lot {f : Addr} {fd : FuncData} (F : Fun K "require_lot" "require_lot" s_require_lot f fd) (T : Tx K mg C) {f_is_lot : Addr} (D_is_lot : Df P w K mg base "is_lot" f_is_lot 2 (sp_is_lot K C)) : FnOk P w K mg base CX0 3 f fd ["value"] (sp_require_lot K C) := by
  refine F.ok sc_require_lot (fun vs H Q E h => len_sp1 h) (fun cdv A outer s H vs Q E hr h => ?_)
  obtain ⟨v0, rfl, h⟩ := h
  refine ⟨_, (pss_one (ps_if (pt_not (pt_val (pe_d D_is_lot hr (by decide) (pa_cons (pv 0) pa_nil)))) (pss_one ps_never) pss_nil)), ?_⟩
  obtain ⟨ns, hi, ok, k⟩ := h
  exact s_when (b := false) (et_not (a := true) (et_B (ev_def (ea1 (ev_var rfl)) (spv1 fun H2 e2 Q k => ⟨ns, hi.mono (fz_of e2), ok, k⟩)))) (fun z => nomatch z) fun _ H1 e1 => k H1 e1
abbrev s_is_within : Stmt := top 14
abbrev N_is_within : List Str := ["value", "least", "most"]
theorem sc_is_within : FnScope N_is_within ["value", "least", "most"] (defScope s_is_within) := ⟨rfl, rfl, rfl, by decide +kernel, rfl, by decide +kernel, by decide +kernel⟩
theorem ok_is_within {f : Addr} {fd : FuncData} (F : Fun K "is_within" "is_within" s_is_within f fd) (T : Tx K mg C) {f_is_whole : Addr} (D_is_whole : Df P w K mg base "is_whole" f_is_whole 1 (sp_is_whole K C)) : FnOk P w K mg base CX0 2 f fd ["value", "least", "most"] (sp_is_within K C) := by
  refine F.ok sc_is_within (fun vs H Q E h => len_sp3 h) (fun cdv A outer s H vs Q E hr h => ?_)
  obtain ⟨v0, v1, v2, rfl, h⟩ := h
  refine ⟨_, (pss_one (ps_ret (pe_and (pe_d D_is_whole hr (by decide) (pa_cons (pv 0) pa_nil)) (pe_one (pe_chain op_le op_le (pv 1) (pv 0) (pv 2)))))), ?_⟩
  obtain ⟨m, rfl, rfl, hj, k⟩ := h
  refine s_ret (ev_is (ev_andV (b := match v0 with | .int i => decide (0 ≤ i) && decide (i ≤ m) | _ => true) (ev_def (ea1 (ev_var rfl)) (spv1 fun H2 e2 Q k => ⟨hj, k⟩)) fun hi => ?_) ?_) k
  · obtain ⟨i, rfl⟩ | ⟨b, rfl⟩ := hj
    · exact ev_chain (ev_var rfl) (ev_var rfl) rv_I0 (fun _ => ev_var rfl) fun _ => rv_I0
    · cases hi
  · obtain ⟨i, rfl⟩ | ⟨b, rfl⟩ := hj
    · show V.bl (true && (decide (0 ≤ i) && decide (i ≤ m))) = V.bl (decide (0 ≤ i ∧ i ≤ m))
      rw [Bool.true_and]
      congr 1
      simp
    · rfl
theorem ev_bits {σ : L2.St} {H : Hp} {te : TE} {i : Int} (h : Ev te σ H (.int i)) : Ev (tBits te) σ H (.int ((Builtin.Int.intBits i : Nat) : Int)) := fun H1 e Q q => h H1 e _ fun H2 e2 => ⟨i, rfl, q H2 e2⟩
abbrev s_power_in : Stmt := top 15
abbrev N_power_in : List Str := ["number"]
theorem sc_power_in : FnScope N_power_in ["number"] (defScope s_power_in) := ⟨rfl, rfl, rfl, by decide +kernel, rfl, by decide +kernel, by decide +kernel⟩
theorem ok_power_in {f : Addr} {fd : FuncData} (F : Fun K "power_in" "power_in" s_power_in f fd) (T : Tx K mg C) : FnOk P w K mg base CX0 1 f fd ["number"] (sp_power_in K C) := by
  refine F.ok sc_power_in (fun vs H Q E h => len_sp1 h) (fun cdv A outer s H vs Q E hr h => ?_)
  obtain ⟨v0, rfl, h⟩ := h
  refine ⟨_, (pss_one (ps_ret (pe_ifExp (pt_cmpR op_gt (pv 0) pe_int (nomark _)) (pe_bits (pe_op op_sub (pv 0) pe_int)) pe_int))), ?_⟩
  obtain ⟨n, rfl, k⟩ := h
  refine s_ret (v := .int (pwr n)) (ev_if (b := decide (1 < n)) (et_test (ev_op (ev_var rfl) ev_c rv_I0)) (fun hb => ?_) fun hb => ?_) k
  · have hb : 1 < n := of_decide_eq_true hb
    refine ev_is (ev_bits (ev_op (ev_var rfl) ev_c rv_I0)) ?_
    unfold pwr
    rw [if_pos hb]
  · have hb : ¬ 1 < n := of_decide_eq_false hb
    refine ev_is ev_c ?_
    unfold pwr
    rw [if_neg hb]
abbrev s_require_within : Stmt := top 16
abbrev N_require_within : List Str := ["value", "least", "most"]
theorem sc_require_within : FnScope N_require_within ["value", "least", "most"] (defScope s_require_within) := ⟨rfl, rfl, rfl, by decide +kernel, rfl, by decide +kernel, by decide +kernel⟩
theorem ok_require_within {f : Addr} {fd : FuncData} (F : Fun K "require_within" "require_within" s_require_within f fd) (T : Tx K mg C) {f_is_within : Addr} (D_is_within : Df P w K mg base "is_within" f_is_within 2 (sp_is_within K C)) : FnOk P w K mg base CX0 3 f fd ["value", "least", "most"] (sp_require_within K C) := by
  refine F.ok sc_require_within (fun vs H Q E h => len_sp3 h) (fun cdv A outer s H vs Q E hr h => ?_)
  obtain ⟨v0, v1, v2, rfl, h⟩ := h
  refine ⟨_, (pss_one (ps_if (pt_not (pt_val (pe_d D_is_within hr (by decide) (pa_cons (pv 0) (pa_cons (pv 1) (pa_cons (pv 2) pa_nil)))))) (pss_one ps_never) pss_nil)), ?_⟩
  obtain ⟨i, m, rfl, rfl, rfl, h0, hm, k⟩ := h
  refine s_when (b := false) (et_not (a := true) (et_B (ev_is (ev_def (ea3 (ev_var rfl) (ev_var rfl) (ev_var rfl)) (spv3 fun H2 e2 Q k => ⟨m, rfl, rfl, .inl ⟨i, rfl⟩, k⟩)) ?_))) (fun z => nomatch z) fun _ H1 e1 => k H1 e1
  show V.bl (decide (0 ≤ i ∧ i ≤ m)) = _
  rw [decide_eq_true ⟨h0, hm⟩]
abbrev s_is_small : Stmt := top 20
abbrev N_is_small : List Str := ["value"]
theorem sc_is_small : FnScope N_is_small ["value"] (defScope s_is_small) := ⟨rfl, rfl, rfl, by decide +kernel, rfl, by decide +kernel, by decide +kernel⟩
theorem ok_is_small {f : Addr} {fd : FuncData} (F : Fun K "is_small" "is_small" s_is_small f fd) (T : Tx K mg C) {f_is_whole : Addr} (D_is_whole : Df P w K mg base "is_whole" f_is_whole 1 (sp_is_whole K C)) : FnOk P w K mg base CX0 2 f fd ["value"] (sp_is_small K C) := by
  refine F.ok sc_is_small (fun vs H Q E h => len_sp1 h) (fun cdv A outer s H vs Q E hr h => ?_)
  obtain ⟨v0, rfl, h⟩ := h
  refine ⟨_, (pss_one (ps_ret (pe_and (pe_d D_is_whole hr (by decide) (pa_cons (pv 0) pa_nil)) (pe_one (pe_chain op_lt op_lt (pe_un un_neg (pe_gi (by rfl) T.BOUND)) (pv 0) (pe_gi (by rfl) T.BOUND)))))), ?_⟩
  obtain ⟨n, rfl, h0, hm, k⟩ := h
  refine s_ret (ev_is (ev_andV (ev_def (ea1 (ev_var rfl)) (spv1 fun H2 e2 Q k => ⟨.inl ⟨n, rfl⟩, k⟩)) fun hi => ev_chain (ev_un ev_c ru_neg) (ev_var rfl) rv_I0 (fun _ => ev_c) fun _ => rv_I0) ?_) k
  rw [decide_eq_true h0, decide_eq_true hm]
  rfl
abbrev s_is_row_in : Stmt := top 21
abbrev N_is_row_in : List Str := ["lot", "value", "number"]
theorem sc_is_row_in : FnScope N_is_row_in ["lot", "value"] (defScope s_is_row_in) := ⟨rfl, rfl, rfl, by decide +kernel, rfl, by decide +kernel, by decide +kernel⟩
theorem ok_is_row_in {f : Addr} {fd : FuncData} (F : Fun K "is_row_in" "is_row_in" s_is_row_in f fd) (T : Tx K mg C) {f_is_small : Addr} (D_is_small : Df P w K mg base "is_small" f_is_small 2 (sp_is_small K C)) : FnOk P w K mg base CX0 3 f fd ["lot", "value"] (sp_is_row_in K C) := by
  refine F.ok sc_is_row_in (fun vs H Q E h => len_sp2 h) (fun cdv A outer s H vs Q E hr h => ?_)
  obtain ⟨v0, v1, rfl, h⟩ := h
  refine ⟨_, (pss_one (ps_ret (pe_and (pe_callB (k_isT (K := K) rfl T.is) (by rfl) T.isinstance (by decide +kernel) (pa_cons (pv 1) (pa_cons (pe_bltn (v := .ty "tuple") (by rfl) T.m_tuple boot_tuple rfl) pa_nil))) (pe_and (pe_cmpR op_eq (pe_callB (k_len (K := K) rfl) (by rfl) T.len PySem.boot_len (pa_cons (pv 1) pa_nil)) (pe_callB (k_len (K := K) rfl) (by rfl) T.len PySem.boot_len (pa_cons (pv 0) pa_nil)) (nomark _)) (pe_one (pe_callB (k_all (K := K) rfl) (by rfl) T.all (by decide +kernel) (pa_cons (pe_lc (own := [("number", 2)]) rfl sc_is_row_in.nd (k_pit (K := K) rfl (pv 1)) (blkOk_by (own := [("number", 2)]) (N := N_is_row_in) (sc := defScope s_is_row_in) (by decide +kernel)) (fun _ _ _ _ _ => (pg_name (i := 2) sc_is_row_in.nd rfl (Or.inl rfl))) (fun _ _ _ _ _ => pts_nil) (fun _ _ _ _ _ => (pe_d D_is_small hr (by decide) (pa_cons (pv 2) pa_nil)))) pa_nil))))))), ?_⟩
  obtain ⟨ls, ns, ⟨a, rfl, ha⟩, ⟨b, rfl, hb⟩, hl, ok, k⟩ := h
  refine s_ret (ev_is (ev_andV (ev_isT (b := true) (ev_var rfl) (.tup hb)) fun _ => ev_andV (ev_op (ev_lenT (ev_var rfl) hb) (ev_lenT (ev_var rfl) ha) (rv_eq rfl)) fun _ => ev_allT (ei_tup (ev_var rfl) hb) (by rw [List.length_map, ok.1]; omega) (fun _ => rfl) fun v H1 hv e => ?_) ?_) k
  · obtain ⟨n, hn, rfl⟩ := mem_int hv
    exact ev_def (ea1 (ev_var rfl)) (spv1 fun H2 e2 Q k => ⟨n, rfl, (ok.2 n hn).1, (ok.2 n hn).2, k⟩)
  · rw [List.length_map, List.length_map, ok.1, decide_eq_true rfl]
    rfl
theorem rows_at {H : Hp} {as : List Addr} {rs : List Rw} (r : RowsA H as rs) {t : Addr} (h : t ∈ as) : ∃ ns, ns ∈ rs ∧ H t = some (.tup (ns.map V.int)) := by
  induction r with
  | nil => cases h
  | @cons a n as rs h1 _ ih =>
    rcases List.mem_cons.mp h with rfl | h
    · exact ⟨n, List.mem_cons_self, h1⟩
    · obtain ⟨m, hm, q⟩ := ih h
      exact ⟨m, List.mem_cons_of_mem _ hm, q⟩
abbrev s_are_rows : Stmt := top 22
abbrev N_are_rows : List Str := ["lot", "value", "row"]
theorem sc_are_rows : FnScope N_are_rows ["lot", "value"] (defScope s_are_rows) := ⟨rfl, rfl, rfl, by decide +kernel, rfl, by decide +kernel, by decide +kernel⟩
theorem ok_are_rows {f : Addr} {fd : FuncData} (F : Fun K "are_rows" "are_rows" s_are_rows f fd) (T : Tx K mg C) {f_is_row_in : Addr} (D_is_row_in : Df P w K mg base "is_row_in" f_is_row_in 3 (sp_is_row_in K C)) : FnOk P w K mg base CX0 4 f fd ["lot", "value"] (sp_are_rows K C) := by
  refine F.ok sc_are_rows (fun vs H Q E h => len_sp2 h) (fun cdv A outer s H vs Q E hr h => ?_)
  obtain ⟨v0, v1, rfl, h⟩ := h
  refine ⟨_, (pss_one (ps_ret (pe_and (pe_callB (k_isT (K := K) rfl T.is) (by rfl) T.isinstance (by decide +kernel) (pa_cons (pv 1) (pa_cons (pe_bltn (v := .ty "tuple") (by rfl) T.m_tuple boot_tuple rfl) pa_nil))) (pe_and (pe_cmpR op_le (pe_callB (k_len (K := K) rfl) (by rfl) T.len PySem.boot_len (pa_cons (pv 1) pa_nil)) (pe_gi (by rfl) T.MOST_ROWS) (nomark _)) (pe_one (pe_callB (k_all (K := K) rfl) (by rfl) T.all (by decide +kernel) (pa_cons (pe_lc (own := [("row", 2)]) rfl sc_are_rows.nd (k_pit (K := K) rfl (pv 1)) (blkOk_by (own := [("row", 2)]) (N := N_are_rows) (sc := defScope s_are_rows) (by decide +kernel)) (fun _ _ _ _ _ => (pg_name (i := 2) sc_are_rows.nd rfl (Or.inl rfl))) (fun _ _ _ _ _ => pts_nil) (fun _ _ _ _ _ => (pe_d D_is_row_in hr (by decide) (pa_cons (pv 0) (pa_cons (pv 2) pa_nil))))) pa_nil))))))), ?_⟩
  obtain ⟨ls, rs, hi, ⟨b, as, rfl, hb, hr0⟩, hl, h1, ok, k⟩ := h
  have len := hr0.len
  refine s_ret (ev_is (ev_andV (ev_isT (b := true) (ev_var rfl) (.tup (.inl hb))) fun _ => ev_andV (ev_op (ev_lenT (ev_var rfl) (.inl hb)) ev_c rv_I0) fun _ => ev_allT (ei_tup (ev_var rfl) (.inl hb)) (by rw [List.length_map]; omega) (fun _ => rfl) fun v H1 hv e => ?_) ?_) k
  · obtain ⟨t, ht, rfl⟩ := List.mem_map.mp hv
    obtain ⟨ns, m, hn⟩ := rows_at hr0 ht
    exact ev_def (ea2 (ev_var rfl) (ev_var rfl)) (spv2 fun H2 e2 Q k => ⟨ls, ns, hi.mono (fz_of (e.trans e2)), ⟨t, rfl, .inl (e2 _ _ (e _ _ hn))⟩, hl, ok ns m, k⟩)
  · rw [List.length_map, len, decide_eq_true (by omega)]
    rfl
end
end Q44
namespace Q44
open PySem PySem.Spec PyProof.Rows L2 M44 Evl
section
variable {P : Program} {w : World} {K : PySem.W.Frag} {mg : Str → Option Value} {base : Heap} {C : Addr}
theorem slt_not {H : Hp} {a C dx b : Addr} {vs : List (Option V)} {u : HO} (h : SlX.Slt H a C dx vs) (hb : H b = some u) (n1 : ∀ C dx fs, u ≠ .ins C dx fs := by intro _ _ _ z; cases z) (n2 : ∀ φ, u ≠ .ext φ := by intro _ z; cases z) : b ≠ a := fun z => by
  rw [z] at hb
  rcases h with ⟨h1, _⟩ | ⟨h1, _⟩
  · rw [h1] at hb
    exact n1 _ _ _ (Option.some.inj hb).symm
  · rw [h1] at hb
    exact n2 _ (Option.some.inj hb).symm
theorem slt_not2 {H : Hp} {a C dx b i : Addr} {vs : List (Option V)} {v : V} {u : HO} (h : SlX.Slt H a C dx vs) (hv : vs[i]? = some (some v)) (hb : H b = some u) (n1 : ∀ fs, u ≠ .xd fs := by intro _ z; cases z) : b ≠ dx := fun z => by
  rw [z] at hb
  rcases h with ⟨_, h2⟩ | ⟨_, h2⟩
  · rw [h2] at hv
    cases hv
  · rw [h2] at hb
    exact n1 _ (Option.some.inj hb).symm
theorem slH_none {H : Hp} {a C dx b : Addr} {vs : List (Option V)} (h : SlX.slH H a C dx vs b = none) : b ≠ a ∧ b ≠ dx ∧ H b = none := by
  by_cases h1 : b = a
  · unfold SlX.slH at h
    rw [h1, upd_same] at h
    cases h
  · by_cases h2 : b = dx
    · unfold SlX.slH at h
      rw [upd_ne h1, h2, upd_same] at h
      cases h
    · rw [SlX.slH_ne h1 h2] at h
      exact ⟨h1, h2, h⟩
theorem evp_tupleD {K : PySem.W.Frag} {mg : Str → Option Value} {C : Addr} {σ : L2.St} {H : Hp} {ta : TE} {d : Addr} {f : Rw → V} {xs : List Rw} (h : Ev ta σ H (.ref d)) (hd : H d = some (.dT (tab f xs))) :
    EvP (tCB (fun xs H Q => ∃ d kvs, xs = [V.ref d] ∧ Rd H d (.dT kvs) ∧ ∀ p bs, H p = none → IsKeys H kvs bs → Q (.ref p) (upd H p (.tup (bs.map V.ref)))) (tCons ta tNil)) σ H (fun v H2 => RowsT H2 v xs) := fun H1 e Q q => h H1 e _ fun H2 e2 =>
  ⟨d, tab f xs, rfl, .inl (e2 _ _ (e _ _ hd)), fun p bs hp hk => q _ _ (e2.trans (Ex.new hp)) ⟨p, bs, rfl, upd_same, rows_mono (fz_of (Ex.new hp)) (rowsA_keys hk (tab_keys f xs))⟩⟩
abbrev s_T_keep : Stmt := inClass (top 23) 2
abbrev N_T_keep : List Str := ["self", "lot", "rows", "row"]
theorem sc_T_keep : FnScope N_T_keep ["self", "lot", "rows"] (defScope s_T_keep) := ⟨rfl, rfl, rfl, by decide +kernel, rfl, by decide +kernel, by decide +kernel⟩
theorem ok_T_keep {f : Addr} {fd : FuncData} (F : Fun K "keep" "Table.keep" s_T_keep f fd) (T : Tx K mg C) {f_lot_told : Addr} (D_lot_told : Df P w K mg base "lot_told" f_lot_told 1 (sp_lot_told K C)) : FnOk P w K mg base CX0 2 f fd ["self", "lot", "rows"] (sp_T_keep K C) := by
  refine F.ok sc_T_keep (fun vs H Q E h => len_sp3 h) (fun cdv A outer s H vs Q E hr h => ?_)
  obtain ⟨v0, v1, v2, rfl, h⟩ := h
  refine ⟨_, (pss_cons (k_ssl (K := K) rfl (pv 0) (pe_dcT (own := [("row", 3)]) (hu_of hr) rfl sc_T_keep.nd (k_pil (K := K) rfl (pe_callB (k_sortLT (K := K) rfl) (by rfl) T.sorted (by decide +kernel) (pa_cons (pv 2) pa_nil))) (blkOk_by (own := [("row", 3)]) (N := N_T_keep) (sc := defScope s_T_keep) (by decide +kernel)) (fun _ _ _ _ _ => (pg_name (i := 3) sc_T_keep.nd rfl (Or.inl rfl))) (fun _ _ _ _ _ => pts_nil) (fun _ _ _ _ _ => (pv 3)) (fun _ _ _ _ _ => pe_bl)))
      (pss_one (ps_asg (pe_tup (pa_cons (pv 1) (pa_cons (pe_callTy (call_tuple_dT rfl) (by rfl) T.m_tuple boot_tuple (pa_cons (k_sl (K := K) rfl (pv 0)) pa_nil)) (pa_cons (pe_d D_lot_told hr (by decide) (pa_cons (pv 1) pa_nil)) pa_nil)))) (k_gt (K := K) (n := 3) rfl rfl (pgs_cons (k_gsl (K := K) rfl (pv 0)) (pgs_cons (k_gsl (K := K) rfl (pv 0)) (pgs_cons (k_gsl (K := K) rfl (pv 0)) pgs_nil))))))), ?_⟩
  obtain ⟨x, dx, vs, lot, rs, rfl, hs, nx, hdx, ⟨la, ob, rfl, hla, hob⟩, hrs, ok, h64, hd, k⟩ := h
  have la_x : la ≠ x := slt_not hs hla
  have la_dx : la ≠ dx := fun z => by
    rw [z] at hla
    rcases hdx with q | q <;> (rw [q] at hla; cases hla)
  refine q_sslP (evp_dcT (fun _ => V.bl true) (evp_sortLT (ev_var rfl) hrs ok.ro h64 hd) (by rw [srt_len]; omega) (fun _ => rfl) (fun _ => rfl) fun p t H' _ _ _ => ev_c) fun v H1 e1 z => ?_
  obtain ⟨d, rfl, hdd⟩ := z
  obtain ⟨p2, s2⟩ := T.sl2
  have hs1 := slt_mono (fz_of e1) hs
  refine ⟨.ref x, rfl, x, C, dx, p2, vs, 2, rfl, hs1, T.is.sc, s2, ?_⟩
  have d_x : d ≠ x := slt_not hs1 hdd
  have d_dx : d ≠ dx := fun z => by
    rw [z] at hdd
    rcases hdx with q | q <;> (rw [e1 _ _ q] at hdd; cases hdd)
  generalize hA : SlX.slH H1 x C dx (SlX.putS 2 (.ref d) vs) = HA
  have hsA : SlX.Slt HA x C dx (SlX.putS 2 (.ref d) vs) := by rw [← hA]; exact SlX.slH_slt nx
  have outA : ∀ a o, a ≠ x → a ≠ dx → H a = some o → HA a = some o := fun a o n1 n2 q => by
    rw [← hA, SlX.slH_ne n1 n2]
    exact e1 _ _ q
  have hdA : HA d = some (.dT (tab (fun _ => V.bl true) (dist (srt rs)))) := by
    rw [← hA, SlX.slH_ne d_x d_dx]
    exact hdd
  have freshA : ∀ a, HA a = none → H a = none := fun a q => by
    rw [← hA] at q
    exact fresh_back e1 (slH_none q).2.2
  have ev := evp_tup (σ := start N_T_keep [.ref x, .ref la, v2]) (H := HA) (tA := tCons (tVar 1) (tCons (tCB (fun xs H Q => ∃ d kvs, xs = [V.ref d] ∧ Rd H d (.dT kvs) ∧ ∀ p bs, H p = none → IsKeys H kvs bs → Q (.ref p) (upd H p (.tup (bs.map V.ref)))) (tCons (SlX.tSl K (tVar 0) "own_there") tNil)) (tCons (tDef (sp_lot_told K C) E0 (tCons (tVar 1) tNil)) tNil)))
    (P := fun vs H2 => ∃ u s, vs = [.ref la, u, .str s] ∧ RowsT H2 u (dist (srt rs)))
    (eap_cons (evp_of (ev_var rfl) (P := fun v _ => v = .ref la) fun _ _ => rfl) fun v H2 e2 z => eap_cons (evp_tupleD (K := K) (mg := mg) (C := C) (ev_slot (la := x) T.is.sc s2 (ev_var rfl) (slt_mono (fz_of e2) hsA) (SlX.putS_get _ _ _)) (e2 _ _ hdA)) fun u H3 e3 hu =>
      eap_cons (evp_def (ea1 (ev_var rfl)) (P := fun v _ => ∃ s, v = .str s) fun H4 e4 Q q _ => ⟨_, rfl, lot, ⟨la, rfl, .inr ⟨ob, e4 _ _ (e3 _ _ (e2 _ _ (outA _ _ la_x la_dx hla)))⟩⟩, ok.lo, fun s H5 e5 => q _ H5 e5 ⟨s, rfl⟩⟩) fun w H4 e4 hw => eap_nil fun H5 e5 => by
        obtain ⟨s, rfl⟩ := hw
        subst z
        exact ⟨u, s, rfl, hu.mono (fz_of (e4.trans e5))⟩)
    (fun vs H1 z => by obtain ⟨u, s, rfl, _⟩ := z; show 3 ≤ 100000; decide) (fun vs H1 H2 e z => by obtain ⟨u, s, rfl, r⟩ := z; exact ⟨u, s, rfl, r.mono (fz_of e)⟩)
  refine s_asgG ev fun tv HB eB z => ?_
  obtain ⟨tp, ws, rfl, htn, htp, u, s, rfl, hu⟩ := z
  have hsB := slt_mono (fz_of eB) hsA
  obtain ⟨p0, s0⟩ := T.sl0
  obtain ⟨p1, s1⟩ := T.sl1
  obtain ⟨p3, s3⟩ := T.sl3
  refine ⟨tp, _, rfl, st_of htp, rfl, _, _, rfl, .ref x, rfl, x, C, dx, p0, _, 0, rfl, hsB, T.is.sc, s0, ?_⟩
  refine ⟨_, _, rfl, .ref x, rfl, x, C, dx, p1, _, 1, rfl, SlX.slH_slt nx, T.is.sc, s1, ?_⟩
  refine ⟨_, _, rfl, .ref x, rfl, x, C, dx, p3, _, 3, rfl, SlX.slH_slt nx, T.is.sc, s3, rfl, ?_⟩
  rw [SlX.slH_twice nx, SlX.slH_twice nx]
  obtain ⟨ua, as, rfl, hua, ras⟩ := hu
  have keep : ∀ a xs vs', HB a = some (.tup xs) → SlX.slH HB x C dx vs' a = some (.tup xs) := fun a xs vs' q => by
    rw [SlX.slH_ne (slt_not hsB q) (slt_not2 hsB (SlX.putS_get _ _ _) q)]
    exact q
  have hlaB := eB _ _ (outA _ _ la_x la_dx hla)
  refine k _ ⟨fun a o n1 n2 q => ?_, fun a q => ?_, ⟨ok.lo, fun r hr' => ok.ro r (mem_mk.mp hr')⟩, _, la, ua, as, SlX.slH_slt nx, ?_, ?_, ⟨la, ob, rfl, by rw [SlX.slH_ne la_x la_dx]; exact hlaB, hob⟩, keep _ _ _ hua, Paired.mapP ras fun a b q => keep _ _ _ q⟩
  · rw [SlX.slH_ne n1 n2]
    exact eB _ _ (outA a o n1 n2 q)
  · exact freshA a (fresh_back eB (slH_none q).2.2)
  · rw [SlX.putS_ne (by decide), SlX.putS_ne (by decide)]
    exact SlX.putS_get _ _ _
  · rw [SlX.putS_ne (by decide)]
    exact SlX.putS_get _ _ _
abbrev s_T_init : Stmt := inClass (top 23) 1
abbrev N_T_init : List Str := ["self", "lot", "rows"]
theorem sc_T_init : FnScope N_T_init ["self", "lot", "rows"] (defScope s_T_init) := ⟨rfl, rfl, rfl, by decide +kernel, rfl, by decide +kernel, by decide +kernel⟩
theorem ok_T_init {f : Addr} {fd : FuncData} (F : Fun K "__init__" "Table.__init__" s_T_init f fd) (T : Tx K mg C) {f_require_lot : Addr} (D_require_lot : Df P w K mg base "require_lot" f_require_lot 3 (sp_require_lot K C)) {f_are_rows : Addr} (D_are_rows : Df P w K mg base "are_rows" f_are_rows 4 (sp_are_rows K C)) {f_T_keep : Addr} (D_T_keep : MeD P w K mg base C "keep" f_T_keep 2 (sp_T_keep K C)) : FnOk P w K mg base CX0 5 f fd ["self", "lot", "rows"] (sp_T_init K C) := by
  refine F.ok sc_T_init (fun vs H Q E h => len_sp3 h) (fun cdv A outer s H vs Q E hr h => ?_)
  obtain ⟨v0, v1, v2, rfl, h⟩ := h
  refine ⟨_, (pss_cons (ps_expr (pe_d D_require_lot hr (by decide) (pa_cons (pv 1) pa_nil)))
      (pss_cons (ps_if (pt_not (pt_val (pe_d D_are_rows hr (by decide) (pa_cons (pv 1) (pa_cons (pv 2) pa_nil))))) (pss_one ps_never) pss_nil)
      (pss_one (ps_expr (k_meth D_T_keep T.is.sc hr (by decide) (pv 0) (pa_cons (pv 1) (pa_cons (pv 2) pa_nil))))))), ?_⟩
  obtain ⟨x, dx, lot, rs, rfl, hx, nx, hdx, hl, hrs, ok, h64, hd, k⟩ := h
  refine q_drop (v := .non) (ev_def (ea1 (ev_var rfl)) (spv1 fun H2 e2 Q k => ⟨lot, hl.it.mono (fz_of e2), ok.lo, k⟩)) fun H1 e1 => ?_
  refine q_when (b := false) (et_not (a := true) (et_B (ev_def (ea2 (ev_var rfl) (ev_var rfl)) (spv2 fun H2 e2 Q k => ⟨lot, rs, hl.it.mono (fz_of (e1.trans e2)), hrs.mono (fz_of (e1.trans e2)), by have := lot_len ok.lo; omega, by omega, ok.ro, k⟩)))) (fun z => nomatch z) fun _ H2 e2 => ?_
  have e := e1.trans e2
  refine ⟨.ref x, rfl, x, dx, [], rfl, .inl ⟨e _ _ hx, rfl⟩, _, rfl, _, rfl, _, _, _, rfl, x, dx, [], lot, rs, rfl, .inl ⟨e _ _ hx, rfl⟩, nx, .inl (e _ _ hdx), hl.mono (fz_of e), .inl (hrs.mono (fz_of e)), ok, h64, hd, fun H3 m => ?_⟩
  exact k H3 ⟨fun a o n1 n2 q => m.1 a o n1 n2 (e _ _ q), fun a q => fresh_back e (m.2.1 a q), m.2.2⟩
abbrev s_T_lot : Stmt := inClass (top 23) 3
abbrev N_T_lot : List Str := ["self"]
theorem sc_T_lot : FnScope N_T_lot ["self"] (defScope s_T_lot) := ⟨rfl, rfl, rfl, by decide +kernel, rfl, by decide +kernel, by decide +kernel⟩
theorem ok_T_lot {f : Addr} {fd : FuncData} (F : Fun K "lot" "Table.lot" s_T_lot f fd) (T : Tx K mg C) : FnOk P w K mg base CX0 1 f fd ["self"] (sp_T_lot K C) := by
  refine F.ok sc_T_lot (fun vs H Q E h => len_sp1 h) (fun cdv A outer s H vs Q E hr h => ?_)
  obtain ⟨v0, rfl, h⟩ := h
  refine ⟨_, (pss_one (ps_ret (k_sl (K := K) rfl (pv 0)))), ?_⟩
  obtain ⟨lot, rows, ⟨a, rfl, dx, ok, ws, la, ra, as, hs, w0, w1, hla, hra, hr'⟩, k⟩ := h
  exact s_ret (ev_own0 T (ev_var rfl) hs w0) fun H1 e1 => k _ H1 e1 (hla.mono (fz_of e1))
abbrev s_T_rows : Stmt := inClass (top 23) 4
abbrev N_T_rows : List Str := ["self"]
theorem sc_T_rows : FnScope N_T_rows ["self"] (defScope s_T_rows) := ⟨rfl, rfl, rfl, by decide +kernel, rfl, by decide +kernel, by decide +kernel⟩
theorem ok_T_rows {f : Addr} {fd : FuncData} (F : Fun K "rows" "Table.rows" s_T_rows f fd) (T : Tx K mg C) : FnOk P w K mg base CX0 1 f fd ["self"] (sp_T_rows K C) := by
  refine F.ok sc_T_rows (fun vs H Q E h => len_sp1 h) (fun cdv A outer s H vs Q E hr h => ?_)
  obtain ⟨v0, rfl, h⟩ := h
  refine ⟨_, (pss_one (ps_ret (k_sl (K := K) rfl (pv 0)))), ?_⟩
  obtain ⟨lot, rows, ⟨a, rfl, dx, ok, ws, la, ra, as, hs, w0, w1, hla, hra, hr'⟩, k⟩ := h
  exact s_ret (ev_own1 T (ev_var rfl) hs w1) fun H1 e1 => k _ H1 e1 ⟨ra, as, rfl, e1 _ _ hra, rows_mono (fz_of e1) hr'⟩
abbrev s_T_len : Stmt := inClass (top 23) 5
abbrev N_T_len : List Str := ["self"]
theorem sc_T_len : FnScope N_T_len ["self"] (defScope s_T_len) := ⟨rfl, rfl, rfl, by decide +kernel, rfl, by decide +kernel, by decide +kernel⟩
theorem ok_T_len {f : Addr} {fd : FuncData} (F : Fun K "__len__" "Table.__len__" s_T_len f fd) (T : Tx K mg C) : FnOk P w K mg base CX0 1 f fd ["self"] (sp_T_len K C) := by
  refine F.ok sc_T_len (fun vs H Q E h => len_sp1 h) (fun cdv A outer s H vs Q E hr h => ?_)
  obtain ⟨v0, rfl, h⟩ := h
  refine ⟨_, (pss_one (ps_ret (pe_callB (k_len (K := K) rfl) (by rfl) T.len PySem.boot_len (pa_cons (k_sl (K := K) rfl (pv 0)) pa_nil)))), ?_⟩
  obtain ⟨lot, rows, ⟨a, rfl, dx, ok, ws, la, ra, as, hs, w0, w1, hla, hra, hr'⟩, k⟩ := h
  refine s_ret (ev_is (ev_lenT (ev_own1 T (ev_var rfl) hs w1) (.inl hra)) ?_) k
  rw [List.length_map, hr'.len]
theorem dp_ints {K : PySem.W.Frag} {H : Hp} : ∀ ns : Rw, DpAll K H (ns.map V.int) (ns.map PyData.int)
  | [] => .nil
  | n :: ns => .cons (.int n) (dp_ints ns)
def rowD (ns : Rw) : PyData := .tuple (ns.map PyData.int)
theorem dp_row {K : PySem.W.Frag} {H : Hp} {a : Addr} {ns : Rw} (h : Rd H a (.tup (ns.map V.int))) : Dp K H (.ref a) (rowD ns) := .tup (.inl h) (dp_ints ns)
theorem dp_rows {K : PySem.W.Frag} {H : Hp} {as : List Addr} {rs : List Rw} (r : RowsA H as rs) : DpAll K H (as.map V.ref) (rs.map rowD) := by
  induction r with
  | nil => exact .nil
  | cons h _ ih => exact .cons (dp_row (.inl h)) ih
theorem eqv_ints : ∀ ns ms : Rw, PyData.eqvAll (ns.map PyData.int) (ms.map PyData.int) = decide (ns = ms)
  | [], [] => by simp [PyData.eqvAll]
  | [], _ :: _ => by simp [PyData.eqvAll]
  | _ :: _, [] => by simp [PyData.eqvAll]
  | n :: ns, m :: ms => by
    simp only [List.map_cons, PyData.eqvAll, PyData.eqv, eqv_ints ns ms]
    by_cases h : n = m
    · subst h
      simp
    · simp [h]
theorem eqv_row (ns ms : Rw) : PyData.eqv (rowD ns) (rowD ms) = decide (ns = ms) := by
  unfold rowD
  simp only [PyData.eqv]
  exact eqv_ints ns ms
theorem eqv_rowsAll : ∀ rs qs : List Rw, PyData.eqvAll (rs.map rowD) (qs.map rowD) = decide (rs = qs)
  | [], [] => by simp [PyData.eqvAll]
  | [], _ :: _ => by simp [PyData.eqvAll]
  | _ :: _, [] => by simp [PyData.eqvAll]
  | n :: ns, m :: ms => by
    simp only [List.map_cons, PyData.eqvAll, eqv_row, eqv_rowsAll ns ms]
    by_cases h : n = m
    · subst h
      simp
    · simp [h]
theorem lay_ints : ∀ ns : Rw, PyData.canLayAll0 (ns.map PyData.int) = true
  | [] => by simp [PyData.canLayAll0]
  | n :: ns => by simp [PyData.canLayAll0, PyData.canLay0, lay_ints ns]
theorem dep_ints : ∀ ns : Rw, PyData.depthAll (ns.map PyData.int) ≤ 0
  | [] => by simp [PyData.depthAll]
  | n :: ns => by
    have := dep_ints ns
    simp only [List.map_cons, PyData.depthAll, PyData.depth]
    omega
theorem lay_rows : ∀ rs : List Rw, PyData.canLayAll0 (rs.map rowD) = true
  | [] => by simp [PyData.canLayAll0]
  | n :: ns => by simp [PyData.canLayAll0, PyData.canLay0, rowD, lay_ints n, lay_rows ns]
theorem dep_rows : ∀ rs : List Rw, PyData.depthAll (rs.map rowD) ≤ 1
  | [] => by simp [PyData.depthAll]
  | n :: ns => by
    have h1 := dep_rows ns
    have h2 := dep_ints n
    simp only [List.map_cons, PyData.depthAll, PyData.depth, rowD]
    omega
theorem shp {d : PyData} (h1 : d.canLay0 = true) (h2 : d.depth ≤ 64) : SeqAt.shaped d = true := by
  show (d.canLay0 && decide (d.depth ≤ 64)) = true
  rw [h1, decide_eq_true h2]
  rfl
theorem shp_row (ns : Rw) : SeqAt.shaped (rowD ns) = true := shp (by simp only [rowD, PyData.canLay0]; exact lay_ints ns) (by have := dep_ints ns; simp only [rowD, PyData.depth]; omega)
theorem shp_rowsT (rs : List Rw) : SeqAt.shaped (.tuple (rs.map rowD)) = true := shp (by simp only [PyData.canLay0]; exact lay_rows rs) (by have := dep_rows rs; simp only [PyData.depth]; omega)
theorem shp_rowsL (rs : List Rw) : SeqAt.shaped (.list (rs.map rowD)) = true := shp (by simp only [PyData.canLay0]; exact lay_rows rs) (by have := dep_rows rs; simp only [PyData.depth]; omega)
section
variable {K : PySem.W.Frag} {H : Hp} {x y : V} {ns ms : Rw} {rs qs : List Rw}
theorem rv_eqI (h1 : IT H x ns) (h2 : IT H y ms) : RV (rEqD K) x y H (.bl (decide (ns = ms))) := fun H1 e Q q => by
  obtain ⟨a, rfl, ha⟩ := h1
  obtain ⟨b, rfl, hb⟩ := h2
  exact ⟨rowD ns, rowD ms, dp_row (ex_rd e ha), dp_row (ex_rd e hb), shp_row ns, shp_row ms, by rw [eqv_row]; exact q H1 (Ex.refl _)⟩
theorem rv_neI (h1 : IT H x ns) (h2 : IT H y ms) : RV (rNeD K) x y H (.bl (!decide (ns = ms))) := fun H1 e Q q => by
  obtain ⟨a, rfl, ha⟩ := h1
  obtain ⟨b, rfl, hb⟩ := h2
  exact ⟨rowD ns, rowD ms, dp_row (ex_rd e ha), dp_row (ex_rd e hb), shp_row ns, shp_row ms, by rw [eqv_row]; exact q H1 (Ex.refl _)⟩
theorem rv_eqR (h1 : RowsT H x rs) (h2 : RowsT H y qs) : RV (rEqD K) x y H (.bl (decide (rs = qs))) := fun H1 e Q q => by
  obtain ⟨a, as, rfl, ha, ra⟩ := h1
  obtain ⟨b, bs, rfl, hb, rb⟩ := h2
  exact ⟨.tuple (rs.map rowD), .tuple (qs.map rowD), .tup (st_of (e _ _ ha)) (dp_rows (rows_mono (fz_of e) ra)), .tup (st_of (e _ _ hb)) (dp_rows (rows_mono (fz_of e) rb)), shp_rowsT rs, shp_rowsT qs, by
    rw [show PyData.eqv (.tuple (rs.map rowD)) (.tuple (qs.map rowD)) = PyData.eqvAll (rs.map rowD) (qs.map rowD) by simp only [PyData.eqv], eqv_rowsAll]
    exact q H1 (Ex.refl _)⟩
theorem rv_neR (h1 : RowsT H x rs) (h2 : RowsT H y qs) : RV (rNeD K) x y H (.bl (!decide (rs = qs))) := fun H1 e Q q => by
  obtain ⟨a, as, rfl, ha, ra⟩ := h1
  obtain ⟨b, bs, rfl, hb, rb⟩ := h2
  exact ⟨.tuple (rs.map rowD), .tuple (qs.map rowD), .tup (st_of (e _ _ ha)) (dp_rows (rows_mono (fz_of e) ra)), .tup (st_of (e _ _ hb)) (dp_rows (rows_mono (fz_of e) rb)), shp_rowsT rs, shp_rowsT qs, by
    rw [show PyData.eqv (.tuple (rs.map rowD)) (.tuple (qs.map rowD)) = PyData.eqvAll (rs.map rowD) (qs.map rowD) by simp only [PyData.eqv], eqv_rowsAll]
    exact q H1 (Ex.refl _)⟩
theorem rv_eqRL (h1 : RowsL H x rs) (h2 : RowsL H y qs) : RV (rEqD K) x y H (.bl (decide (rs = qs))) := fun H1 e Q q => by
  obtain ⟨a, as, rfl, ha, ra⟩ := h1
  obtain ⟨b, bs, rfl, hb, rb⟩ := h2
  exact ⟨.list (rs.map rowD), .list (qs.map rowD), .lst (sq_of (e _ _ ha)) (dp_rows (rows_mono (fz_of e) ra)), .lst (sq_of (e _ _ hb)) (dp_rows (rows_mono (fz_of e) rb)), shp_rowsL rs, shp_rowsL qs, by
    rw [show PyData.eqv (.list (rs.map rowD)) (.list (qs.map rowD)) = PyData.eqvAll (rs.map rowD) (qs.map rowD) by simp only [PyData.eqv], eqv_rowsAll]
    exact q H1 (Ex.refl _)⟩
end
abbrev s_T_eq : Stmt := inClass (top 23) 7
abbrev N_T_eq : List Str := ["self", "value"]
theorem sc_T_eq : FnScope N_T_eq ["self", "value"] (defScope s_T_eq) := ⟨rfl, rfl, rfl, by decide +kernel, rfl, by decide +kernel, by decide +kernel⟩
theorem ok_T_eq {f : Addr} {fd : FuncData} (F : Fun K "__eq__" "Table.__eq__" s_T_eq f fd) (T : Tx K mg C) : FnOk P w K mg base CX0 1 f fd ["self", "value"] (sp_T_eq K C) := by
  refine F.ok sc_T_eq (fun vs H Q E h => len_sp2 h) (fun cdv A outer s H vs Q E hr h => ?_)
  obtain ⟨v0, v1, rfl, h⟩ := h
  refine ⟨_, (pss_one (ps_ret (pe_and (pe_callB (k_isC (K := K) rfl T.is) (by rfl) T.isinstance (by decide +kernel) (pa_cons (pv 1) (pa_cons (pe_glob (v := .ref C) (by rfl) T.mC rfl) pa_nil))) (pe_and (pe_cmpR (k_eqD (K := K) rfl hr.units) (k_sl (K := K) rfl (pv 0)) (k_sl (K := K) rfl (pv 1)) (nomark _)) (pe_one (pe_cmpR (k_eqD (K := K) rfl hr.units) (k_sl (K := K) rfl (pv 0)) (k_sl (K := K) rfl (pv 1)) (nomark _))))))), ?_⟩
  obtain ⟨l1, r1, l2, r2, ⟨a, rfl, dx, ok, ws, la, ra, as, hs, w0, w1, hla, hra, hr'⟩, ⟨b, rfl, dx2, ok2, ws2, la2, ra2, as2, hs2, w02, w12, hla2, hra2, hr2⟩, k⟩ := h
  refine s_ret (v := .bl (decide (l1 = l2) && decide (r1 = r2))) (ev_andV (a := true) (ev_isC (b := true) (ev_var rfl) (.tab hs2) (.inr rfl)) fun _ => ev_andV (ev_op (ev_own0 T (ev_var rfl) hs w0) (ev_own0 T (ev_var rfl) hs2 w02) (rv_eqI hla.it hla2.it)) fun _ =>
    ev_op (ev_own1 T (ev_var rfl) hs w1) (ev_own1 T (ev_var rfl) hs2 w12) (rv_eqR ⟨ra, as, rfl, hra, hr'⟩ ⟨ra2, as2, rfl, hra2, hr2⟩)) k
abbrev s_is_table : Stmt := top 26
abbrev N_is_table : List Str := ["value"]
theorem sc_is_table : FnScope N_is_table ["value"] (defScope s_is_table) := ⟨rfl, rfl, rfl, by decide +kernel, rfl, by decide +kernel, by decide +kernel⟩
theorem ok_is_table {f : Addr} {fd : FuncData} (F : Fun K "is_table" "is_table" s_is_table f fd) (T : Tx K mg C) : FnOk P w K mg base CX0 1 f fd ["value"] (sp_is_table K C) := by
  refine F.ok sc_is_table (fun vs H Q E h => len_sp1 h) (fun cdv A outer s H vs Q E hr h => ?_)
  obtain ⟨v0, rfl, h⟩ := h
  refine ⟨_, (pss_one (ps_ret (pe_callB (k_isC (K := K) rfl T.is) (by rfl) T.isinstance (by decide +kernel) (pa_cons (pv 0) (pa_cons (pe_glob (v := .ref C) (by rfl) T.mC rfl) pa_nil))))), ?_⟩
  obtain ⟨kk, kd, hk, k⟩ := h
  exact s_ret (ev_isC (ev_var rfl) kd hk) k
abbrev s_require_table : Stmt := top 27
abbrev N_require_table : List Str := ["value"]
theorem sc_require_table : FnScope N_require_table ["value"] (defScope s_require_table) := ⟨rfl, rfl, rfl, by decide +kernel, rfl, by decide +kernel, by decide +kernel⟩
theorem ok_require_table {f : Addr} {fd : FuncData} (F : Fun K "require_table" "require_table" s_require_table f fd) (T : Tx K mg C) {f_is_table : Addr} (D_is_table : Df P w K mg base "is_table" f_is_table 1 (sp_is_table K C)) : FnOk P w K mg base CX0 2 f fd ["value"] (sp_require_table K C) := by
  refine F.ok sc_require_table (fun vs H Q E h => len_sp1 h) (fun cdv A outer s H vs Q E hr h => ?_)
  obtain ⟨v0, rfl, h⟩ := h
  refine ⟨_, (pss_one (ps_if (pt_not (pt_val (pe_d D_is_table hr (by decide) (pa_cons (pv 0) pa_nil)))) (pss_one ps_never) pss_nil)), ?_⟩
  obtain ⟨lot, rows, ⟨a, rfl, dx, ok, ws, la, ra, as, hs, w0, w1, hla, hra, hr'⟩, k⟩ := h
  exact s_when (b := false) (et_not (a := true) (et_B (ev_def (ea1 (ev_var rfl)) (spv1 fun H2 e2 Q k => ⟨"Table", .tab (slt_mono (fz_of e2) hs), .inr rfl, k⟩)))) (fun z => nomatch z) fun _ H1 e1 => k H1 e1
abbrev s_made_table : Stmt := top 25
abbrev N_made_table : List Str := ["lot", "rows", "found"]
theorem sc_made_table : FnScope N_made_table ["lot", "rows"] (defScope s_made_table) := ⟨rfl, rfl, rfl, by decide +kernel, rfl, by decide +kernel, by decide +kernel⟩
theorem ok_made_table {f : Addr} {fd : FuncData} (F : Fun K "made_table" "made_table" s_made_table f fd) (T : Tx K mg C) {f_T_init : Addr} (D_T_init : MkD P w K mg base C f_T_init 5 (sp_T_init K C)) {f_T_keep : Addr} (D_T_keep : MeD P w K mg base C "keep" f_T_keep 2 (sp_T_keep K C)) : FnOk P w K mg base CX0 7 f fd ["lot", "rows"] (sp_made_table K C) := by
  refine F.ok sc_made_table (fun vs H Q E h => len_sp2 h) (fun cdv A outer s H vs Q E hr h => ?_)
  obtain ⟨v0, v1, rfl, h⟩ := h
  refine ⟨_, (pss_cons (ps_set (i := 2) sc_made_table.nd rfl (Or.inl rfl) (k_mk D_T_init hr (by decide) T.mC (pa_cons (pe_tupF pa_nil) (pa_cons (pe_tup pa_nil) pa_nil))))
      (pss_cons (ps_expr (k_meth D_T_keep T.is.sc hr (by decide) (pv 2) (pa_cons (pv 0) (pa_cons (pv 1) pa_nil))))
      (pss_one (ps_ret (pv 2))))), ?_⟩
  obtain ⟨lot, rs, hl, hrs, ok, h64, hd, k⟩ := h
  refine q_raw (mk_raw (Pa := fun vs H2 => ∃ p p2, vs = [.ref p, .ref p2] ∧ LT H2 (.ref p) [] ∧ H2 p2 = some (.tup [])) (eap_cons (evp_tupF (vs := []) ea_nil (by decide)) fun v H1 e1 z => eap_cons (evp_U (eu_tup ea_nil (by decide))) fun v2 H2 e2 z2 => eap_nil fun H3 e3 => ?_) fun vs H2 e12 z => ?_)
  · obtain ⟨p, ob, rfl, hp, hob⟩ := z
    obtain ⟨p2, rfl, _, hp2⟩ := z2
    exact ⟨p, p2, rfl, ⟨p, ob, rfl, e3 _ _ (e2 _ _ hp), hob⟩, e3 _ _ hp2⟩
  obtain ⟨p, p2, rfl, h1, h2⟩ := z
  intro x dx hx hdx ne
  have ex : Ex H2 (upd (upd H2 dx (.own x)) x (.ins C dx [])) := fun a o q => by
    rw [upd_ne (ne_of_none q hx), upd_ne (ne_of_none q hdx)]
    exact q
  refine ⟨_, _, _, rfl, x, dx, [], [], rfl, upd_same, ne, by rw [upd_ne ne, upd_same], h1.mono (fz_of ex), ⟨p2, [], rfl, ex _ _ h2, .nil⟩, ⟨⟨fun _ z => (nomatch z), List.Pairwise.nil⟩, fun _ z => (nomatch z)⟩, by decide, fun z => absurd z (by decide), fun H3 m => ⟨rfl, ?_⟩⟩
  have e3 : Ex H H3 := (e12).trans (made_ex hx hdx m)
  have hxH := fresh_back (e12) hx
  have hdH := fresh_back (e12) hdx
  obtain ⟨ok0, vs0, la0, ra0, as0, hs0, w0, w1, g1, g2, g3⟩ := m.2.2
  have hd0 : H3 dx = some (.xd []) := by
    rcases hs0 with ⟨_, z⟩ | ⟨_, z⟩
    · rw [z] at w0
      cases w0
    · exact z
  refine ⟨.ref x, rfl, x, dx, vs0, rfl, hs0, v0, rfl, v1, rfl, _, _, _, rfl, x, dx, vs0, lot, rs, rfl, hs0, ne, .inr hd0, hl.mono (fz_of e3), .inr (hrs.mono e3), ok, h64, hd, fun H4 m4 => ?_⟩
  refine ⟨.ref x, rfl, k _ H4 (fun a o q => m4.1 a o (ne_of_none q hxH) (ne_of_none q hdH) (e3 _ _ q)) ⟨x, rfl, dx, m4.2.2⟩⟩
theorem str_len {n : Int} (h0 : 0 ≤ n) (h6 : n < 6) : (Str.ofString (toString n)).length = 1 := by
  have z : n = 0 ∨ n = 1 ∨ n = 2 ∨ n = 3 ∨ n = 4 ∨ n = 5 := by omega
  rcases z with rfl | rfl | rfl | rfl | rfl | rfl <;> decide +kernel
theorem sum_ones : ∀ ns : Rw, (ns.map (fun _ => 1)).sum = ns.length
  | [] => rfl
  | _ :: ns => by
    rw [List.map_cons, List.sum_cons, sum_ones ns, List.length_cons]
    omega
abbrev s_lot_told : Stmt := top 24
abbrev N_lot_told : List Str := ["lot", "letter"]
theorem sc_lot_told : FnScope N_lot_told ["lot"] (defScope s_lot_told) := ⟨rfl, rfl, rfl, by decide +kernel, rfl, by decide +kernel, by decide +kernel⟩
theorem ok_lot_told {f : Addr} {fd : FuncData} (F : Fun K "lot_told" "lot_told" s_lot_told f fd) (T : Tx K mg C) : FnOk P w K mg base CX0 1 f fd ["lot"] (sp_lot_told K C) := by
  refine F.ok sc_lot_told (fun vs H Q E h => len_sp1 h) (fun cdv A outer s H vs Q E hr h => ?_)
  obtain ⟨v0, rfl, h⟩ := h
  refine ⟨_, (pss_one (ps_ret (pe_ifExp (pt_cmpR (k_neD (K := K) rfl hr.units) (pv 0) (pe_tup pa_nil) (nomark _)) (k_join (K := K) rfl pe_str (pe_lc (own := [("letter", 1)]) rfl sc_lot_told.nd (k_pit (K := K) rfl (pv 0)) (blkOk_by (own := [("letter", 1)]) (N := N_lot_told) (sc := defScope s_lot_told) (by decide +kernel)) (fun _ _ _ _ _ => (pg_name (i := 1) sc_lot_told.nd rfl (Or.inl rfl))) (fun _ _ _ _ _ => pts_nil) (fun _ _ _ _ _ => (pe_callTy call_str_int (by rfl) T.m_str boot_str (pa_cons (pv 1) pa_nil))))) pe_str))), ?_⟩
  obtain ⟨ns, ⟨a, rfl, ha⟩, ok, k⟩ := h
  have hlen := lot_len ok
  refine s_retP (P := fun v _ => ∃ s, v = .str s) (fun H1 e1 Q q => ?_) fun v H1 e1 z => ?_
  · refine (et_test (ev_opV (H := H) (ev_var (v := .ref a) rfl) (eu_tup ea_nil (by decide)) fun q H2 h2 e2 => rv_neI (ns := ns) (ms := []) ⟨a, rfl, ex_rd e2 ha⟩ ⟨q, rfl, .inl h2⟩)) H1 e1 _ fun H2 e2 => ?_
    by_cases hn : ns = []
    · rw [decide_eq_true hn]
      exact q _ H2 e2 ⟨_, rfl⟩
    · rw [decide_eq_false hn]
      refine ⟨⟨_, rfl⟩, ?_⟩
      refine (el_map1 (H := H) (xs := ns.map V.int) (fun v => match v with | V.int i => .str (Str.ofString (toString i)) | _ => .non) (ei_tup (ev_var rfl) ha) (by rw [List.length_map]; omega) (fun _ => rfl) fun v H3 hv e3 => ?_) H2 (e1.trans e2) _ fun p H3 hp e3 h3 => ?_
      · obtain ⟨n, hn, rfl⟩ := mem_int hv
        have b := ok.1 n hn
        exact fun H4 e4 Q q => ⟨.int n, rfl, n, rfl, by
          have : n.natAbs ≤ 6 := by omega
          have z : ∀ m ≤ 6, Nat.log2 m < 1920 := by decide
          exact z _ this, q H4 (Ex.refl _)⟩
      · rw [List.map_map] at h3
        refine ⟨_, p, ns.map (fun i => Str.ofString (toString i)), rfl, rfl, .inl (sq_of (by rw [h3, List.map_map]; rfl)), ?_, q _ H3 (e2.trans e3) ⟨_, rfl⟩⟩
        have e1 : (ns.map (fun i => Str.ofString (toString i))).map (·.length) = ns.map (fun _ => 1) := by
          rw [List.map_map]
          exact List.map_congr_left fun n hn => str_len (ok.1 n hn).1 (ok.1 n hn).2
        have e2 : (ns.map (fun _ => 1)).sum = ns.length := by
          exact sum_ones ns
        rw [e1, e2, List.length_map]
        have e4 : (Str.ofString " ").length = 1 := by decide +kernel
        rw [e4]
        omega
  · obtain ⟨s, rfl⟩ := z
    exact k s H1 e1
end
end Q44
namespace Q44
open PySem PySem.Spec PyProof.Rows L2 M44 Evl
section
variable {P : Program} {w : World} {K : PySem.W.Frag} {mg : Str → Option Value} {base : Heap} {C : Addr}
theorem idx_get {x : Int} : ∀ {lot : Rw}, x ∈ lot → lot[lot.idxOf x]? = some x
  | [], h => by cases h
  | y :: ys, h => by
    rw [List.idxOf_cons]
    by_cases e : y = x
    · subst e
      simp
    · have e2 : (y == x) = false := beq_eq_false_iff_ne.mpr e
      rw [e2]
      rcases List.mem_cons.mp h with z | z
      · exact absurd z.symm e
      · show (y :: ys)[ys.idxOf x + 1]? = _
        rw [List.getElem?_cons_succ]
        exact idx_get z
theorem idx_min {x : Int} : ∀ {lot : Rw} {m : Nat}, m < lot.idxOf x → lot[m]? ≠ some x
  | [], m, _ => by simp
  | y :: ys, m, h => by
    rw [List.idxOf_cons] at h
    by_cases e : y = x
    · subst e
      simp at h
    · have e2 : (y == x) = false := beq_eq_false_iff_ne.mpr e
      rw [e2] at h
      have h : m < ys.idxOf x + 1 := h
      cases m with
      | zero =>
        rw [List.getElem?_cons_zero]
        intro z
        exact e (Option.some.inj z)
      | succ m =>
        rw [List.getElem?_cons_succ]
        exact idx_min (by omega)
theorem idx_lt {lot : Rw} {x : Int} (h : x ∈ lot) : lot.idxOf x < lot.length := (List.getElem?_eq_some_iff.mp (idx_get h)).1
theorem dist_nodup {l : List Rw} (h : l.Nodup) : dist l = l := by
  refine snoc_ind (P := fun l => l.Nodup → dist l = l) (fun _ => rfl) (fun l p ih => ?_) l h
  intro hn
  rw [List.nodup_append] at hn
  rw [dist_snoc, ih hn.1]
  unfold ins
  rw [if_neg]
  intro z
  exact hn.2.2 p z p (List.mem_singleton.mpr rfl) rfl
theorem part_ok {lot low r : Rw} (h : RowOk lot.length r) (hs : ∀ x ∈ low, x ∈ lot) : RowOk low.length (partOf lot low r) := by
  refine ⟨List.length_map _, fun m hm => ?_⟩
  obtain ⟨x, hx, rfl⟩ := List.mem_map.mp hm
  have lt := idx_lt (hs x hx)
  rw [← h.1] at lt
  rw [List.getD_eq_getElem?_getD, List.getElem?_eq_getElem lt]
  exact h.2 _ (List.getElem_mem _)
theorem parts_mem {lot low p : Rw} {rows : List Rw} : p ∈ parts lot low rows ↔ ∃ r ∈ rows, partOf lot low r = p := List.mem_map
theorem paired_app {α β : Type} {F : α → β → Prop} {l1 : List α} {m1 : List β} {l2 : List α} {m2 : List β} (h : Paired F l1 m1) (k : Paired F l2 m2) : Paired F (l1 ++ l2) (m1 ++ m2) := by
  induction h with
  | nil => exact k
  | cons r _ ih => exact .cons r ih
structure GI (H1 : Hp) (fd : Addr) (lot low : Rw) (done ks : List Rw) (L : Rw → Addr) (H' : Hp) : Prop where
  kp : ∀ a o, a ≠ fd → H1 a = some o → H' a = some o
  fr : ∀ a, H' a = none → H1 a = none
  di : H' fd = some (.dT (tab (fun p => .ref (L p)) ks))
  ls : ∀ p ∈ ks, H1 (L p) = none ∧ RowsL H' (.ref (L p)) (done.filter fun r => decide (partOf lot low r = p))
  ij : ∀ p ∈ ks, ∀ q ∈ ks, L p = L q → p = q
section
variable {H1 H' H2 : Hp} {fd : Addr} {lot low p r : Rw} {done ks : List Rw} {L : Rw → Addr}
theorem gi_ex (g : GI H1 fd lot low done ks L H') (e : Ex H' H2) : GI H1 fd lot low done ks L H2 :=
  ⟨fun a o n q => e _ _ (g.kp a o n q), fun a q => g.fr a (fresh_back e q), e _ _ g.di, fun p hp => ⟨(g.ls p hp).1, (g.ls p hp).2.mono e⟩, g.ij⟩
theorem gi_new {l : Addr} (hf : ∃ o, H1 fd = some o) (g : GI H1 fd lot low done ks L H') (hp : p ∉ ks) (hd : ∀ r ∈ done, partOf lot low r ∈ ks) (hl : H' l = none) :
    GI H1 fd lot low done (ins ks p) (fun q => if q = p then l else L q) (upd (upd H' l (.lst [])) fd (.dT (putK (tab (fun p => .ref (L p)) ks) (keyR p) (.ref l)))) := by
  obtain ⟨of, hf⟩ := hf
  have l_fd : l ≠ fd := fun z => by
    rw [z, g.di] at hl
    cases hl
  refine ⟨fun a o n q => ?_, fun a q => ?_, ?_, fun q hq => ?_, fun q hq q' hq' e => ?_⟩
  · rw [upd_ne n, upd_ne (ne_of_none (g.kp a o n q) hl)]
    exact g.kp a o n q
  · by_cases n : a = fd
    · rw [n, upd_same] at q
      cases q
    · by_cases n2 : a = l
      · rw [upd_ne n, n2, upd_same] at q
        cases q
      · rw [upd_ne n, upd_ne n2] at q
        exact g.fr a q
  · rw [upd_same, putK_tab, tab_congr]
    intro q _
    by_cases e : q = p
    · rw [if_pos e, if_pos e]
    · rw [if_neg e, if_neg e]
  · rcases mem_ins.mp hq with h | rfl
    · have e : q ≠ p := fun z => hp (z ▸ h)
      obtain ⟨z1, a, as, z2, z3, z4⟩ := g.ls q h
      cases z2
      rw [if_neg e]
      have n1 : L q ≠ fd := fun z => by
        rw [z, hf] at z1
        cases z1
      have n2 : L q ≠ l := ne_of_none z3 hl
      refine ⟨z1, L q, as, rfl, by rw [upd_ne n1, upd_ne n2]; exact z3, Paired.mapP z4 fun a b w => ?_⟩
      rw [upd_ne (ne_of w g.di (fun z => nomatch z)), upd_ne (ne_of_none w hl)]
      exact w
    · rw [if_pos rfl]
      refine ⟨g.fr l hl, l, [], rfl, by rw [upd_ne l_fd, upd_same]; rfl, ?_⟩
      have e : done.filter (fun r => decide (partOf lot low r = q)) = [] := by
        rw [List.filter_eq_nil_iff]
        intro r hr z
        exact hp (of_decide_eq_true z ▸ hd r hr)
      rw [e]
      exact .nil
  · have nl : ∀ q ∈ ks, L q ≠ l := fun q hq => by
      obtain ⟨_, a, as, z2, z3, _⟩ := g.ls q hq
      cases z2
      exact ne_of_none z3 hl
    by_cases e1 : q = p
    · by_cases e2 : q' = p
      · rw [e1, e2]
      · rw [if_pos e1, if_neg e2] at e
        rcases mem_ins.mp hq' with h | h
        · exact absurd e.symm (nl q' h)
        · exact absurd h e2
    · by_cases e2 : q' = p
      · rw [if_neg e1, if_pos e2] at e
        rcases mem_ins.mp hq with h | h
        · exact absurd e (nl q h)
        · exact absurd h e1
      · rw [if_neg e1, if_neg e2] at e
        rcases mem_ins.mp hq with h | h
        · rcases mem_ins.mp hq' with h' | h'
          · exact g.ij q h q' h' e
          · exact absurd h' e2
        · exact absurd h e1
theorem gi_app {t : Addr} {as : List Addr} (hf : ∃ o, H1 fd = some o) (g : GI H1 fd lot low done ks L H') (hp : p ∈ ks) (hr : partOf lot low r = p) (ht : H' t = some (.tup (r.map V.int))) (ha : H' (L p) = some (.lst (as.map V.ref)))
    (hra : RowsA H' as (done.filter fun r => decide (partOf lot low r = p))) : GI H1 fd lot low (done ++ [r]) ks L (upd H' (L p) (.lst (as.map V.ref ++ [.ref t]))) := by
  obtain ⟨of, hf⟩ := hf
  have n1 : L p ≠ fd := fun z => by
    have z1 := (g.ls p hp).1
    rw [z, hf] at z1
    cases z1
  have fz := fz_upd (o := .lst (as.map V.ref ++ [.ref t])) ha
  refine ⟨fun a o n q => ?_, fun a q => ?_, ?_, fun q hq => ?_, g.ij⟩
  · have n2 : a ≠ L p := ne_of_none q (g.ls p hp).1
    rw [upd_ne n2]
    exact g.kp a o n q
  · by_cases n : a = L p
    · rw [n, upd_same] at q
      cases q
    · rw [upd_ne n] at q
      exact g.fr a q
  · rw [upd_ne (Ne.symm n1)]
    exact g.di
  · by_cases e : q = p
    · subst e
      refine ⟨(g.ls q hq).1, L q, as ++ [t], rfl, by rw [upd_same, List.map_append]; rfl, ?_⟩
      rw [List.filter_append, List.filter_cons, if_pos (decide_eq_true hr)]
      exact paired_app (rows_mono fz hra) (.cons (fz _ _ ht (fun _ z => nomatch z)) .nil)
    · obtain ⟨z1, a, bs, z2, z3, z4⟩ := g.ls q hq
      cases z2
      have n2 : L q ≠ L p := fun z => e (g.ij q hq p hp z)
      refine ⟨z1, L q, bs, rfl, by rw [upd_ne n2]; exact z3, ?_⟩
      rw [List.filter_append, List.filter_cons, if_neg (by rw [decide_eq_true_eq, hr]; exact Ne.symm e)]
      rw [List.filter_nil, List.append_nil]
      exact rows_mono fz z4
end
section
variable {K : PySem.W.Frag} {σ : L2.St} {H : Hp} {ty td te : TE} {b d : Addr} {f : Rw → V} {ks : List Rw} {p : Rw}
theorem el_is {xs ys : List V} (h : EvL te σ H xs) (e : xs = ys) : EvL te σ H ys := by
  rw [← e]
  exact h
theorem evp_dnew : EvP tDNewT σ H fun v H2 => ∃ d, v = .ref d ∧ H d = none ∧ H2 d = some (.dT []) := fun H1 e Q q p hp => q _ _ (Ex.new hp) ⟨p, rfl, fresh_back e hp, upd_same⟩
theorem dget_tab (h1 : H d = some (.dT (tab f ks))) (h2 : H b = some (.tup (p.map V.int))) : DGet H d (.ref b) (if p ∈ ks then some (f p) else none) := by
  have z := DGet.t (k := keyR p) h1 (by rw [keyR_kV]; exact h2)
  rw [valV_tab] at z
  exact z
theorem et_dni (hy : Ev ty σ H (.ref b)) (hd : Ev td σ H (.ref d)) (h1 : H d = some (.dT (tab f ks))) (h2 : H b = some (.tup (p.map V.int))) : EvT (tB (tDNotIn ty td)) σ H (decide (p ∉ ks)) := fun H1 e Q q =>
  hy H1 e _ fun H2 e2 => hd H2 (e.trans e2) _ fun H3 e3 => by
    have e' := (e.trans e2).trans e3
    refine ⟨d, _, rfl, dget_tab (e' _ _ h1) (e' _ _ h2), _, rfl, ?_⟩
    by_cases hp : p ∈ ks
    · rw [if_pos hp]
      rw [decide_eq_false (fun z => z hp)] at q
      exact q H3 (e2.trans e3)
    · rw [if_neg hp]
      rw [decide_eq_true hp] at q
      exact q H3 (e2.trans e3)
theorem ev_dget (hd : Ev td σ H (.ref d)) (hy : Ev ty σ H (.ref b)) (h1 : H d = some (.dT (tab f ks))) (h2 : H b = some (.tup (p.map V.int))) (hp : p ∈ ks) : Ev (tDGet td ty) σ H (f p) := fun H1 e Q q =>
  hd H1 e _ fun H2 e2 => hy H2 (e.trans e2) _ fun H3 e3 => by
    have e' := (e.trans e2).trans e3
    have g := dget_tab (e' _ _ h1) (e' _ _ h2)
    rw [if_pos hp] at g
    exact ⟨d, f p, rfl, g, q H3 (e2.trans e3)⟩
end
abbrev s_groups_in : Stmt := top 32
abbrev N_groups_in : List Str := ["table", "low", "places", "found", "row", "part", "letter", "place"]
theorem sc_groups_in : FnScope N_groups_in ["table", "low"] (defScope s_groups_in) := ⟨rfl, rfl, rfl, by decide +kernel, rfl, by decide +kernel, by decide +kernel⟩
theorem ok_groups_in {f : Addr} {fd : FuncData} (F : Fun K "groups_in" "groups_in" s_groups_in f fd) (T : Tx K mg C) : FnOk P w K mg base CX0 1 f fd ["table", "low"] (sp_groups_in K C) := by
  refine F.ok sc_groups_in (fun vs H Q E h => len_sp2 h) (fun cdv A outer s H vs Q E hr h => ?_)
  obtain ⟨v0, v1, rfl, h⟩ := h
  refine ⟨_, (pss_cons (ps_asg (pe_tup (pa_cons (pe_lc (own := [("letter", 6)]) rfl sc_groups_in.nd (k_pit (K := K) rfl (pv 1)) (blkOk_by (own := [("letter", 6)]) (N := N_groups_in) (sc := defScope s_groups_in) (by decide +kernel)) (fun _ _ _ _ _ => (pg_name (i := 6) sc_groups_in.nd rfl (Or.inl rfl))) (fun _ _ _ _ _ => pts_nil) (fun _ _ _ _ _ => (pe_bmT PySem.F.plainAttrs_tuple PySem.F.slot_tuple_index PySem.F.type_tuple_index mt_tupI (k_sl (K := K) rfl (pv 0)) (pa_cons (pv 6) pa_nil)))) (pa_cons pe_dnewT pa_nil))) (k_gt (K := K) (n := 2) rfl rfl (pgs_cons (pg_name (i := 2) sc_groups_in.nd rfl (Or.inl rfl)) (pgs_cons (pg_name (i := 3) sc_groups_in.nd rfl (Or.inr rfl)) pgs_nil))))
      (pss_cons (ps_for PassesOwn.never rfl (k_pit (K := K) rfl (k_sl (K := K) rfl (pv 0))) (pg_name (i := 4) sc_groups_in.nd rfl (Or.inr rfl))
        (pss_cons (ps_set (i := 5) sc_groups_in.nd rfl (Or.inl rfl) (pe_callTy (k_tuple (K := K) rfl) (by rfl) T.m_tuple boot_tuple (pa_cons (pe_lc (own := [("place", 7)]) rfl sc_groups_in.nd (k_pil (K := K) rfl (pv 2)) (blkOk_by (own := [("place", 7)]) (N := N_groups_in) (sc := defScope s_groups_in) (by decide +kernel)) (fun _ _ _ _ _ => (pg_name (i := 7) sc_groups_in.nd rfl (Or.inl rfl))) (fun _ _ _ _ _ => pts_nil) (fun _ _ _ _ _ => (pe_ix (k_ixT (K := K) rfl) (pv 4) (pv 7) (fun _ _ => rfl)))) pa_nil)))
      (pss_cons (ps_if (pt_cmp (pc_dnotin (hu_of hr) (pv 5) (pv 3)) (by rfl)) (pss_one (ps_dput (hu_of hr) (pv 3) (pv 5) (pe_lst pa_nil) rfl)) pss_nil)
      (pss_one (ps_expr (k_bm (K := K) rfl PySem.F.plainAttrs_list PySem.F.slot_list_append PySem.F.type_list_append mt_append (pe_dget (hu_of hr) (pv 3) (pv 5) (fun _ _ => rfl)) (pa_cons (pv 4) pa_nil)))))))
      (pss_one (ps_ret (pe_dcT (own := [("part", 5)]) (hu_of hr) rfl sc_groups_in.nd (k_pil (K := K) rfl (pe_callB (cr_sortD rfl) (by rfl) T.sorted (by decide +kernel) (pa_cons (pv 3) pa_nil))) (blkOk_by (own := [("part", 5)]) (N := N_groups_in) (sc := defScope s_groups_in) (by decide +kernel)) (fun _ _ _ _ _ => (pg_name (i := 5) sc_groups_in.nd rfl (Or.inl rfl))) (fun _ _ _ _ _ => pts_nil) (fun _ _ _ _ _ => (pv 5)) (fun _ _ _ _ _ => (pe_dget (hu_of hr) (pv 3) (pv 5) (fun _ _ => rfl)))))))), ?_⟩
  obtain ⟨lot, rows, low, ⟨a, rfl, dx, ok, ws, la, ra, as, hs, w0, w1, hla, hra, hrows⟩, ⟨b, rfl, hb⟩, lok, sub, h64, k⟩ := h
  have len := hrows.len
  have llen := lot_len lok
  obtain ⟨la', lob, ela, hlat, hob⟩ := id hla
  cases ela
  refine q_asgG (evp_tup (P := fun vs H2 => ∃ pl fd, vs = [.ref pl, .ref fd] ∧ H pl = none ∧ H fd = none ∧ H2 pl = some (.lst (low.map fun z => V.int ((lot.idxOf z : Nat) : Int))) ∧ H2 fd = some (.dT []))
    (eap_cons (evp_L (el_is (el_map1 (fun v => match v with | V.int z => V.int ((lot.idxOf z : Nat) : Int) | _ => .non) (ei_tup (ev_var rfl) hb) (by rw [List.length_map]; omega) (fun _ => rfl) fun v H1 hv e => ?_) (List.map_map ..))) fun v H1 e1 z => eap_cons evp_dnew fun v2 H2 e2 z2 => eap_nil fun H3 e3 => ?_)
    (fun vs H1 z => ?_) (fun vs H1 H2 e z => ?_)) fun v H1 e1 z => ?_
  · obtain ⟨z, hz, rfl⟩ := mem_int hv
    refine fun H2 e2 Q q => (ev_own0 T (ev_var rfl) (slt_mono (fz_of e) hs) w0) H2 e2 _ fun H3 e3 => ?_
    refine ⟨⟨la, lob, _, rfl, e3 _ _ (e2 _ _ (e _ _ hlat)), hob⟩, .int z, rfl, la, lot, z, lot.idxOf z, rfl, rfl, .inr ⟨lob, e3 _ _ (e2 _ _ (e _ _ hlat))⟩, idx_get (sub z hz), fun m hm => idx_min hm, q H3 e3⟩
  · obtain ⟨pl, rfl, f1, hpl⟩ := z
    obtain ⟨fd, rfl, f2, hfd⟩ := z2
    exact ⟨pl, fd, rfl, f1, fresh_back e1 f2, e3 _ _ (e2 _ _ hpl), e3 _ _ hfd⟩
  · obtain ⟨pl, fd, rfl, _⟩ := z
    show 2 ≤ 100000
    decide
  · obtain ⟨pl, fd, rfl, f1, f2, h1, h2⟩ := z
    exact ⟨pl, fd, rfl, f1, f2, e _ _ h1, e _ _ h2⟩
  obtain ⟨tp, vs, rfl, _, htp, pl, fd, rfl, f1, f2, hpl, hfd⟩ := z
  refine ⟨tp, _, rfl, st_of htp, rfl, _, _, rfl, _, _, rfl, rfl, ?_⟩
  have plfd : pl ≠ fd := ne_of hpl hfd (fun z => nomatch z)
  have hf : ∃ o, H1 fd = some o := ⟨_, hfd⟩
  have old : ∀ x o, H x = some o → x ≠ fd := fun x o q => ne_of_none q f2
  refine q_forT (ev_own1 T (ev_var rfl) (slt_mono (fz_of e1) hs) w1) (st_of (e1 _ _ hra)) (fun i σ' H' => ∃ r4 r5 L, σ' = [some (.ref a), some (.ref b), some (.ref pl), some (.ref fd), r4, r5, none, none] ∧ GI H1 fd lot low (rows.take i) (dist (parts lot low (rows.take i))) L H') (fun H2 e2 => ?_) (fun i σ' H' hi z => ?_) (fun i x σ' H' hx z => ?_) (fun σ' H' z => ?_)
  · exact ⟨none, none, fun _ => 0, rfl, ⟨fun a o _ q => e2 _ _ q, fun a q => fresh_back e2 q, e2 _ _ hfd, fun p hp => (nomatch hp), fun p hp => (nomatch hp)⟩⟩
  · obtain ⟨r4, r5, L, rfl, g⟩ := z
    exact st_of (g.kp ra _ (old ra _ hra) (e1 _ _ hra))
  · obtain ⟨r4, r5, L, rfl, g⟩ := z
    rw [List.getElem?_map] at hx
    obtain ⟨t, ht, rfl⟩ := Option.map_eq_some_iff.mp hx
    obtain ⟨r, hr', hht⟩ := hrows.get ht
    have rmem := List.mem_of_getElem? hr'
    have tk : rows.take (i + 1) = rows.take i ++ [r] := by rw [List.take_add_one, hr']; rfl
    have ks' : dist (parts lot low (rows.take (i + 1))) = ins (dist (parts lot low (rows.take i))) (partOf lot low r) := by
      rw [tk]
      unfold parts
      rw [List.map_append]
      exact dist_snoc _ _
    have hdone : ∀ r' ∈ rows.take i, partOf lot low r' ∈ dist (parts lot low (rows.take i)) := fun r' h => (mem_dist _).mpr (parts_mem.mpr ⟨r', h, rfl⟩)
    have ht' := g.kp t _ (old t _ hht) (e1 _ _ hht)
    refine q_asgU (eu_tuple (el_is (ys := (partOf lot low r).map V.int) (el_map1 (fun v => match v with | V.int z => V.int (r.getD z.toNat 0) | _ => .non) (ei_lst (ev_var rfl) (g.kp pl _ plfd hpl)) (by rw [List.length_map]; omega) (fun _ => rfl) fun v H2 hv e => ?_) ?_)) fun pt H2 hpt e2 hpt2 => ?_
    · obtain ⟨z, hz, rfl⟩ := List.mem_map.mp hv
      have lt := idx_lt (sub z hz)
      rw [← (ok.ro r rmem).1] at lt
      refine ev_op (ev_var rfl) (ev_var rfl) (rv_ixT (st_of (e _ _ ht')) (atI_nat (j := lot.idxOf z) ?_))
      show (r.map V.int)[lot.idxOf z]? = some (V.int (r.getD ((lot.idxOf z : Nat) : Int).toNat 0))
      rw [List.getElem?_map, List.getD_eq_getElem?_getD, Int.toNat_natCast, List.getElem?_eq_getElem lt]
      rfl
    · unfold partOf
      rw [List.map_map, List.map_map]
      refine List.map_congr_left fun z hz => ?_
      show V.int (r.getD ((lot.idxOf z : Nat) : Int).toNat 0) = _
      rw [Int.toNat_natCast]
      rfl
    have g2 := gi_ex g e2
    have rest : ∀ (D' : Ends), (∀ (σ' : L2.St) (H' : Hp), (∃ r4 r5 L, σ' = [some (.ref a), some (.ref b), some (.ref pl), some (.ref fd), r4, r5, none, none] ∧ GI H1 fd lot low (rows.take (i + 1)) (dist (parts lot low (rows.take (i + 1)))) L H') → D'.nx σ' H') → ∀ L' Hc, GI H1 fd lot low (rows.take i) (ins (dist (parts lot low (rows.take i))) (partOf lot low r)) L' Hc → Hc pt = some (.tup ((partOf lot low r).map V.int)) →
        tDrop (tBM K "list" rAppend (tDGet (tVar 3) (tVar 5)) (tCons (tVar 4) tNil)) D' [some (.ref a), some (.ref b), some (.ref pl), some (.ref fd), some (.ref t), some (.ref pt), none, none] Hc := fun D' hD L' Hc gc hc => by
      have pin : partOf lot low r ∈ ins (dist (parts lot low (rows.take i))) (partOf lot low r) := mem_ins.mpr (.inr rfl)
      obtain ⟨_, aa, bs, z2, z3, z4⟩ := gc.ls _ pin
      cases z2
      have lb := z4.len
      have lf := List.length_filter_le (fun r' => decide (partOf lot low r' = partOf lot low r)) (rows.take i)
      rw [List.length_take] at lf
      refine (ev_dget (f := fun p => .ref (L' p)) (ev_var rfl) (ev_var rfl) gc.di hc pin) Hc (Ex.refl _) _ fun H3 e3 => ?_
      refine ⟨.inl ⟨rfl, _, sq_of (e3 _ _ z3)⟩, .ref t, rfl, L' (partOf lot low r), bs.map V.ref, .ref t, rfl, rfl, e3 _ _ z3, sz_lt (by rw [List.length_map]; omega), hD _ _ ⟨some (.ref t), some (.ref pt), L', rfl, ?_⟩⟩
      rw [ks', tk]
      have gc3 := gi_ex gc e3
      exact gi_app hf gc3 pin rfl (gc3.kp t _ (old t _ hht) (e1 _ _ hht)) (e3 _ _ z3) (rows_mono (fz_of e3) z4)
    refine q_when (et_dni (f := fun p => .ref (L p)) (ev_var rfl) (ev_var rfl) g2.di hpt2) (fun hnew H3 e3 => ?_) (fun hold H3 e3 => ?_)
    · have hnew : partOf lot low r ∉ dist (parts lot low (rows.take i)) := of_decide_eq_true hnew
      have g3 := gi_ex g2 e3
      refine ⟨Nat.zero_le _, fun l hl => ?_⟩
      have l_fd : fd ≠ l := ne_of_none g3.di hl
      have pt_l : pt ≠ l := ne_of_none (e3 _ _ hpt2) hl
      have pt_fd : pt ≠ fd := ne_of hpt2 g2.di (fun z => nomatch z)
      have dl := dist_len (parts lot low (rows.take i))
      have dl2 : (parts lot low (rows.take i)).length = (rows.take i).length := List.length_map _
      rw [List.length_take] at dl2
      refine ⟨.ref fd, rfl, .ref pt, rfl, fd, _, rfl, DPut.t (k := keyR (partOf lot low r)) (by rw [upd_ne l_fd]; exact g3.di) (by rw [upd_ne pt_l, keyR_kV]; exact e3 _ _ hpt2) (sz_lt (by rw [tab_len]; omega)), ?_⟩
      refine rest _ (fun _ _ z => z) _ _ (gi_new hf g3 hnew hdone hl) ?_
      rw [upd_ne pt_fd, upd_ne pt_l]
      exact e3 _ _ hpt2
    · have hold : partOf lot low r ∈ dist (parts lot low (rows.take i)) := by
        have z := of_decide_eq_false hold
        exact Classical.not_not.mp z
      have g3 := gi_ex g2 e3
      refine rest _ (fun _ _ z => z) L H3 ?_ (e3 _ _ hpt2)
      unfold ins
      rw [if_pos hold]
      exact g3
  · obtain ⟨r4, r5, L, rfl, g⟩ := z
    rw [List.length_map, len, List.take_length] at g
    have kl := dist_len (parts lot low rows)
    have kl2 : (parts lot low rows).length = rows.length := List.length_map _
    have nd := nodup_dist (parts lot low rows)
    have kok : ∀ p ∈ dist (parts lot low rows), RowOk low.length p := fun p hp => by
      obtain ⟨r, hr1, rfl⟩ := parts_mem.mp ((mem_dist _).mp hp)
      exact part_ok (ok.ro r hr1) sub
    have kd : 2 ≤ (dist (parts lot low rows)).length → 1 ≤ low.length := fun h2 => by
      cases low with
      | cons _ _ => rw [List.length_cons]; omega
      | nil =>
        exfalso
        have all : ∀ p ∈ dist (parts lot [] rows), p = [] := fun p hp => List.eq_nil_of_length_eq_zero (kok p hp).1
        generalize dist (parts lot [] rows) = l at h2 nd all
        match l, h2, nd, all with
        | x :: y :: l, _, nd, all =>
          rw [List.nodup_cons] at nd
          exact nd.1 (by rw [all x List.mem_cons_self, all y (List.mem_cons_of_mem _ List.mem_cons_self)]; exact List.mem_cons_self)
    refine s_retP (evp_dcT (fun p => V.ref (L p)) (evp_sortD (ev_var rfl) g.di kok (by omega) kd) (by rw [srt_len]; omega) (fun _ => rfl) (fun _ => rfl) fun p t H2 hp e hh => ?_) fun v H2 e2 z => ?_
    · exact ev_dget (f := fun p => .ref (L p)) (ev_var rfl) (ev_var rfl) (e _ _ g.di) hh ((srt_perm _).mem_iff.mp hp)
    · obtain ⟨d, rfl, hd⟩ := z
      refine k d H2 (fun x o q => e2 _ _ (g.kp x o (old x o q) (e1 _ _ q))) ⟨L, ?_, fun p hp => (g.ls p hp).2.mono e2⟩
      rw [dist_nodup ((srt_perm _).nodup_iff.mpr nd)] at hd
      exact hd
end
end Q44
namespace Q44
open PySem PySem.Spec PyProof.Rows L2 M44 Evl
section
variable {P : Program} {w : World} {K : PySem.W.Frag} {mg : Str → Option Value} {base : Heap} {C : Addr}
section
variable {K : PySem.W.Frag} {σ : L2.St} {H : Hp} {td te : TE} {d : Addr} {f : Rw → V} {ks : List Rw}
theorem ev_lenD (hd : Ev td σ H (.ref d)) (h1 : H d = some (.dT (tab f ks))) : Ev (tCB rLenT (tCons td tNil)) σ H (.int (ks.length : Int)) := fun H1 e Q q =>
  hd H1 e _ fun H2 e2 => ⟨d, tab f ks, rfl, e2 _ _ (e _ _ h1), by rw [tab_len]; exact q H2 e2⟩
theorem ei_vals {o : Obj} (hd : Ev td σ H (.ref d)) (h1 : H d = some (.frz o (.dT (tab f ks)))) : EvI (iValsT td) σ H (ks.map f).length (YL (ks.map f)) := fun H1 e R q =>
  hd H1 e _ fun H2 e2 => by
    refine ⟨d, o, tab f ks, rfl, e2 _ _ (e _ _ h1), q _ _ e2 fun i H3 e3 => ?_⟩
    have h3 := e3 _ _ (e2 _ _ (e _ _ h1))
    refine ⟨fun hi => ⟨h3, by rw [tab_len]; rw [List.length_map] at hi; exact hi⟩, fun hi => ⟨h3, by rw [tab_len]; rw [List.length_map] at hi; exact hi⟩, fun v H4 y => ⟨y.1, ?_⟩⟩
    obtain ⟨_, k, hk⟩ := y
    unfold tab at hk
    rw [List.getElem?_map] at hk ⊢
    obtain ⟨p, hp, ep⟩ := Option.map_eq_some_iff.mp hk
    rw [hp]
    cases ep
    rfl
/-- [.. for v in d.values()] -/
theorem el_lockV {j : Nat} {ws : List Nat} (g : V → V) (hd : ∀ H', Ev td σ H' (.ref d)) (h1 : H d = some (.dT (tab f ks))) (hn : ks.length ≤ 40000) (hw : ∀ v, wipe ((wipe σ ws).set j (some v)) ws = wipe σ ws)
    (he : ∀ p H', p ∈ ks → (∀ a o, a ≠ d → H a = some o → H' a = some o) → Ev te ((wipe σ ws).set j (some (f p))) H' (g (f p))) : EvL (tLockE (tLc (iValsT td) (gName j) tYes te ws)) σ H ((ks.map f).map g) := fun H1 e Q q => by
  have h1' := e _ _ h1
  refine ⟨d, .dT (tab f ks), h1', True.intro, fun od => ?_⟩
  have z := el_map1 (H := upd H1 d (.frz od (.dT (tab f ks)))) (te := te) (σ := σ) (j := j) (ws := ws) g (ei_vals (hd _) upd_same) (by rw [List.length_map]; exact hn) hw fun v H2 hv e2 => by
    obtain ⟨p, hp, rfl⟩ := List.mem_map.mp hv
    refine he p H2 hp fun a o n w => e2 _ _ ?_
    rw [upd_ne n]
    exact e _ _ w
  refine z _ (Ex.refl _) _ fun p H2 hp e2 h2 => ⟨e2 _ _ upd_same, ?_⟩
  have pd : p ≠ d := fun w => by
    rw [w, upd_same] at hp
    cases hp
  rw [upd_ne pd] at hp
  refine q p _ hp (fun a o w => ?_) (by rw [upd_ne pd]; exact h2)
  by_cases ad : a = d
  · rw [ad, upd_same, ← h1', ← ad]
    exact w
  · rw [upd_ne ad]
    exact e2 _ _ (by rw [upd_ne ad]; exact w)
end
theorem all_mem {l m : List Rw} {g : Rw → Bool} (h : ∀ x, x ∈ l ↔ x ∈ m) : l.all g = m.all g := by
  rw [Bool.eq_iff_iff, List.all_eq_true, List.all_eq_true]
  exact ⟨fun a x hx => a x ((h x).mpr hx), fun a x hx => a x ((h x).mp hx)⟩
theorem count_parts (lot low p : Rw) (rows : List Rw) : (parts lot low rows).count p = (rows.filter fun r => decide (partOf lot low r = p)).length := by
  unfold parts
  rw [List.count_eq_countP, List.countP_map, List.countP_eq_length_filter]
  congr 1
  refine List.filter_congr fun r _ => ?_
  show (partOf lot low r == p) = decide (partOf lot low r = p)
  by_cases h : partOf lot low r = p
  · rw [h, decide_eq_true rfl]
    exact beq_self_eq_true p
  · rw [decide_eq_false h]
    exact beq_eq_false_iff_ne.mpr h
abbrev s_does_fit : Stmt := top 34
abbrev N_does_fit : List Str := ["piece", "low", "k", "j", "groups", "rows"]
theorem sc_does_fit : FnScope N_does_fit ["piece", "low", "k", "j"] (defScope s_does_fit) := ⟨rfl, rfl, rfl, by decide +kernel, rfl, by decide +kernel, by decide +kernel⟩
theorem ok_does_fit {f : Addr} {fd : FuncData} (F : Fun K "does_fit" "does_fit" s_does_fit f fd) (T : Tx K mg C) {f_groups_in : Addr} (D_groups_in : Df P w K mg base "groups_in" f_groups_in 1 (sp_groups_in K C)) : FnOk P w K mg base CX0 2 f fd ["piece", "low", "k", "j"] (sp_does_fit K C) := by
  refine F.ok sc_does_fit (fun vs H Q E h => len_sp4 h) (fun cdv A outer s H vs Q E hr h => ?_)
  obtain ⟨v0, v1, v2, v3, rfl, h⟩ := h
  refine ⟨_, (pss_cons (ps_set (i := 4) sc_does_fit.nd rfl (Or.inl rfl) (pe_d D_groups_in hr (by decide) (pa_cons (pv 0) (pa_cons (pv 1) pa_nil))))
      (pss_one (ps_ret (pe_and (pe_cmpR op_le (pe_callB call_len_dT (by rfl) T.len PySem.boot_len (pa_cons (pv 4) pa_nil)) (pe_op op_shl pe_int (pe_op op_sub (pv 2) (pv 3))) (nomark _)) (pe_one (pe_callB (k_all (K := K) rfl) (by rfl) T.all (by decide +kernel) (pa_cons (pe_lock (pe_lc (own := [("rows", 5)]) rfl sc_does_fit.nd (pi_valuesT (pv 4)) (blkOk_by (own := [("rows", 5)]) (N := N_does_fit) (sc := defScope s_does_fit) (by decide +kernel)) (fun _ _ _ _ _ => (pg_name (i := 5) sc_does_fit.nd rfl (Or.inl rfl))) (fun _ _ _ _ _ => pts_nil) (fun _ _ _ _ _ => (pe_cmpR op_le (pe_callB (k_len (K := K) rfl) (by rfl) T.len PySem.boot_len (pa_cons (pv 5) pa_nil)) (pe_op op_shl pe_int (pv 3)) (nomark _))))) pa_nil))))))), ?_⟩
  obtain ⟨lot, rows, low, kk, j, ht, hlow, rfl, rfl, hk, hj, lok, sub, h64, k⟩ := h
  refine q_asgP (P := fun v H2 => ∃ d, v = .ref d ∧ GroupsAt H2 d lot low rows) (evp_def (ea2 (ev_var rfl) (ev_var rfl)) (spp2 fun H2 e2 Q q => ⟨lot, rows, low, ht.mono (fz_of e2), hlow.mono (fz_of e2), lok, sub, h64, fun d H3 e3 g => q _ H3 e3 ⟨d, rfl, g⟩⟩)) fun v H1 e1 z => ?_
  obtain ⟨d, rfl, L, hd, hL⟩ := z
  have ml := dist_len (parts lot low rows)
  have ml2 : (parts lot low rows).length = rows.length := List.length_map _
  refine s_ret (v := .bl (fit lot low kk j rows)) (ev_is (ev_andV (ev_op (ev_lenD (f := fun p => .ref (L p)) (ev_var rfl) hd) (ev_op ev_c (ev_op (ev_var rfl) (ev_var rfl) rv_I0) (rv_I ⟨by omega, by omega, by decide⟩)) rv_I0) fun _ =>
    ev_all (bs := (srt (dist (parts lot low rows))).map fun p => decide ((parts lot low rows).count p ≤ 2 ^ j)) (el_is (el_lockV (f := fun p => .ref (L p)) (fun v => match v with | V.ref a => (match H1 a with | some (.lst xs) => .bl (decide (((xs.length : Nat) : Int) ≤ 1 * 2 ^ ((j : Nat) : Int).toNat)) | _ => .non) | _ => .non) (fun H' => ev_var rfl) hd (by rw [srt_len]; omega) (fun _ => rfl) fun p H2 hp hold => ?_) ?_)) ?_) fun H2 e2 => k H2 (e1.trans e2)
  · have hp := (srt_perm _).mem_iff.mp hp
    obtain ⟨a, as, z, ha, hr'⟩ := hL p hp
    cases z
    have ne : L p ≠ d := ne_of ha hd (fun z => nomatch z)
    show Ev _ _ _ (match H1 (L p) with | some (.lst xs) => .bl (decide (((xs.length : Nat) : Int) ≤ 1 * 2 ^ ((j : Nat) : Int).toNat)) | _ => .non)
    rw [ha]
    exact ev_op (ev_len (ev_var rfl) (sq_of (hold _ _ ne ha))) (ev_op ev_c (ev_var rfl) (rv_I ⟨by omega, by omega, by decide⟩)) rv_I0
  · rw [List.map_map, List.map_map]
    refine List.map_congr_left fun p hp => ?_
    have hp := (srt_perm _).mem_iff.mp hp
    obtain ⟨a, as, z, ha, hr'⟩ := hL p hp
    cases z
    show (match H1 (L p) with | some (.lst xs) => V.bl (decide (((xs.length : Nat) : Int) ≤ 1 * 2 ^ ((j : Nat) : Int).toNat)) | _ => .non) = V.bl (decide ((parts lot low rows).count p ≤ 2 ^ j))
    rw [ha, count_parts, ← hr'.len]
    show V.bl (decide ((((as.map V.ref).length : Nat) : Int) ≤ 1 * 2 ^ ((j : Nat) : Int).toNat)) = _
    rw [List.length_map, Int.toNat_natCast, Int.one_mul]
    congr 1
    refine decide_eq_decide.mpr ?_
    have c : ((2 : Int) ^ j) = ((2 ^ j : Nat) : Int) := by push_cast; rfl
    rw [c]
    omega
  · rw [List.all_map, all_mem (m := dist (parts lot low rows)) fun x => (srt_perm _).mem_iff, srt_len]
    unfold fit
    congr 1
    congr 1
    refine decide_eq_decide.mpr ?_
    have e1 : ((kk : Int) - (j : Int)).toNat = kk - j := by omega
    rw [e1, Int.one_mul]
    have c : ((2 : Int) ^ (kk - j)) = ((2 ^ (kk - j) : Nat) : Int) := by push_cast; rfl
    rw [c]
    omega
abbrev s_require_cut : Stmt := top 36
abbrev N_require_cut : List Str := ["table", "low"]
theorem sc_require_cut : FnScope N_require_cut ["table", "low"] (defScope s_require_cut) := ⟨rfl, rfl, rfl, by decide +kernel, rfl, by decide +kernel, by decide +kernel⟩
theorem ok_require_cut {f : Addr} {fd : FuncData} (F : Fun K "require_cut" "require_cut" s_require_cut f fd) (T : Tx K mg C) {f_require_table : Addr} (D_require_table : Df P w K mg base "require_table" f_require_table 2 (sp_require_table K C)) {f_require_lot : Addr} (D_require_lot : Df P w K mg base "require_lot" f_require_lot 3 (sp_require_lot K C)) : FnOk P w K mg base CX0 4 f fd ["table", "low"] (sp_require_cut K C) := by
  refine F.ok sc_require_cut (fun vs H Q E h => len_sp2 h) (fun cdv A outer s H vs Q E hr h => ?_)
  obtain ⟨v0, v1, rfl, h⟩ := h
  refine ⟨_, (pss_cons (ps_expr (pe_d D_require_table hr (by decide) (pa_cons (pv 0) pa_nil)))
      (pss_one (ps_expr (pe_d D_require_lot hr (by decide) (pa_cons (pv 1) pa_nil))))), ?_⟩
  obtain ⟨lot, rows, low, ht, hl, ok, k⟩ := h
  refine q_drop (v := .non) (ev_def (ea1 (ev_var rfl)) (spv1 fun H2 e2 Q k => ⟨lot, rows, ht.mono (fz_of e2), k⟩)) fun H1 e1 => ?_
  exact s_drop (v := .non) (ev_def (ea1 (ev_var rfl)) (spv1 fun H2 e2 Q k => ⟨low, hl.mono (fz_of (e1.trans e2)), ok, k⟩)) fun H2 e2 => k H2 (e1.trans e2)
abbrev s_need_within : Stmt := top 37
abbrev N_need_within : List Str := ["table", "low"]
theorem sc_need_within : FnScope N_need_within ["table", "low"] (defScope s_need_within) := ⟨rfl, rfl, rfl, by decide +kernel, rfl, by decide +kernel, by decide +kernel⟩
theorem ok_need_within {f : Addr} {fd : FuncData} (F : Fun K "need_within" "need_within" s_need_within f fd) (T : Tx K mg C) {f_within_in : Addr} (D_within_in : Df P w K mg base "within_in" f_within_in 1 (sp_within_in K C)) : FnOk P w K mg base CX0 2 f fd ["table", "low"] (sp_need_within K C) := by
  refine F.ok sc_need_within (fun vs H Q E h => len_sp2 h) (fun cdv A outer s H vs Q E hr h => ?_)
  obtain ⟨v0, v1, rfl, h⟩ := h
  refine ⟨_, (pss_one (ps_if (pt_not (pt_val (pe_d D_within_in hr (by decide) (pa_cons (pv 1) (pa_cons (k_sl (K := K) rfl (pv 0)) pa_nil))))) (pss_one ps_never) pss_nil)), ?_⟩
  obtain ⟨lot, rows, low, ⟨a, rfl, dx, ok, ws, la, ra, as, hs, w0, w1, hla, hra, hr'⟩, hl, hn, sub, k⟩ := h
  exact s_when (b := false) (et_not (a := true) (et_B (ev_def (ea2 (ev_var rfl) (ev_own0 T (ev_var rfl) hs w0)) (spv2 fun H2 e2 Q k => ⟨low, lot, hl.mono (fz_of e2), hla.it.mono (fz_of e2), hn, sub, k⟩)))) (fun z => nomatch z) fun _ H1 e1 => k H1 e1
abbrev s_require_cut_and_power : Stmt := top 38
abbrev N_require_cut_and_power : List Str := ["table", "low", "k"]
theorem sc_require_cut_and_power : FnScope N_require_cut_and_power ["table", "low", "k"] (defScope s_require_cut_and_power) := ⟨rfl, rfl, rfl, by decide +kernel, rfl, by decide +kernel, by decide +kernel⟩
theorem ok_require_cut_and_power {f : Addr} {fd : FuncData} (F : Fun K "require_cut_and_power" "require_cut_and_power" s_require_cut_and_power f fd) (T : Tx K mg C) {f_require_cut : Addr} (D_require_cut : Df P w K mg base "require_cut" f_require_cut 4 (sp_require_cut K C)) {f_require_within : Addr} (D_require_within : Df P w K mg base "require_within" f_require_within 3 (sp_require_within K C)) {f_need_within : Addr} (D_need_within : Df P w K mg base "need_within" f_need_within 2 (sp_need_within K C)) : FnOk P w K mg base CX0 5 f fd ["table", "low", "k"] (sp_require_cut_and_power K C) := by
  refine F.ok sc_require_cut_and_power (fun vs H Q E h => len_sp3 h) (fun cdv A outer s H vs Q E hr h => ?_)
  obtain ⟨v0, v1, v2, rfl, h⟩ := h
  refine ⟨_, (pss_cons (ps_expr (pe_d D_require_cut hr (by decide) (pa_cons (pv 0) (pa_cons (pv 1) pa_nil))))
      (pss_cons (ps_expr (pe_d D_require_within hr (by decide) (pa_cons (pv 2) (pa_cons pe_int (pa_cons (pe_gi (by rfl) T.MOST_POWER) pa_nil)))))
      (pss_cons (ps_expr (pe_d D_need_within hr (by decide) (pa_cons (pv 0) (pa_cons (pv 1) pa_nil))))
      (pss_one (ps_if (pt_cmpR op_gt (pe_callB (k_len (K := K) rfl) (by rfl) T.len PySem.boot_len (pa_cons (k_sl (K := K) rfl (pv 0)) pa_nil)) (pe_op op_shl pe_int (pv 2)) (nomark _)) (pss_one ps_never) pss_nil))))), ?_⟩
  obtain ⟨lot, rows, low, kk, ht, hl, rfl, hk, ok, sub, hn, k⟩ := h
  have llen := lot_len ok
  refine q_drop (v := .non) (ev_def (ea2 (ev_var rfl) (ev_var rfl)) (spv2 fun H2 e2 Q k => ⟨lot, rows, low, ht.mono (fz_of e2), hl.mono (fz_of e2), ok, k⟩)) fun H1 e1 => ?_
  refine q_drop (v := .non) (ev_def (ea3 (ev_var rfl) ev_c ev_c) (spv3 fun H2 e2 Q k => ⟨(kk : Int), 20, rfl, rfl, rfl, by omega, by omega, k⟩)) fun H2 e2 => ?_
  refine q_drop (v := .non) (ev_def (ea2 (ev_var rfl) (ev_var rfl)) (spv2 fun H3 e3 Q k => ⟨lot, rows, low, ht.mono (fz_of ((e1.trans e2).trans e3)), hl.mono (fz_of ((e1.trans e2).trans e3)), by omega, sub, k⟩)) fun H3 e3 => ?_
  obtain ⟨a, rfl, dx, ok2, ws, la, ra, as, hs, w0, w1, hla, hra, hr'⟩ := ht.mono (fz_of ((e1.trans e2).trans e3))
  refine s_when (b := false) (et_is (et_test (ev_op (ev_lenT (ev_own1 T (ev_var rfl) hs w1) (.inl hra)) (ev_op ev_c (ev_var rfl) (rv_I ⟨by omega, by omega, by decide⟩)) rv_I0)) ?_) (fun z => nomatch z) fun _ H4 e4 => k H4 (((e1.trans e2).trans e3).trans e4)
  rw [List.length_map, hr'.len, Int.toNat_natCast, Int.one_mul]
  refine decide_eq_false ?_
  have c : ((2 : Int) ^ kk) = ((2 ^ kk : Nat) : Int) := by push_cast; rfl
  rw [c]
  omega
abbrev s_is_piece : Stmt := top 35
abbrev N_is_piece : List Str := ["table", "low", "k", "value"]
theorem sc_is_piece : FnScope N_is_piece ["table", "low", "k", "value"] (defScope s_is_piece) := ⟨rfl, rfl, rfl, by decide +kernel, rfl, by decide +kernel, by decide +kernel⟩
theorem ok_is_piece {f : Addr} {fd : FuncData} (F : Fun K "is_piece" "is_piece" s_is_piece f fd) (T : Tx K mg C) {f_is_table : Addr} (D_is_table : Df P w K mg base "is_table" f_is_table 1 (sp_is_table K C)) {f_is_within : Addr} (D_is_within : Df P w K mg base "is_within" f_is_within 2 (sp_is_within K C)) {f_does_fit : Addr} (D_does_fit : Df P w K mg base "does_fit" f_does_fit 2 (sp_does_fit K C)) : FnOk P w K mg base CX0 3 f fd ["table", "low", "k", "value"] (sp_is_piece K C) := by
  refine F.ok sc_is_piece (fun vs H Q E h => len_sp4 h) (fun cdv A outer s H vs Q E hr h => ?_)
  obtain ⟨v0, v1, v2, v3, rfl, h⟩ := h
  refine ⟨_, (pss_cons (ps_if ((pw_or (pt_not (pt_val (pe_callB (k_isT (K := K) rfl T.is) (by rfl) T.isinstance (by decide +kernel) (pa_cons (pv 3) (pa_cons (pe_bltn (v := .ty "tuple") (by rfl) T.m_tuple boot_tuple rfl) pa_nil))))) (pw_or (pt_cmpR op_ne (pe_callB (k_len (K := K) rfl) (by rfl) T.len PySem.boot_len (pa_cons (pv 3) pa_nil)) (pe_gi (by rfl) T.PAIR) (nomark _)) (pw_or (pt_not (pt_val (pe_d D_is_within hr (by decide) (pa_cons (pe_ix (k_ixT (K := K) rfl) (pv 3) pe_int (fun _ _ => rfl)) (pa_cons pe_int (pa_cons (pv 2) pa_nil)))))) (pw_or1 (pt_not (pt_val (pe_d D_is_table hr (by decide) (pa_cons (pe_ix (k_ixT (K := K) rfl) (pv 3) pe_int (fun _ _ => rfl)) pa_nil)))))))).pt) (pss_one (ps_ret pe_bl)) pss_nil)
      (pss_cons (ps_if ((pw_or (pt_cmpR (k_neD (K := K) rfl hr.units) (k_sl (K := K) rfl (pe_ix (k_ixT (K := K) rfl) (pv 3) pe_int (fun _ _ => rfl))) (k_sl (K := K) rfl (pv 0)) (nomark _)) (pw_or1 (pt_cmpR (k_eqD (K := K) rfl hr.units) (k_sl (K := K) rfl (pe_ix (k_ixT (K := K) rfl) (pv 3) pe_int (fun _ _ => rfl))) (pe_tup pa_nil) (nomark _)))).pt) (pss_one (ps_ret pe_bl)) pss_nil)
      (pss_one (ps_ret (pe_d D_does_fit hr (by decide) (pa_cons (pe_ix (k_ixT (K := K) rfl) (pv 3) pe_int (fun _ _ => rfl)) (pa_cons (pv 1) (pa_cons (pv 2) (pa_cons (pe_ix (k_ixT (K := K) rfl) (pv 3) pe_int (fun _ _ => rfl)) pa_nil))))))))), ?_⟩
  obtain ⟨lot, rows, low, kk, ht, hlow, rfl, hk, lok, sub, h⟩ := h
  rcases h with ⟨q, ⟨p, t, rfl, hp, hpt⟩, hj, h64, k⟩ | ⟨ho, k⟩
  · obtain ⟨j, plot, prows⟩ := q
    have hp : H p = some (.tup [j, .ref t]) := hp
    obtain ⟨a, rfl, dx, ok, ws, la, ra, as, hs, w0, w1, hla, hra, hr'⟩ := id ht
    obtain ⟨dx2, ok2, ws2, la2, ra2, as2, hs2, w02, w12, hla2, hra2, hr2⟩ := id hpt
    have ix0 : ∀ {te : TE} {σ : L2.St} {H' : Hp}, Ex H H' → Ev te σ H' (.ref p) → Ev (tOp (rIxT K) te (tC (.int 0))) σ H' j := fun e h => ev_op h ev_c (rv_ixT (st_of (e _ _ hp)) rfl)
    have ix1 : ∀ {te : TE} {σ : L2.St} {H' : Hp}, Ex H H' → Ev te σ H' (.ref p) → Ev (tOp (rIxT K) te (tC (.int 1))) σ H' (.ref t) := fun e h => ev_op h ev_c (rv_ixT (st_of (e _ _ hp)) rfl)
    refine q_when (b := !jB j kk) (et_is (et_or (b := !jB j kk) (et_not (a := true) (et_B (ev_isT (ev_var rfl) (.tup (.inl hp))))) fun _ => et_is (et_or (a := false) (b := !jB j kk) (et_is (et_test (ev_op (ev_lenT (ev_var rfl) (.inl hp)) ev_c (rv_ne rfl))) rfl) fun _ =>
      et_is (et_or (et_not (et_B (ev_def (ea3 (ix0 (Ex.refl _) (ev_var rfl)) ev_c (ev_var rfl)) (spv3 fun H2 e2 Q k => ⟨(kk : Int), rfl, rfl, hj, k⟩)))) fun _ => et_not (a := true) (et_B (ev_def (ea1 (ix1 (Ex.refl _) (ev_var rfl))) (spv1 fun H2 e2 Q k => ⟨"Table", .tab (slt_mono (fz_of e2) hs2), .inr rfl, k⟩)))) (by simp)) (by simp)) (by simp)) (fun hb H1 e1 => ?_) fun hb H1 e1 => ?_
    · refine s_ret (v := .bl false) ev_c fun H2 e2 => ?_
      have e : pieceB lot low kk (j, plot, prows) = false := by
        unfold pieceB
        unfold jB at hb
        cases j with
        | int i =>
          have hb2 : ¬ (0 ≤ i ∧ i ≤ (kk : Int)) := fun z => by
            simp only [decide_eq_true z] at hb
            exact absurd hb (by decide)
          simp only [decide_eq_false hb2, Bool.false_and]
        | _ => rfl
      rw [e] at k
      exact k H2 (e1.trans e2)
    · have hj2 : jB j kk = true := by simpa using hb
      obtain ⟨i, rfl, hi0, hik⟩ : ∃ i : Nat, j = .int (i : Int) ∧ 0 ≤ i ∧ i ≤ kk := by
        unfold jB at hj2
        cases j with
        | int i =>
          have z := of_decide_eq_true hj2
          exact ⟨i.toNat, by rw [Int.toNat_of_nonneg z.1], by omega, by omega⟩
        | _ => cases hj2
      have pB : pieceB lot low kk (.int (i : Int), plot, prows) = (decide (plot = lot) && !prows.isEmpty && fit lot low kk i prows) := by
        unfold pieceB
        simp only [Int.toNat_natCast]
        rw [decide_eq_true (show (0 : Int) ≤ (i : Int) ∧ (i : Int) ≤ (kk : Int) from ⟨by omega, by omega⟩), Bool.true_and]
      have s1 := fun {H' : Hp} (e : Ex H H') => slt_mono (fz_of e) hs
      have s2 := fun {H' : Hp} (e : Ex H H') => slt_mono (fz_of e) hs2
      refine q_when (b := !decide (plot = lot) || decide (prows = [])) (et_or (et_test (ev_op (ev_own0 T (ix1 e1 (ev_var rfl)) (s2 e1) w02) (ev_own0 T (ev_var rfl) (s1 e1) w0) (rv_neI (hla2.it.mono (fz_of e1)) (hla.it.mono (fz_of e1))))) fun _ => et_test (ev_opU (ev_own1 T (ix1 e1 (ev_var rfl)) (s2 e1) w12) (eu_tup ea_nil (by decide)) fun q H2 h2 e2 =>
        rv_eqR (rs := prows) (qs := []) ⟨ra2, as2, rfl, e2 _ _ (e1 _ _ hra2), rows_mono (fz_of (e1.trans e2)) hr2⟩ ⟨q, [], rfl, h2, .nil⟩)) (fun hb H2 e2 => ?_) fun hb H2 e2 => ?_
      · refine s_ret (v := .bl false) ev_c fun H3 e3 => ?_
        have e : pieceB lot low kk (.int (i : Int), plot, prows) = false := by
          rw [pB]
          simp at hb
          by_cases h1 : plot = lot
          · have h2 : prows = [] := by
              rcases hb with z | z
              · exact absurd h1 z
              · exact z
            subst h2
            simp
          · rw [decide_eq_false h1]
            simp
        rw [e] at k
        exact k H3 ((e1.trans e2).trans e3)
      · simp at hb
        obtain ⟨rfl, hne⟩ := hb
        have e12 := e1.trans e2
        refine s_ret (v := .bl (fit plot low kk i prows)) (ev_def (ea_cons (ix1 e12 (ev_var rfl)) (ea3 (ev_var rfl) (ev_var rfl) (ix0 e12 (ev_var rfl)))) (spv4 fun H3 e3 Q k => ⟨plot, prows, low, kk, i, ⟨t, rfl, hpt.mono (fz_of (e12.trans e3))⟩, hlow.mono (fz_of (e12.trans e3)), rfl, rfl, hk, hik, lok, sub, h64, k⟩)) fun H3 e3 => ?_
        have e : pieceB plot low kk (.int (i : Int), plot, prows) = fit plot low kk i prows := by
          rw [pB, decide_eq_true rfl]
          cases prows with
          | nil => exact absurd rfl hne
          | cons _ _ => rfl
        rw [← e]
        exact k H3 (e12.trans e3)
  · refine q_when (b := true) ?_ (fun _ H1 e1 => s_ret (v := .bl false) ev_c fun H2 e2 => k H2 (e1.trans e2)) (fun z => nomatch z)
    cases ho with
    | kind kd n =>
      refine et_is (et_or (a := true) (b := true) (et_not (a := false) (et_B (ev_is (ev_isT (b := isB _ "tuple") (ev_var rfl) kd) ?_))) (fun z => nomatch z)) ?_
      · cases kd <;> first | rfl | exact absurd rfl n
      · rfl
    | @len a xs hh n z =>
      refine et_is (et_or (a := false) (b := true) (et_not (a := true) (et_B (ev_isT (ev_var rfl) (.tup (.inl hh))))) fun _ => et_is (et_or (a := true) (b := true) (et_is (et_test (ev_op (ev_lenT (ev_var rfl) (.inl hh)) ev_c (rv_ne rfl))) ?_) (fun z => nomatch z)) rfl) rfl
      have e : ¬ V.int ((xs.length : Nat) : Int) = V.int 2 := fun w => by
        have w := V.int.inj w
        omega
      rw [decide_eq_false e]
      rfl
    | @second a b i ys hh h2 =>
      refine et_is (et_or (a := false) (b := true) (et_not (a := true) (et_B (ev_isT (ev_var rfl) (.tup (.inl hh))))) fun _ => et_is (et_or (a := false) (b := true) (et_is (et_test (ev_op (ev_lenT (ev_var rfl) (.inl hh)) ev_c (rv_ne rfl))) rfl) fun _ =>
        et_is (et_or (b := true) (et_not (et_B (ev_def (ea3 (ev_op (ev_var rfl) ev_c (rv_ixT (v := .int i) (st_of hh) rfl)) ev_c (ev_var rfl)) (spv3 fun H2 e2 Q k => ⟨(kk : Int), rfl, rfl, .inl ⟨i, rfl⟩, k⟩)))) fun _ => et_not (a := false) (et_B (ev_def (ea1 (ev_op (ev_var rfl) ev_c (rv_ixT (v := .ref b) (st_of hh) rfl))) (spv1 fun H2 e2 Q k => ⟨"tuple", .tup (.inl (e2 _ _ h2)), .inl rfl, k⟩)))) (by simp)) rfl) rfl
abbrev s_require_pieces : Stmt := top 39
abbrev N_require_pieces : List Str := ["value", "one"]
theorem sc_require_pieces : FnScope N_require_pieces ["value"] (defScope s_require_pieces) := ⟨rfl, rfl, rfl, by decide +kernel, rfl, by decide +kernel, by decide +kernel⟩
theorem ok_require_pieces {f : Addr} {fd : FuncData} (F : Fun K "require_pieces" "require_pieces" s_require_pieces f fd) (T : Tx K mg C) {f_is_within : Addr} (D_is_within : Df P w K mg base "is_within" f_is_within 2 (sp_is_within K C)) {f_is_table : Addr} (D_is_table : Df P w K mg base "is_table" f_is_table 1 (sp_is_table K C)) : FnOk P w K mg base CX0 3 f fd ["value"] (sp_require_pieces K C) := by
  refine F.ok sc_require_pieces (fun vs H Q E h => len_sp1 h) (fun cdv A outer s H vs Q E hr h => ?_)
  obtain ⟨v0, rfl, h⟩ := h
  refine ⟨_, (pss_cons (ps_if ((pw_or (pt_not (pt_val (pe_callB (k_isT (K := K) rfl T.is) (by rfl) T.isinstance (by decide +kernel) (pa_cons (pv 0) (pa_cons (pe_bltn (v := .ty "tuple") (by rfl) T.m_tuple boot_tuple rfl) pa_nil))))) (pw_or1 (pt_not (pt_chain op_le op_le pe_int (pe_callB (k_len (K := K) rfl) (by rfl) T.len PySem.boot_len (pa_cons (pv 0) pa_nil)) (pe_gi (by rfl) T.MOST_PIECES))))).pt) (pss_one ps_never) pss_nil)
      (pss_one (ps_for PassesOwn.never rfl (k_pit (K := K) rfl (pv 0)) (pg_name (i := 1) sc_require_pieces.nd rfl (Or.inl rfl))
        (pss_cons (ps_if ((pw_or (pt_not (pt_val (pe_callB (k_isT (K := K) rfl T.is) (by rfl) T.isinstance (by decide +kernel) (pa_cons (pv 1) (pa_cons (pe_bltn (v := .ty "tuple") (by rfl) T.m_tuple boot_tuple rfl) pa_nil))))) (pw_or (pt_cmpR op_ne (pe_callB (k_len (K := K) rfl) (by rfl) T.len PySem.boot_len (pa_cons (pv 1) pa_nil)) (pe_gi (by rfl) T.PAIR) (nomark _)) (pw_or1 (pt_not (pt_val (pe_d D_is_within hr (by decide) (pa_cons (pe_ix (k_ixT (K := K) rfl) (pv 1) pe_int (fun _ _ => rfl)) (pa_cons pe_int (pa_cons (pe_gi (by rfl) T.MOST_POWER) pa_nil))))))))).pt) (pss_one ps_never) pss_nil)
      (pss_one (ps_if ((pw_or (pt_not (pt_val (pe_d D_is_table hr (by decide) (pa_cons (pe_ix (k_ixT (K := K) rfl) (pv 1) pe_int (fun _ _ => rfl)) pa_nil)))) (pw_or1 (pt_cmpR (k_neD (K := K) rfl hr.units) (k_sl (K := K) rfl (pe_ix (k_ixT (K := K) rfl) (pv 1) pe_int (fun _ _ => rfl))) (k_sl (K := K) rfl (pe_ix (k_ixT (K := K) rfl) (pe_ix (k_ixT (K := K) rfl) (pv 0) pe_int (fun _ _ => rfl)) pe_int (fun _ _ => rfl))) (nomark _)))).pt) (pss_one ps_never) pss_nil)))))), ?_⟩
  obtain ⟨t, vs, ps, lot, rfl, ht, hp, h1, h50, hall, k⟩ := h
  have len : vs.length = ps.length := Paired.length hp
  refine q_when (b := false) (et_is (et_or (a := false) (b := false) (et_not (a := true) (et_B (ev_isT (ev_var rfl) (.tup (.inl ht))))) fun _ => et_not (a := true) (et_is (et_test (ev_chain ev_c (ev_lenT (ev_var rfl) (.inl ht)) rv_I0 (fun _ => ev_c) fun _ => rv_I0)) ?_)) rfl) (fun z => nomatch z) fun _ H1 e1 => ?_
  · rw [decide_eq_true (by omega), decide_eq_true (by omega)]
    rfl
  have hne : ∃ v0 q0, vs[0]? = some v0 ∧ ps[0]? = some q0 ∧ PairAt C H v0 q0 := by
    cases hp with
    | nil => exact absurd h1 (by decide)
    | cons r _ => exact ⟨_, _, rfl, rfl, r⟩
  obtain ⟨v0, q0, hv0, hq0, p0, t0, rfl, hp0, ht0⟩ := hne
  have hq0l := (hall q0 (List.mem_of_getElem? hq0)).2
  have base : ∀ (H' : Hp) (te : TE) (σ : L2.St), Ex H H' → Ev te σ H' (.ref t) → Ev (tOp (rIxT K) (tOp (rIxT K) te (tC (.int 0))) (tC (.int 1))) σ H' (.ref t0) := fun H' te σ e h => ev_op (ev_op h ev_c (rv_ixT (v := .ref p0) (st_of (e _ _ ht)) (by
    have z := atI_nat (j := 0) hv0
    exact z))) ev_c (rv_ixT (v := .ref t0) (st_of (e _ _ hp0)) rfl)
  refine s_forT (ev_var rfl) (st_of (e1 _ _ ht)) (fun i σ' H' => (∃ r, σ' = [some (.ref t), r]) ∧ Ex H H') (fun H2 e2 => ⟨⟨none, rfl⟩, e1.trans e2⟩) (fun i σ' H' _ z => st_of (z.2 _ _ ht)) (fun i x σ' H' hx z => ?_) (fun σ' H' z => k H' z.2)
  obtain ⟨⟨r, rfl⟩, e⟩ := z
  obtain ⟨q, hq, p, tt, rfl, hpp, htt⟩ := L2.paired_get hp hx
  obtain ⟨hj, hl⟩ := hall q (List.mem_of_getElem? hq)
  obtain ⟨i, hi, hi0, hi20⟩ : ∃ i : Int, q.1 = .int i ∧ 0 ≤ i ∧ i ≤ 20 := by
    unfold jB at hj
    cases h : q.1 with
    | int i =>
      rw [h] at hj
      have z := of_decide_eq_true hj
      exact ⟨i, rfl, z.1, z.2⟩
    | _ =>
      rw [h] at hj
      cases hj
  rw [hi] at hpp
  obtain ⟨dx, ok, ws, la, ra, as, hs, w0, w1, hla, hra, hr'⟩ := id htt
  obtain ⟨dx0, ok0, ws0, la0, ra0, as0, hs0, w00, w10, hla0, hra0, hr0⟩ := id ht0
  rw [hl] at hla
  rw [hq0l] at hla0
  have i1 : ∀ (H' : Hp) (te : TE) (σ : L2.St), Ex H H' → Ev te σ H' (.ref p) → Ev (tOp (rIxT K) te (tC (.int 1))) σ H' (.ref tt) := fun H' te σ e h => ev_op h ev_c (rv_ixT (v := .ref tt) (st_of (e _ _ hpp)) rfl)
  refine q_when (b := false) (et_is (et_or (a := false) (b := false) (et_not (a := true) (et_B (ev_isT (ev_var rfl) (.tup (.inl (e _ _ hpp)))))) fun _ => et_is (et_or (a := false) (b := false) (et_is (et_test (ev_op (ev_lenT (ev_var rfl) (.inl (e _ _ hpp))) ev_c (rv_ne rfl))) rfl) fun _ =>
    et_not (a := true) (et_B (ev_is (ev_def (ea3 (ev_op (ev_var rfl) ev_c (rv_ixT (v := .int i) (st_of (e _ _ hpp)) rfl)) ev_c ev_c) (spv3 fun H2 e2 Q k => ⟨20, rfl, rfl, .inl ⟨i, rfl⟩, k⟩)) ?_))) rfl) rfl) (fun z => nomatch z) fun _ H2 e2 => ?_
  · show V.bl (decide (0 ≤ i ∧ i ≤ 20)) = _
    rw [decide_eq_true ⟨hi0, hi20⟩]
  have e' := e.trans e2
  refine s_when (b := false) (et_is (et_or (a := false) (b := false) (et_not (a := true) (et_B (ev_def (ea1 (i1 _ _ _ e' (ev_var rfl))) (spv1 fun H3 e3 Q k => ⟨"Table", .tab (slt_mono (fz_of (e'.trans e3)) hs), .inr rfl, k⟩)))) fun _ => et_is (et_test (ev_op (ev_own0 T (i1 _ _ _ e' (ev_var rfl)) (slt_mono (fz_of e') hs) w0) (ev_own0 T (base _ _ _ e' (ev_var rfl)) (slt_mono (fz_of e') hs0) w00) (rv_neI (hla.it.mono (fz_of e')) (hla0.it.mono (fz_of e'))))) ?_) rfl) (fun z => nomatch z) fun _ H3 e3 => ⟨⟨_, rfl⟩, e'.trans e3⟩
  rw [decide_eq_true rfl]
  rfl
end
end Q44
namespace Q44
open PySem PySem.Spec PyProof.Rows L2 M44 Evl
/-! walks over what is known at Hb -/
def EvK (ti : TI) (σ : L2.St) (Hb : Hp) (n : Nat) (Y : Nat → Hp → V → Hp → Prop) : Prop := ∀ H1, Ex Hb H1 → ∀ R : It → Hp → Prop,
  (∀ J H2, Ex H1 H2 → (∀ i H3, Ex Hb H3 → (i < n → J.go i H3) ∧ (n ≤ i → J.stop i H3) ∧ ∀ v H4, J.yld i H3 v H4 → Y i H3 v H4) → R J H2) → ti σ H1 R
section
variable {K : PySem.W.Frag} {σ : L2.St} {H : Hp} {te ta : TE} {g : TG} {t : TT}
theorem ek_lst {a : Addr} {xs : List V} (h : Ev te σ H (.ref a)) (ht : H a = some (.lst xs)) : EvK (iList K te) σ H xs.length (YL xs) := fun H1 e R q =>
  h H1 e _ fun H2 e2 => ⟨a, rfl, ⟨xs, sq_of (e2 _ _ (e _ _ ht))⟩, q _ _ e2 fun i H3 e3 => by
    have hs := sq_of (K := K) (e3 _ _ ht)
    exact ⟨fun hi => ⟨xs, xs[i], hs, List.getElem?_eq_getElem hi⟩, fun hi => ⟨xs, hs, hi⟩, fun v H4 y => ⟨y.1, y.2 xs hs⟩⟩⟩
theorem ek_tup {a : Addr} {xs : List V} (h : Ev te σ H (.ref a)) (ht : Rd H a (.tup xs)) : EvK (iTup K te) σ H xs.length (YL xs) := fun H1 e R q =>
  h H1 e _ fun H2 e2 => ⟨a, rfl, ⟨xs, .inl (ex_rd (e.trans e2) ht)⟩, q _ _ e2 fun i H3 e3 => by
    have hs : SqT K H3 a xs := .inl (ex_rd e3 ht)
    exact ⟨fun hi => ⟨xs, xs[i], hs, List.getElem?_eq_getElem hi⟩, fun hi => ⟨xs, hs, hi⟩, fun v H4 y => ⟨y.1, y.2 xs hs⟩⟩⟩
/-- [row for .. in .. for row in ..]: the rows, one list behind another -/
theorem evp_lc2 {ti wi1 : TI} {n j1 : Nat} {Y : Nat → Hp → V → Hp → Prop} {ws ws1 : List Nat} (R : List (List Rw)) (hi : EvI ti σ H n Y) (hR : R.length = n) (hb : R.flatten.length ≤ 40000)
    (ht : ∀ i x H1 H2, i < n → Ex H H1 → Y i H1 x H2 → g x (wipe σ ws) H2 fun σ2 H3 => wipe σ2 ws = wipe σ ws ∧ Ex H1 H3 ∧ ∃ as rs, R[i]? = some rs ∧ RowsA H as rs ∧ EvK wi1 σ2 H (as.map V.ref).length (YL (as.map V.ref)) ∧
      (∀ v, ((wipe σ2 ws1).set j1 (some v))[j1]? = some (some v)) ∧ ∀ v, wipe ((wipe σ2 ws1).set j1 (some v)) ws1 = wipe σ2 ws1)
    (hg : ∀ v σ H (A B : L2.St → Hp → Prop), (∀ σ H, A σ H → B σ H) → g v σ H A → g v σ H B) :
    EvP (tLc2 ti g tYes wi1 (gName j1) tYes (tVar j1) ws ws1) σ H fun v H2 => RowsL H2 v R.flatten := fun H0 e Q q => hi H0 e _ fun J H1 e1 hJ => fun D hD => by
  have eb := e.trans e1
  have flat_le : ∀ i j rs, R[i]? = some rs → ((R.take i).flatten ++ rs.take j).length ≤ 40000 := fun i j rs h => by
    refine Nat.le_trans ?_ hb
    have e0 : R = R.take i ++ (rs :: R.drop (i + 1)) := by
      obtain ⟨hi, h⟩ := List.getElem?_eq_some_iff.mp h
      rw [← h, ← List.drop_eq_getElem_cons hi, List.take_append_drop]
    have e9 : R.flatten.length = ((R.take i).flatten ++ (rs ++ (R.drop (i + 1)).flatten)).length := by
      conv => lhs; rw [e0]
      rw [List.flatten_append, List.flatten_cons]
    rw [e9]
    simp only [List.length_append, List.length_take]
    omega
  refine ⟨fun i m H' => m = n - i ∧ i ≤ n ∧ Ex H1 H' ∧ ∃ as, H' D = some (.lst (as.map V.ref)) ∧ RowsA H' as (R.take i).flatten, ⟨n, by omega, by omega, Ex.new hD, [], upd_same, .nil⟩, ?_⟩
  rintro i m H' ⟨rfl, hin, ex, as, hd, hra⟩
  obtain ⟨g1, g2, g3⟩ := hJ i H' ex
  by_cases lt : i < n
  · refine .inr ⟨g1 lt, fun H5 => i + 1 ≤ n ∧ Ex H1 H5 ∧ ∃ as, H5 D = some (.lst (as.map V.ref)) ∧ RowsA H5 as (R.take (i + 1)).flatten, fun H5 z => ⟨n - (i + 1), by omega, rfl, z⟩, fun v H2 y => ?_⟩
    refine hg _ _ _ _ _ (fun σ2 H3 z => ?_) (ht i v H' H2 lt (eb.trans ex) (g3 v H2 y))
    obtain ⟨w, e3, bs, rs, hrs, hbs, ek, sl, wp⟩ := z
    refine ⟨w, yes_if ?_⟩
    have len := hbs.len
    refine ek H3 ((eb.trans ex).trans e3) _ fun J1 H4 e4 hJ1 => ?_
    refine ⟨fun j k H' => k = bs.length - j ∧ j ≤ bs.length ∧ Ex H1 H' ∧ ∃ as, H' D = some (.lst (as.map V.ref)) ∧ RowsA H' as ((R.take i).flatten ++ rs.take j), ⟨bs.length, by omega, by omega, (ex.trans e3).trans e4, as, e4 _ _ (e3 _ _ hd), ?_⟩, ?_⟩
    · rw [List.take_zero, List.append_nil]
      exact rows_mono (fz_of (e3.trans e4)) hra
    rintro j k H5 ⟨rfl, hjn, ex5, as5, hd5, hra5⟩
    obtain ⟨k1, k2, k3⟩ := hJ1 j H5 (eb.trans ex5)
    rw [List.length_map] at k1 k2
    by_cases ltj : j < bs.length
    · refine .inr ⟨k1 ltj, fun H5 => j + 1 ≤ bs.length ∧ Ex H1 H5 ∧ ∃ as, H5 D = some (.lst (as.map V.ref)) ∧ RowsA H5 as ((R.take i).flatten ++ rs.take (j + 1)), fun H5 z => ⟨bs.length - (j + 1), by omega, rfl, z⟩, fun v H6 y => ?_⟩
      obtain ⟨rfl, hv⟩ := k3 v H6 y
      rw [List.getElem?_map] at hv
      obtain ⟨b, hb', rfl⟩ := Option.map_eq_some_iff.mp hv
      obtain ⟨ns, hns, hh⟩ := hbs.get hb'
      refine ⟨wp _, yes_if ⟨_, sl _, as5.map V.ref, hd5, sz_lt ?_, ltj, Ex.mut ex5 hD, as5 ++ [b], by rw [upd_same, List.map_append]; rfl, ?_⟩⟩
      · rw [List.length_map, hra5.len]
        have z := flat_le i j rs hrs
        omega
      · rw [List.take_add_one, hns, ← List.append_assoc]
        have fz := fz_upd (o := .lst (as5.map V.ref ++ [.ref b])) hd5
        exact paired_app (rows_mono fz hra5) (.cons (fz _ _ (ex5 _ _ (eb _ _ hh)) (fun _ z => nomatch z)) .nil)
    · have ej : j = bs.length := by omega
      subst ej
      refine .inl ⟨k2 (Nat.le_refl _), lt, ex5, as5, hd5, ?_⟩
      rw [len, List.take_length] at hra5
      rw [List.take_add_one, hrs]
      show RowsA H5 as5 (R.take i ++ [rs]).flatten
      rw [List.flatten_append, List.flatten_singleton]
      exact hra5
  · have ei : i = n := by omega
    subst ei
    rw [← hR, List.take_length] at hra
    exact .inl ⟨g2 (Nat.le_refl _), q _ _ (e1.trans ex) ⟨D, as, rfl, hd, hra⟩⟩
/-! loops over described tuples; appending what is described -/
theorem s_forTP {D : Ends} {tl : TE} {tu : TS} {P : V → Hp → Prop} (h : EvP tl σ H P) (k : ∀ v H1, Ex H H1 → P v H1 → ∃ a xs, v = .ref a ∧ SqT K H1 a xs ∧ ∃ Pv : Nat → L2.St → Hp → Prop, Pv 0 σ H1 ∧ (∀ i σ' H', i ≤ xs.length → Pv i σ' H' → SqT K H' a xs) ∧
    (∀ i x σ' H', xs[i]? = some x → Pv i σ' H' → g x σ' H' fun σ2 H2 => tu { D with nx := Pv (i + 1), ct := Pv (i + 1), bk := D.nx } σ2 H2) ∧ ∀ σ' H', Pv xs.length σ' H' → D.nx σ' H') : tFor (iTup K tl) g tu D σ H := h H (Ex.refl H) _ fun v H1 e p => by
  obtain ⟨a, xs, ev, hx, Pv, p0, p1, p2, p3⟩ := k v H1 e p
  exact ⟨a, ev, ⟨xs, hx⟩, for_tup Pv p0 p1 p2 p3⟩
theorem q_forTP {D : Ends} {tl : TE} {tu tz : TS} {P : V → Hp → Prop} (h : EvP tl σ H P) (k : ∀ v H1, Ex H H1 → P v H1 → ∃ a xs, v = .ref a ∧ SqT K H1 a xs ∧ ∃ Pv : Nat → L2.St → Hp → Prop, Pv 0 σ H1 ∧ (∀ i σ' H', i ≤ xs.length → Pv i σ' H' → SqT K H' a xs) ∧
    (∀ i x σ' H', xs[i]? = some x → Pv i σ' H' → g x σ' H' fun σ2 H2 => tu { D with nx := Pv (i + 1), ct := Pv (i + 1), bk := tz D } σ2 H2) ∧ ∀ σ' H', Pv xs.length σ' H' → tz D σ' H') : tSeq (tFor (iTup K tl) g tu) tz D σ H := s_forTP (D := { D with nx := tz D }) h k
theorem s_appP {D : Ends} {P : V → Hp → Prop} {l : Addr} {xs : List V} (hl : H l = some (.lst xs)) (ha : Ev ta σ H (.ref l)) (h : EvP te σ H P) (hz : xs.length < 100000) (k : ∀ v H1, Ex H H1 → P v H1 → D.nx σ (upd H1 l (.lst (xs ++ [v])))) : tDrop (tBM K "list" rAppend ta (tCons te tNil)) D σ H :=
  ha H (Ex.refl H) _ fun H1 e1 => ⟨Or.inl ⟨rfl, xs, sq_of (e1 l _ hl)⟩, h H1 e1 _ fun v H2 e2 p => ⟨l, xs, v, rfl, rfl, e2 l _ (e1 l _ hl), sz_lt hz, k v H2 (e1.trans e2) p⟩⟩
theorem q_appP {D : Ends} {tz : TS} {P : V → Hp → Prop} {l : Addr} {xs : List V} (hl : H l = some (.lst xs)) (ha : Ev ta σ H (.ref l)) (h : EvP te σ H P) (hz : xs.length < 100000) (k : ∀ v H1, Ex H H1 → P v H1 → tz D σ (upd H1 l (.lst (xs ++ [v])))) : tSeq (tDrop (tBM K "list" rAppend ta (tCons te tNil))) tz D σ H :=
  s_appP (D := { D with nx := tz D }) hl ha h hz k
end
/-- all but what S names stays -/
def Xm (S : Addr → Prop) (H H' : Hp) : Prop := (∀ a o, ¬ S a → H a = some o → H' a = some o) ∧ ∀ a, H' a = none → H a = none
section
variable {S : Addr → Prop} {H H1 H2 : Hp} {l : Addr} {o : HO}
theorem xm_ex (e : Ex H H1) : Xm S H H1 := ⟨fun a o _ q => e _ _ q, fun a q => fresh_back e q⟩
theorem xm_trans (x : Xm S H H1) (y : Xm S H1 H2) : Xm S H H2 := ⟨fun a o n q => y.1 a o n (x.1 a o n q), fun a q => x.2 a (y.2 a q)⟩
theorem xm_upd (h : S l) (x : Xm S H H1) : Xm S H (upd H1 l o) := ⟨fun a u n q => by
  have ne : a ≠ l := fun z => n (z ▸ h)
  rw [upd_ne ne]
  exact x.1 a u n q, fun a q => by
  by_cases ne : a = l
  · rw [ne, upd_same] at q
    cases q
  · rw [upd_ne ne] at q
    exact x.2 a q⟩
theorem xm_new {p : Addr} (x : Xm S H H1) (hp : H1 p = none) : Xm S H (upd H1 p o) := xm_trans x (xm_ex (Ex.new hp))
end
end Q44
namespace Q44
open PySem PySem.Spec PyProof.Rows L2 M44 Evl
section
variable {P : Program} {w : World} {K : PySem.W.Frag} {mg : Str → Option Value} {base : Heap} {C : Addr}
/-! sums -/
section
variable (sz : Rw → Nat) (pw : Rw → Int)
theorem sum_split (m : Int) : ∀ l : List Rw, ((l.filter fun p => decide (pw p < m + 1)).map sz).sum = ((l.filter fun p => decide (pw p < m)).map sz).sum + ((l.filter fun p => decide (pw p = m)).map sz).sum
  | [] => rfl
  | p :: l => by
    have ih := sum_split m l
    rw [List.filter_cons, List.filter_cons, List.filter_cons]
    by_cases h1 : pw p < m
    · rw [if_pos (decide_eq_true (by omega)), if_pos (decide_eq_true h1), if_neg (by rw [decide_eq_true_eq]; omega)]
      simp only [List.map_cons, List.sum_cons]
      omega
    · by_cases h2 : pw p = m
      · rw [if_pos (decide_eq_true (by omega)), if_neg (by rw [decide_eq_true_eq]; omega), if_pos (decide_eq_true h2)]
        simp only [List.map_cons, List.sum_cons]
        omega
      · rw [if_neg (by rw [decide_eq_true_eq]; omega), if_neg (by rw [decide_eq_true_eq]; omega), if_neg (by rw [decide_eq_true_eq]; omega)]
        exact ih
theorem sum_filter_le (f : Rw → Bool) : ∀ l : List Rw, ((l.filter f).map sz).sum ≤ (l.map sz).sum
  | [] => Nat.le_refl _
  | p :: l => by
    have ih := sum_filter_le f l
    rw [List.filter_cons]
    by_cases h : f p = true
    · rw [if_pos h]
      simp only [List.map_cons, List.sum_cons]
      omega
    · rw [if_neg h]
      simp only [List.map_cons, List.sum_cons]
      omega
theorem sum_cut (n : Nat) (l : List Rw) : ((l.take n).map sz).sum + ((l.drop n).map sz).sum = (l.map sz).sum := by
  rw [← List.sum_append, ← List.map_append, List.take_append_drop]
end
theorem sum_parts (f : Rw → Rw) : ∀ (rows ks : List Rw), ks.Nodup → (ks.map fun p => (rows.filter fun r => decide (f r = p)).length).sum ≤ rows.length
  | [], ks, _ => by
    have z : (ks.map fun p => (([] : List Rw).filter fun r => decide (f r = p)).length) = ks.map fun _ => 0 := List.map_congr_left fun _ _ => rfl
    rw [z]
    clear z
    induction ks with
    | nil => exact Nat.le_refl _
    | cons a l ih =>
      rw [List.nodup_cons] at *
      have i2 := ih (by rename_i h; exact h.2)
      simp only [List.map_cons, List.sum_cons, List.length_nil] at *
      omega
  | r :: rows, ks, hn => by
    have ih := sum_parts f rows ks hn
    have z : ∀ ks : List Rw, ks.Nodup → (ks.map fun p => ((r :: rows).filter fun r => decide (f r = p)).length).sum ≤ (ks.map fun p => (rows.filter fun r => decide (f r = p)).length).sum + (if f r ∈ ks then 1 else 0) := by
      intro ks
      induction ks with
      | nil => intro _; exact Nat.le_refl _
      | cons p ks ih2 =>
        intro hn
        rw [List.nodup_cons] at hn
        have i2 := ih2 hn.2
        simp only [List.map_cons, List.sum_cons]
        rw [List.filter_cons]
        by_cases h : f r = p
        · rw [if_pos (decide_eq_true h)]
          have h2 : f r ∉ ks := fun z => hn.1 (h ▸ z)
          rw [if_neg h2] at i2
          rw [if_pos (by rw [h]; exact List.mem_cons_self)]
          simp only [List.length_cons]
          omega
        · rw [if_neg (by rw [decide_eq_true_eq]; exact h)]
          by_cases h2 : f r ∈ ks
          · rw [if_pos h2] at i2
            rw [if_pos (List.mem_cons_of_mem _ h2)]
            omega
          · rw [if_neg h2] at i2
            rw [if_neg]
            · omega
            · intro z
              rcases List.mem_cons.mp z with z | z
              · exact h z
              · exact h2 z
    have y := z ks hn
    rw [List.length_cons]
    by_cases h2 : f r ∈ ks
    · rw [if_pos h2] at y
      omega
    · rw [if_neg h2] at y
      omega
/-! lists of lists of rows against [] -/
theorem dp_gs {K : PySem.W.Frag} {H : Hp} (L : Rw → Addr) (f : Rw → List Rw) : ∀ ks : List Rw, (∀ p ∈ ks, RowsL H (.ref (L p)) (f p)) → DpAll K H (ks.map fun p => V.ref (L p)) (ks.map fun p => PyData.list ((f p).map rowD))
  | [], _ => .nil
  | p :: ks, h => by
    obtain ⟨a, as, e, ha, hr⟩ := h p List.mem_cons_self
    cases e
    exact .cons (.lst (sq_of ha) (dp_rows hr)) (dp_gs L f ks fun q hq => h q (List.mem_cons_of_mem _ hq))
theorem lay_gs (f : Rw → List Rw) : ∀ ks : List Rw, PyData.canLayAll0 (ks.map fun p => PyData.list ((f p).map rowD)) = true
  | [] => by simp [PyData.canLayAll0]
  | p :: ks => by simp [PyData.canLayAll0, PyData.canLay0, lay_rows (f p), lay_gs f ks]
theorem dep_gs (f : Rw → List Rw) : ∀ ks : List Rw, PyData.depthAll (ks.map fun p => PyData.list ((f p).map rowD)) ≤ 2
  | [] => by simp [PyData.depthAll]
  | p :: ks => by
    have h1 := dep_gs f ks
    have h2 := dep_rows (f p)
    simp only [List.map_cons, PyData.depthAll, PyData.depth]
    omega
theorem rv_neG {K : PySem.W.Frag} {H : Hp} {l e : Addr} (L : Rw → Addr) (f : Rw → List Rw) (ks : List Rw) (hl : H l = some (.lst (ks.map fun p => V.ref (L p)))) (hr : ∀ p ∈ ks, RowsL H (.ref (L p)) (f p)) (he : H e = some (.lst [])) : RV (rNeD K) (.ref l) (.ref e) H (.bl (!decide (ks = []))) := fun H1 ex Q q =>
  ⟨.list (ks.map fun p => PyData.list ((f p).map rowD)), .list [], .lst (sq_of (ex _ _ hl)) (dp_gs L f ks fun p hp => (hr p hp).mono ex), .lst (sq_of (ex _ _ he)) .nil,
    shp (by simp only [PyData.canLay0]; exact lay_gs f ks) (by have := dep_gs f ks; simp only [PyData.depth]; omega), by decide, by
    have z : PyData.eqv (.list (ks.map fun p => PyData.list ((f p).map rowD))) (.list []) = decide (ks = []) := by
      cases ks with
      | nil => simp [PyData.eqv, PyData.eqvAll]
      | cons a l => simp [PyData.eqv, PyData.eqvAll]
    rw [z]
    exact q H1 (Ex.refl _)⟩
theorem q_par {tA : TA} {σ : L2.St} {H : Hp} {P : List V → Hp → Prop} {i j : Nat} {tz : TS} {D : Ends} (h : EvPA tA σ H P) (k : ∀ vs H1, Ex H H1 → P vs H1 → ∃ v w, vs = [v, w] ∧ tz D ((σ.set i (some v)).set j (some w)) H1) : tSeq (tPar i j tA) tz D σ H := h H (Ex.refl H) _ k
theorem evp_listVals {te : TE} {σ : L2.St} {H : Hp} {lot low : Rw} {rows : List Rw} (h : EvP te σ H fun v H2 => ∃ d, v = .ref d ∧ GroupsAt H2 d lot low rows) :
    EvP (tListVals te) σ H fun v H2 => ∃ (gl : Addr) (L : Rw → Addr), v = .ref gl ∧ H gl = none ∧ H2 gl = some (.lst ((srt (dist (parts lot low rows))).map fun p => V.ref (L p))) ∧ ∀ p ∈ dist (parts lot low rows), RowsL H2 (.ref (L p)) (rows.filter fun r => decide (partOf lot low r = p)) := fun H1 e Q q => h H1 e _ fun v H2 e2 z => by
  obtain ⟨d, rfl, L, hd, hL⟩ := z
  refine ⟨d, _, rfl, hd, fun p hp => q _ _ (e2.trans (Ex.new hp)) ⟨p, L, rfl, fresh_back (e.trans e2) hp, ?_, fun p' hp' => (hL p' hp').mono (Ex.new hp)⟩⟩
  rw [upd_same, tab_vals]
theorem totR_app (ps : List Pc) (q : Pc) : totR (ps ++ [q]) = totR ps + q.2.2.length := by
  unfold totR
  rw [List.map_append, List.sum_append]
  simp
theorem flat_len (f : Rw → List Rw) : ∀ ks : List Rw, (ks.map f).flatten.length = (ks.map fun p => (f p).length).sum
  | [] => rfl
  | p :: ks => by
    rw [List.map_cons, List.flatten_cons, List.length_append, flat_len f ks, List.map_cons, List.sum_cons]
/-- the pieces found so far -/
structure PF (C : Addr) (lot : Rw) (H' : Hp) (fl : Addr) (vs : List V) (ps : List Pc) (n b : Nat) : Prop where
  at_ : H' fl = some (.lst vs)
  pv : PVals C H' vs ps
  j : ∀ q ∈ ps, ∃ i, q.1 = .int i
  l : ∀ q ∈ ps, q.2.1 = lot
  ne : ∀ q ∈ ps, q.2.2 ≠ []
  s : totR ps ≤ b
  z : vs.length ≤ n
theorem PF.keep {C : Addr} {lot : Rw} {H' H2 : Hp} {fl : Addr} {vs : List V} {ps : List Pc} {n b : Nat} (g : PF C lot H' fl vs ps n b) (e : Ex H' H2) : PF C lot H2 fl vs ps n b := ⟨e _ _ g.at_, g.pv.mono (fz_of e), g.j, g.l, g.ne, g.s, g.z⟩
theorem PF.more {C : Addr} {lot : Rw} {H' : Hp} {fl : Addr} {vs : List V} {ps : List Pc} {n b n' b' : Nat} (g : PF C lot H' fl vs ps n b) (h : n ≤ n') (h2 : b ≤ b') : PF C lot H' fl vs ps n' b' := ⟨g.at_, g.pv, g.j, g.l, g.ne, Nat.le_trans g.s h2, Nat.le_trans g.z h⟩
abbrev s_parted_in : Stmt := top 33
abbrev N_parted_in : List Str := ["table", "low", "k", "groups", "found", "j", "some", "most", "lot", "rows", "row"]
theorem sc_parted_in : FnScope N_parted_in ["table", "low", "k"] (defScope s_parted_in) := ⟨rfl, rfl, rfl, by decide +kernel, rfl, by decide +kernel, by decide +kernel⟩
theorem ok_parted_in {f : Addr} {fd : FuncData} (F : Fun K "parted_in" "parted_in" s_parted_in f fd) (T : Tx K mg C) {f_groups_in : Addr} (D_groups_in : Df P w K mg base "groups_in" f_groups_in 1 (sp_groups_in K C)) {f_power_in : Addr} (D_power_in : Df P w K mg base "power_in" f_power_in 1 (sp_power_in K C)) {f_made_table : Addr} (D_made_table : Df P w K mg base "made_table" f_made_table 7 (sp_made_table K C)) : FnOk P w K mg base CX0 8 f fd ["table", "low", "k"] (sp_parted_in K C) := by
  refine F.ok sc_parted_in (fun vs H Q E h => len_sp3 h) (fun cdv A outer s H vs Q E hr h => ?_)
  obtain ⟨v0, v1, v2, rfl, h⟩ := h
  refine ⟨_, (pss_cons (ps_par (i := 3) (j := 4) rfl sc_parted_in.nd rfl rfl (by decide) rfl rfl (pa_cons (pe_listVals rfl (pe_d D_groups_in hr (by decide) (pa_cons (pv 0) (pa_cons (pv 1) pa_nil))) T.list) (pa_cons (pe_lst pa_nil) pa_nil)) (by rfl))
      (pss_cons (ps_for PassesOwn.never rfl (pi_range1 (by rfl) T.range (pa_cons (pe_op op_add (pv 2) pe_int) pa_nil)) (pg_name (i := 5) sc_parted_in.nd rfl (Or.inr rfl))
        (pss_cons (ps_par (i := 6) (j := 7) rfl sc_parted_in.nd rfl rfl (by decide) rfl rfl (pa_cons (pe_lc (own := [("rows", 9)]) rfl sc_parted_in.nd (k_pil (K := K) rfl (pv 3)) (blkOk_by (own := [("rows", 9)]) (N := N_parted_in) (sc := defScope s_parted_in) (by decide +kernel)) (fun _ _ _ _ _ => (pg_name (i := 9) sc_parted_in.nd rfl (Or.inl rfl))) (fun _ _ _ _ _ => pts_one (pt_cmpR op_eq (pe_d D_power_in hr (by decide) (pa_cons (pe_callB (k_len (K := K) rfl) (by rfl) T.len PySem.boot_len (pa_cons (pv 9) pa_nil)) pa_nil)) (pv 5) (nomark _))) (fun _ _ _ _ _ => (pv 9))) (pa_cons (pe_op op_shl pe_int (pe_op op_sub (pv 2) (pv 5))) pa_nil)) (by rfl))
      (pss_one (ps_for PassesOwn.never rfl (k_pit (K := K) rfl (pe_tup (pa_cons (pe_slice (k_slL (K := K) rfl) (pv 6) po_none (po_some (pv 7))) (pa_cons (pe_slice (k_slL (K := K) rfl) (pv 6) (po_some (pv 7)) po_none) pa_nil)))) (pg_name (i := 8) sc_parted_in.nd rfl (Or.inl rfl))
        (pss_one (ps_if (pt_cmpR (k_neD (K := K) rfl hr.units) (pv 8) (pe_lst pa_nil) (nomark _)) (pss_one (ps_expr (k_bm (K := K) rfl PySem.F.plainAttrs_list PySem.F.slot_list_append PySem.F.type_list_append mt_append (pv 4) (pa_cons (pe_tup (pa_cons (pv 5) (pa_cons (pe_d D_made_table hr (by decide) (pa_cons (k_sl (K := K) rfl (pv 0)) (pa_cons (pe_lc2 (own := [("rows", 9), ("row", 10)]) (vs1 := [10]) rfl sc_parted_in.nd (k_pil (K := K) rfl (pv 8)) (blkOk_by (own := [("rows", 9), ("row", 10)]) (N := N_parted_in) (sc := defScope s_parted_in) (by decide +kernel)) (by decide) (fun _ _ _ _ _ => (pg_name (i := 9) sc_parted_in.nd rfl (Or.inl rfl))) (fun _ _ _ _ _ => pts_nil) (fun _ _ _ _ _ => (k_pil (K := K) rfl (pv 9))) (fun _ _ _ _ _ => (pg_name (i := 10) sc_parted_in.nd rfl (Or.inl rfl))) (fun _ _ _ _ _ => pts_nil) (fun _ _ _ _ _ => (pv 10))) pa_nil))) pa_nil))) pa_nil)))) pss_nil))))))
      (pss_one (ps_ret (pv 4))))), ?_⟩
  obtain ⟨lot, rows, low, kk, ht, ⟨b, rfl, hb⟩, rfl, hk, lok, sub, h64, hl1, k⟩ := h
  obtain ⟨a, rfl, dx, ok, ws, la, ra, as, hs, w0, w1, hla, hra, hrows⟩ := id ht
  generalize hks : srt (dist (parts lot low rows)) = ks
  have kmem : ∀ p, p ∈ ks ↔ p ∈ dist (parts lot low rows) := fun p => by rw [← hks]; exact (srt_perm _).mem_iff
  have knd : ks.Nodup := by rw [← hks]; exact (srt_perm _).nodup_iff.mpr (nodup_dist _)
  have fl_ne : ∀ p ∈ ks, (rows.filter fun r => decide (partOf lot low r = p)) ≠ [] := fun p hp z => by
    obtain ⟨r, hr1, hr2⟩ := parts_mem.mp ((mem_dist _).mp ((kmem p).mp hp))
    exact List.filter_eq_nil_iff.mp z r hr1 (decide_eq_true hr2)
  have tot := sum_parts (partOf lot low) rows ks knd
  refine q_par (P := fun vs H1 => ∃ (gl fl : Addr) (L : Rw → Addr), vs = [.ref gl, .ref fl] ∧ gl ≠ fl ∧ H fl = none ∧ H1 gl = some (.lst (ks.map fun p => V.ref (L p))) ∧ H1 fl = some (.lst []) ∧ ∀ p ∈ ks, L p ≠ fl ∧ RowsL H1 (.ref (L p)) (rows.filter fun r => decide (partOf lot low r = p)))
    (eap_cons (evp_listVals (lot := lot) (low := low) (rows := rows) (evp_def (ea2 (ev_var rfl) (ev_var rfl)) (spp2 fun H2 e2 Q q => ⟨lot, rows, low, ht.mono (fz_of e2), ⟨b, rfl, ex_rd e2 hb⟩, lok, sub, h64, fun d H3 e3 g => q _ H3 e3 ⟨d, rfl, g⟩⟩))) fun v H1 e1 z => eap_cons (evp_L (el_lst ea_nil (by decide))) fun v2 H2 e2 z2 => eap_nil fun H3 e3 => ?_) fun vs H1 e1 z => ?_
  · obtain ⟨gl, L, rfl, f1, hgl, hL⟩ := z
    obtain ⟨fl, rfl, f2, hfl⟩ := z2
    rw [hks] at hgl
    refine ⟨gl, fl, L, rfl, ne_of_none hgl f2, fresh_back e1 f2, e3 _ _ (e2 _ _ hgl), e3 _ _ hfl, fun p hp => ?_⟩
    have h := hL p ((kmem p).mp hp)
    refine ⟨?_, h.mono (e2.trans e3)⟩
    obtain ⟨x, xs, ex, hx, _⟩ := h
    cases ex
    exact ne_of_none hx f2
  obtain ⟨gl, fl, L, rfl, glfl, f2, hgl, hfl, hL⟩ := z
  refine ⟨_, _, rfl, ?_⟩
  have old : ∀ x o, H x = some o → x ≠ fl := fun x o q => ne_of_none q f2
  generalize hsz : (fun p => (rows.filter fun r => decide (partOf lot low r = p)).length) = sz at tot
  have szp : ∀ p, (rows.filter fun r => decide (partOf lot low r = p)).length = sz p := fun p => by rw [← hsz]
  refine q_forR1 (n := (kk : Int) + 1) (ea1 (ev_op (ev_var rfl) ev_c rv_I0)) ⟨by omega, by omega⟩ (fun m σ' H' => (∃ r5 r6 r7 r8, σ' = [some (.ref a), some (.ref b), some (.int (kk : Int)), some (.ref gl), some (.ref fl), r5, r6, r7, r8, none, none]) ∧ Xm (· = fl) H1 H' ∧
    ∃ vs ps, PF C lot H' fl vs ps (2 * m) (((ks.filter fun p => decide (pwr (sz p) < (m : Int))).map sz).sum)) (fun H2 e2 => ?_) (fun i σ' H' hi z => ?_) (fun σ' H' z => ?_)
  · exact ⟨⟨none, none, none, none, rfl⟩, xm_ex e2, [], [], e2 _ _ hfl, .nil, fun _ z => (nomatch z), fun _ z => (nomatch z), fun _ z => (nomatch z), Nat.zero_le _, Nat.le_refl _⟩
  · obtain ⟨⟨r5, r6, r7, r8, rfl⟩, xm, vs, ps, pf⟩ := z
    generalize hkj : (ks.filter fun p => decide (pwr (sz p) = (i : Int))) = kj
    have kjm : ∀ p ∈ kj, p ∈ ks := fun p hp => by
      rw [← hkj] at hp
      exact (List.mem_filter.mp hp).1
    have hgl' := xm.1 gl _ glfl hgl
    have hL' : ∀ p ∈ ks, RowsL H' (.ref (L p)) (rows.filter fun r => decide (partOf lot low r = p)) := fun p hp => by
      obtain ⟨n, x, xs, ex, hx, hr'⟩ := hL p hp
      cases ex
      exact ⟨L p, xs, rfl, xm.1 _ _ n hx, Paired.mapP hr' fun t ns w => xm.1 _ _ (ne_of w hfl (fun z => nomatch z)) w⟩
    refine q_par (P := fun vs H2 => ∃ sl, vs = [.ref sl, .int ((2 ^ (kk - i) : Nat) : Int)] ∧ H' sl = none ∧ H2 sl = some (.lst (kj.map fun p => V.ref (L p))))
      (eap_cons (evp_L (el_is (ys := kj.map fun p => V.ref (L p)) (el_map (fun v => match v with | V.ref x => (match H' x with | some (.lst xs) => decide (pwr (xs.length : Nat) = (i : Int)) | _ => false) | _ => false) id (ei_lst (ev_var rfl) hgl') (by
        rw [List.length_map, ← hks, srt_len]
        have := dist_len (parts lot low rows)
        have l2 : (parts lot low rows).length = rows.length := List.length_map _
        omega) (fun _ => rfl) (fun v H2 hv e => ?_) fun v H2 hv e _ => ev_var rfl) ?_)) fun v H2 e2 z => eap_cons (evp_of (P := fun v _ => v = .int ((2 ^ (kk - i) : Nat) : Int)) (ev_op ev_c (ev_op (ev_var rfl) (ev_var rfl) rv_I0) (rv_I ⟨by omega, by omega, by decide⟩)) fun H3 e3 => ?_) fun v2 H3 e3 z3 => eap_nil fun H4 e4 => ?_) fun vs2 H2 e2 z => ?_
    · obtain ⟨p, hp, rfl⟩ := List.mem_map.mp hv
      obtain ⟨x, xs, ex, hx, hr'⟩ := hL' p hp
      cases ex
      show EvT _ _ _ (match H' (L p) with | some (.lst xs) => decide (pwr (xs.length : Nat) = (i : Int)) | _ => false)
      rw [hx]
      refine et_is (et_test (ev_op (ev_def (ea1 (ev_len (ev_var rfl) (sq_of (e _ _ hx)))) (spv1 fun H3 e3 Q k => ⟨_, rfl, k⟩)) (ev_var rfl) (rv_eq rfl))) ?_
      show decide (V.int (pwr ((xs.map V.ref).length : Nat)) = V.int (i : Int)) = decide (pwr ((xs.map V.ref).length : Nat) = (i : Int))
      refine decide_eq_decide.mpr ⟨fun z => V.int.inj z, fun z => by rw [z]⟩
    · rw [List.map_id, List.filter_map, ← hkj]
      congr 1
      refine List.filter_congr fun p hp => ?_
      obtain ⟨x, xs, ex, hx, hr'⟩ := hL' p hp
      cases ex
      show (match H' (L p) with | some (.lst xs) => decide (pwr (xs.length : Nat) = (i : Int)) | _ => false) = _
      rw [hx]
      show decide (pwr ((xs.map V.ref).length : Nat) = (i : Int)) = _
      rw [List.length_map, hr'.len, szp]
    · have e1 : ((kk : Int) - (i : Int)).toNat = kk - i := by omega
      rw [e1, Int.one_mul]
      push_cast
      rfl
    · obtain ⟨sl, rfl, f3, hsl⟩ := z
      subst z3
      exact ⟨sl, rfl, f3, e4 _ _ (e3 _ _ hsl)⟩
    obtain ⟨sl, rfl, f3, hsl⟩ := z
    refine ⟨_, _, rfl, ?_⟩
    generalize hmm : 2 ^ (kk - i) = mm at *
    have pf2 := pf.keep e2
    have xm2 := xm_trans xm (xm_ex e2)
    refine s_forTP (P := fun v H3 => ∃ tp l1 l2, v = .ref tp ∧ H3 tp = some (.tup [.ref l1, .ref l2]) ∧ l1 ≠ fl ∧ l2 ≠ fl ∧ H3 l1 = some (.lst ((kj.take mm).map fun p => V.ref (L p))) ∧ H3 l2 = some (.lst ((kj.drop mm).map fun p => V.ref (L p)))) (evp_imp (evp_tup (P := fun vs H3 => ∃ l1 l2, vs = [.ref l1, .ref l2] ∧ l1 ≠ fl ∧ l2 ≠ fl ∧ H3 l1 = some (.lst ((kj.take mm).map fun p => V.ref (L p))) ∧ H3 l2 = some (.lst ((kj.drop mm).map fun p => V.ref (L p))))
      (eap_cons (evp_L (el_sl (ev_var rfl) eo_none (eo_some (ev_var rfl)) (sq_of hsl))) fun v3 H3 e3 z3 => eap_cons (evp_L (el_sl (ev_var rfl) (eo_some (ev_var rfl)) eo_none (sq_of (e3 _ _ hsl)))) fun v4 H4 e4 z4 => eap_nil fun H5 e5 => ?_) (fun vs H z => ?_) fun vs H H' e z => ?_) fun v H3 e3 z => ?_) fun v H3 e3 z => ?_
    · obtain ⟨l1, rfl, g1, h1⟩ := z3
      obtain ⟨l2, rfl, g2, h2⟩ := z4
      rw [cut_to, ← List.map_take] at h1
      rw [cut_from, ← List.map_drop] at h2
      exact ⟨l1, l2, rfl, Ne.symm (ne_of_none pf2.at_ g1), Ne.symm (ne_of_none (e3 _ _ pf2.at_) g2), e5 _ _ (e4 _ _ h1), e5 _ _ h2⟩
    · obtain ⟨l1, l2, rfl, _⟩ := z
      show 2 ≤ 100000
      decide
    · obtain ⟨l1, l2, rfl, n1, n2, h1, h2⟩ := z
      exact ⟨l1, l2, rfl, n1, n2, e _ _ h1, e _ _ h2⟩
    · obtain ⟨p, vs, rfl, _, hp, l1, l2, rfl, n1, n2, h1, h2⟩ := z
      exact ⟨p, l1, l2, rfl, hp, n1, n2, h1, h2⟩
    obtain ⟨tp, l1, l2, rfl, htp, n1, n2, hl1', hl2'⟩ := z
    have pf3 := pf2.keep e3
    have xm3 := xm_trans xm2 (xm_ex e3)
    have tp_fl : tp ≠ fl := ne_of htp pf3.at_ (fun z => nomatch z)
    refine ⟨tp, _, rfl, st_of htp, fun t σ' H' => (∃ r8, σ' = [some (.ref a), some (.ref b), some (.int (kk : Int)), some (.ref gl), some (.ref fl), some (.int (i : Int)), some (.ref sl), some (.int ((mm : Nat) : Int)), r8, none, none]) ∧ Xm (· = fl) H3 H' ∧
      ∃ vs ps, PF C lot H' fl vs ps (2 * i + t) (((ks.filter fun p => decide (pwr (sz p) < (i : Int))).map sz).sum + (((if t = 0 then [] else if t = 1 then kj.take mm else kj.take mm ++ kj.drop mm) : List Rw).map sz).sum), ⟨⟨r8, rfl⟩, xm_ex (Ex.refl _), vs, ps, pf3.more (by omega) (by omega)⟩, fun t σ' H' _ z => st_of (z.2.1.1 _ _ tp_fl htp), fun t x σ' H' hx z => ?_, fun σ' H' z => ?_⟩
    · obtain ⟨⟨r8', rfl⟩, xm4, vs4, ps4, pf4⟩ := z
      have ht2 : t < 2 := (List.getElem?_eq_some_iff.mp hx).1
      have one : ∀ (kl : List Rw) (lx : Addr), (∀ p ∈ kl, p ∈ kj) → (kl.map sz).sum ≤ (ks.map sz).sum → lx ≠ fl → H3 lx = some (.lst (kl.map fun p => V.ref (L p))) → ∀ D : Ends, (∀ H5 vs5 ps5, Xm (· = fl) H3 H5 → PF C lot H5 fl vs5 ps5 (vs4.length + 1) (totR ps4 + (kl.map sz).sum) → D.nx [some (.ref a), some (.ref b), some (.int (kk : Int)), some (.ref gl), some (.ref fl), some (.int (i : Int)), some (.ref sl), some (.int ((mm : Nat) : Int)), some (.ref lx), none, none] H5) →
          tIfS (tTest (tOp (rNeD K) (tVar 8) (tLst tNil))) (tDrop (tBM K "list" rAppend (tVar 4) (tCons (tTup (tCons (tVar 5) (tCons (tDef (sp_made_table K C) E0 (tCons (SlX.tSl K (tVar 0) "own_lot") (tCons (tLc2 (iList K (tVar 8)) (gName 9) tYes (iList K (tVar 9)) (gName 10) tYes (tVar 10) [9, 10] [10]) tNil))) tNil))) tNil))) tNext D [some (.ref a), some (.ref b), some (.int (kk : Int)), some (.ref gl), some (.ref fl), some (.int (i : Int)), some (.ref sl), some (.int ((mm : Nat) : Int)), some (.ref lx), none, none] H' := by
        intro kl lx hkl hsum nx hlx D hD
        have hlx' := xm4.1 _ _ nx hlx
        have xm13 := xm_trans xm3 xm4
        have hLk : ∀ p ∈ kl, RowsL H' (.ref (L p)) (rows.filter fun r => decide (partOf lot low r = p)) := fun p hp => by
          obtain ⟨n, x, xs, ex, hx, hr'⟩ := hL p (kjm p (hkl p hp))
          cases ex
          exact ⟨L p, xs, rfl, xm13.1 _ _ n hx, Paired.mapP hr' fun t ns w => xm13.1 _ _ (ne_of w hfl (fun z => nomatch z)) w⟩
        refine s_when (et_test (ev_opL (ev_var (v := .ref lx) rfl) (el_lst ea_nil (by decide)) fun q H5 h5 e5 => rv_neG L (fun p => rows.filter fun r => decide (partOf lot low r = p)) kl (e5 _ _ hlx') (fun p hp => (hLk p hp).mono e5) h5)) (fun hb H5 e5 => ?_) (fun hb H5 e5 => hD H5 vs4 ps4 (xm_trans xm4 (xm_ex e5)) ?_)
        · have hne : kl ≠ [] := by
            intro z
            rw [z] at hb
            exact absurd hb (by decide)
          generalize hR : kl.map (fun p => rows.filter fun r => decide (partOf lot low r = p)) = R
          have Rlen : R.flatten.length = (kl.map sz).sum := by
            rw [← hR, flat_len, ← hsz]
          have R64 : R.flatten.length < 64 := by omega
          have Rmem : ∀ r ∈ R.flatten, r ∈ rows := fun r hr' => by
            obtain ⟨l, h1, h2⟩ := List.mem_flatten.mp hr'
            rw [← hR] at h1
            obtain ⟨p, _, rfl⟩ := List.mem_map.mp h1
            exact (List.mem_filter.mp h2).1
          have Rok : TOk lot R.flatten := ⟨ok.lo, fun r hr' => ok.ro r (Rmem r hr')⟩
          have hs5 : SlX.Slt H5 a C dx ws := slt_mono (fz_of e5) (by
            rcases hs with ⟨q1, q2⟩ | ⟨q1, q2⟩
            · exact .inl ⟨xm13.1 _ _ (old _ _ q1) (e1 _ _ q1), q2⟩
            · exact .inr ⟨xm13.1 _ _ (old _ _ q1) (e1 _ _ q1), xm13.1 _ _ (old _ _ q2) (e1 _ _ q2)⟩)
          have hla5 : LT H5 (.ref la) lot := by
            obtain ⟨x, ob, ex, q1, q2⟩ := hla
            cases ex
            exact ⟨la, ob, rfl, e5 _ _ (xm13.1 _ _ (old _ _ q1) (e1 _ _ q1)), q2⟩
          refine s_appP (P := fun v H6 => PairAt C H6 v (.int (i : Int), lot, mk R.flatten)) (e5 _ _ pf4.at_) (ev_var rfl) (evp_imp (evp_tup (P := fun vs H6 => ∃ t, vs = [.int (i : Int), .ref t] ∧ TabAt C H6 t lot (mk R.flatten)) (eap_cons (evp_of (P := fun v _ => v = .int (i : Int)) (ev_var rfl) fun _ _ => rfl) fun v6 H6 e6 z6 => eap_cons (P1 := fun v H7 => TabV C H7 v lot (mk R.flatten)) (evp_defA (Pa := fun vs H7 => ∃ u1 u2, vs = [u1, u2] ∧ LT H7 u1 lot ∧ RowsL H7 u2 R.flatten)
            (eap_cons (evp_of (P := fun v H7 => LT H7 v lot) (ev_own0 T (ev_var rfl) (slt_mono (fz_of e6) hs5) w0) fun H7 e7 => hla5.mono (fz_of (e6.trans e7))) fun v7 H7 e7 z7 => eap_cons (evp_lc2 R (ei_lst (ev_var rfl) (e7 _ _ (e6 _ _ (e5 _ _ hlx')))) (by rw [← hR, List.length_map, List.length_map]) (by omega) (fun ii x Ha Hb hlt ea y => ?_) gn_mono) fun v8 H8 e8 z8 => eap_nil fun H9 e9 => ⟨_, _, rfl, z7.mono (fz_of (e8.trans e9)), z8.mono e9⟩) fun vs7 H7 e7 z7 => ?_) fun v8 H8 e8 z8 => eap_nil fun H9 e9 => ?_) (fun vs H z => ?_) fun vs H H' e z => ?_) fun v H6 e6 z => ?_) (by have := pf4.z; omega) fun v H6 e6 hv => ?_
          · obtain ⟨rfl, hx⟩ := y
            rw [List.getElem?_map] at hx
            obtain ⟨p, hp, rfl⟩ := Option.map_eq_some_iff.mp hx
            have pm := List.mem_of_getElem? hp
            obtain ⟨x, xs, ex, hx, hr'⟩ := hLk p pm
            cases ex
            have eh := (e5.trans e6).trans e7
            refine ⟨rfl, Ex.refl _, xs, _, ?_, rows_mono (fz_of eh) hr', ek_lst (ev_var rfl) (eh _ _ hx), fun _ => rfl, fun _ => rfl⟩
            rw [← hR, List.getElem?_map, hp]
            rfl
          · obtain ⟨u1, u2, rfl, g1, g2⟩ := z7
            exact spp2 fun H8 e8 Q q => ⟨lot, R.flatten, g1.mono (fz_of e8), g2.mono e8, Rok, R64, fun _ => hl1, fun v H9 e9 g => q v H9 e9 g⟩
          · subst z6
            obtain ⟨t, rfl, g⟩ := z8
            exact ⟨t, rfl, g.mono (fz_of e9)⟩
          · obtain ⟨t, rfl, _⟩ := z
            show 2 ≤ 100000
            decide
          · obtain ⟨t, rfl, g⟩ := z
            exact ⟨t, rfl, g.mono (fz_of e)⟩
          · obtain ⟨p, vs, rfl, _, hp, t, rfl, g⟩ := z
            exact ⟨p, t, rfl, hp, g⟩
          · have pf6 := pf4.keep (e5.trans e6)
            have fz := fz_upd (o := .lst (vs4 ++ [v])) pf6.at_
            refine hD _ (vs4 ++ [v]) (ps4 ++ [(.int (i : Int), lot, mk R.flatten)]) (xm_upd rfl (xm_trans xm4 (xm_ex (e5.trans e6)))) ⟨upd_same, paired_app (pf6.pv.mono fz) (.cons (hv.mono fz) .nil), fun q hq => ?_, fun q hq => ?_, fun q hq => ?_, ?_, by rw [List.length_append, List.length_singleton]; omega⟩
            · rcases List.mem_append.mp hq with h | h
              · exact pf6.j q h
              · rw [List.mem_singleton.mp h]
                exact ⟨_, rfl⟩
            · rcases List.mem_append.mp hq with h | h
              · exact pf6.l q h
              · rw [List.mem_singleton.mp h]
            · rcases List.mem_append.mp hq with h | h
              · exact pf6.ne q h
              · rw [List.mem_singleton.mp h]
                cases kl with
                | nil => exact absurd rfl hne
                | cons p kl =>
                  have pk := kjm p (hkl p List.mem_cons_self)
                  intro z
                  obtain ⟨r, hr1⟩ := List.exists_mem_of_ne_nil _ (fl_ne p pk)
                  have : r ∈ mk R.flatten := mem_mk.mpr (by
                    rw [← hR, List.map_cons, List.flatten_cons]
                    exact List.mem_append_left _ hr1)
                  rw [show mk R.flatten = [] from z] at this
                  cases this
            · rw [totR_app]
              have := mk_len R.flatten
              show totR ps4 + (mk R.flatten).length ≤ _
              omega
        · exact ⟨e5 _ _ pf4.at_, pf4.pv.mono (fz_of e5), pf4.j, pf4.l, pf4.ne, by omega, by omega⟩
      have skj : (kj.map sz).sum ≤ (ks.map sz).sum := by
        rw [← hkj]
        exact sum_filter_le sz _ ks
      have cut := sum_cut sz mm kj
      match t, hx with
      | 0, hx =>
        cases Option.some.inj hx
        refine one (kj.take mm) l1 (fun p hp => List.mem_of_mem_take hp) (by omega) n1 hl1' _ fun H5 vs5 ps5 g1 g2 => ⟨⟨_, rfl⟩, g1, vs5, ps5, g2.more (by have := pf4.z; omega) ?_⟩
        have s4 := pf4.s
        simp only [if_true, List.map_nil, List.sum_nil] at s4
        simp
        omega
      | 1, hx =>
        cases Option.some.inj hx
        refine one (kj.drop mm) l2 (fun p hp => List.mem_of_mem_drop hp) (by omega) n2 hl2' _ fun H5 vs5 ps5 g1 g2 => ⟨⟨_, rfl⟩, g1, vs5, ps5, g2.more (by have := pf4.z; omega) ?_⟩
        have s4 := pf4.s
        simp only [Nat.one_ne_zero, if_false, if_true] at s4
        simp only [Nat.reduceAdd, Nat.reduceEqDiff, if_false, List.map_append, List.sum_append]
        omega
      | t + 2, hx => cases hx
    · obtain ⟨⟨r8', rfl⟩, xm4, vs4, ps4, pf4⟩ := z
      refine ⟨⟨_, _, _, _, rfl⟩, xm_trans xm3 xm4, vs4, ps4, pf4.more (by simp; omega) ?_⟩
      have sp := sum_split sz (fun p => pwr (sz p)) (i : Int) ks
      have e0 : (((i + 1 : Nat)) : Int) = (i : Int) + 1 := by push_cast; rfl
      rw [e0, sp, hkj]
      show _ + (((if 2 = 0 then [] else if 2 = 1 then kj.take mm else kj.take mm ++ kj.drop mm) : List Rw).map sz).sum ≤ _
      rw [if_neg (by decide), if_neg (by decide), List.take_append_drop]
      exact Nat.le_refl _
  · obtain ⟨⟨r5, r6, r7, r8, rfl⟩, xm, vs, ps, pf⟩ := z
    refine s_ret (v := .ref fl) (ev_var rfl) fun H2 e2 => ?_
    have sf := sum_filter_le sz (fun p => decide (pwr (sz p) < ((((kk : Int) + 1).toNat : Nat) : Int))) ks
    exact k fl vs ps H2 (fun x o q => e2 _ _ (xm.1 _ _ (old _ _ q) (e1 _ _ q))) f2 (e2 _ _ pf.at_) (pf.pv.mono (fz_of e2)) ⟨pf.j, pf.l, pf.ne, Nat.le_trans pf.s (by omega)⟩
end
end Q44
namespace Q44
open PySem PySem.Spec PyProof.Rows L2 M44 Evl
section
variable {P : Program} {w : World} {K : PySem.W.Frag} {mg : Str → Option Value} {base : Heap} {C : Addr}
section
variable {K : PySem.W.Frag} {σ : L2.St} {H : Hp} {te ta tb : TE} {r : R2} {z : V}
theorem evp_tupP {P : List V → Hp → Prop} (h : EvP te σ H fun v H2 => ∃ l vs, v = .ref l ∧ H2 l = some (.lst vs) ∧ P vs H2) (hm : ∀ vs H1 H2, Ex H1 H2 → P vs H1 → P vs H2) : EvP (tCB (rTupS K) (tCons te tNil)) σ H fun v H2 => ∃ t vs, v = .ref t ∧ H2 t = some (.tup vs) ∧ P vs H2 := fun H1 e Q q => h H1 e _ fun v H2 e2 w => by
  obtain ⟨l, vs, rfl, hl, hp⟩ := w
  exact ⟨l, vs, rfl, .inl ⟨sq_of hl, fun p hp' => q _ _ (e2.trans (Ex.new hp')) ⟨p, vs, rfl, upd_same, hm _ _ _ (Ex.new hp') hp⟩⟩⟩
theorem el_mapI {ti : TI} {j : Nat} {xs ys : List V} {ws : List Nat} (hi : EvI ti σ H xs.length (YL xs)) (hn : xs.length ≤ 40000) (hl : ys.length = xs.length) (hw : ∀ v, wipe ((wipe σ ws).set j (some v)) ws = wipe σ ws)
    (he : ∀ (i : Nat) (v y : V) (H1 : Hp), xs[i]? = some v → ys[i]? = some y → Ex H H1 → Ev te ((wipe σ ws).set j (some v)) H1 y) : EvL (tLc ti (gName j) tYes te ws) σ H ys := fun H0 e Q q => by
  have w := lc_gen (σ := σ) (t := tYes) (te := te) (g := gName j) (ws := ws) (H := H0) (P := fun i zs _ => zs = ys.take i) (hi.mono e) hn (fun _ _ => rfl) (fun _ _ _ _ _ p => p) (fun i v zs H1 H2 lt e1 p y => ?_) gn_mono
  · refine w H0 (Ex.refl _) Q fun v H2 e2 u => ?_
    obtain ⟨p, zs, rfl, hp, hz, rfl⟩ := u
    rw [← hl, List.take_length] at hz
    exact q p H2 hp e2 hz
  · obtain ⟨rfl, hx⟩ := y
    subst p
    have lty : i < ys.length := by omega
    have hy : ys[i]? = some ys[i] := List.getElem?_eq_getElem lty
    refine ⟨hw v, Ex.refl _, true, et_yes, fun z => (nomatch z), fun _ => evp_of (he i v _ _ hx hy (e.trans e1)) fun H3 e3 => ?_⟩
    rw [List.take_add_one, hy]
    rfl
theorem ev_opPP {P1 P2 : V → Hp → Prop} (ha : EvP ta σ H P1) (hb : ∀ H1, Ex H H1 → EvP tb σ H1 P2) (hm : ∀ v H1 H2, Ex H1 H2 → P1 v H1 → P1 v H2) (hr : ∀ x y H1, P1 x H1 → P2 y H1 → RV r x y H1 z) : Ev (tOp r ta tb) σ H z := fun H1 e Q q =>
  ha H1 e _ fun x H2 e2 p1 => hb H2 (e.trans e2) H2 (Ex.refl _) _ fun y H3 e3 p2 => hr x y H3 (hm _ _ _ e3 p1) p2 H3 (Ex.refl _) Q fun H4 e4 => q H4 ((e2.trans e3).trans e4)
theorem evp_listT {rs : List Rw} (h : EvP te σ H fun v H2 => RowsT H2 v rs) : EvP (tCB (rListS K) (tCons te tNil)) σ H fun v H2 => RowsL H2 v rs := fun H1 e Q q => h H1 e _ fun v H2 e2 w => by
  obtain ⟨a, as, rfl, ha, hr⟩ := w
  exact ⟨a, _, rfl, .inr (st_of ha), fun l hl => q _ _ (e2.trans (Ex.new hl)) ⟨l, as, rfl, upd_same, rows_mono (fz_of (Ex.new hl)) hr⟩⟩
end
/-- the rows of all pieces -/
theorem evp_piecesRows {K : PySem.W.Frag} {mg : Str → Option Value} {C : Addr} {σ : L2.St} {H : Hp} {a : Addr} {vs : List V} {ps : List Pc} {te : TE} {ij ip ir : Nat} {ws ws1 : List Nat} (T : Tx K mg C) (h : Ev te σ H (.ref a)) (ha : H a = some (.tup vs)) (hp : PVals C H vs ps) (hn : vs.length ≤ 40000) (hb : totR ps ≤ 40000)
    (w1 : ∀ u v, wipe (((wipe σ ws).set ij (some u)).set ip (some v)) ws = wipe σ ws) (w2 : ∀ u v, (((wipe σ ws).set ij (some u)).set ip (some v))[ip]? = some (some v)) (w3 : ∀ u v x, ((wipe (((wipe σ ws).set ij (some u)).set ip (some v)) ws1).set ir (some x))[ir]? = some (some x))
    (w4 : ∀ u v x, wipe ((wipe (((wipe σ ws).set ij (some u)).set ip (some v)) ws1).set ir (some x)) ws1 = wipe (((wipe σ ws).set ij (some u)).set ip (some v)) ws1) :
    EvP (tLc2 (iTup K te) (gTup K 2 (gCons (gName ij) (gCons (gName ip) gNil))) tYes (iTup K (SlX.tSl K (tVar ip) "own_rows")) (gName ir) tYes (tVar ir) ws ws1) σ H fun v H2 => RowsL H2 v (rowsP ps) := by
  have len : vs.length = ps.length := Paired.length hp
  have fl : rowsP ps = (ps.map fun q => q.2.2).flatten := by
    unfold rowsP
    rw [List.flatMap_def]
  have fll : (ps.map fun q => q.2.2).flatten.length = totR ps := by
    unfold totR
    rw [List.length_flatten, List.map_map]
    rfl
  rw [fl]
  refine evp_lc2 (ps.map fun q => q.2.2) (ei_tup h (.inl ha)) (by rw [List.length_map, len]) (by omega) (fun i x H1 H2 lt e y => ?_) g2_mono
  obtain ⟨rfl, hx⟩ := y
  obtain ⟨q, hq, p, t, rfl, hpp, htt⟩ := L2.paired_get hp hx
  obtain ⟨dx, ok, sl, la, ra, as, hs, z0, z1, hla, hra, hr'⟩ := id htt
  refine ⟨p, _, rfl, st_of (e _ _ hpp), rfl, _, _, rfl, _, _, rfl, rfl, w1 _ _, Ex.refl _, as, q.2.2, ?_, hr', ek_tup (ev_own1 T (ev_var (w2 _ _)) hs z1) (.inl hra), w3 _ _, w4 _ _⟩
  rw [List.getElem?_map, hq]
  rfl
theorem told_mono {C : Addr} {H H2 : Hp} {vs : List V} {ps : List Pc} (e : Ex H H2) (h : PVals C H vs ps) : PVals C H2 vs ps := h.mono (fz_of e)
abbrev s_parted : Stmt := top 40
abbrev N_parted : List Str := ["table", "low", "k"]
theorem sc_parted : FnScope N_parted ["table", "low", "k"] (defScope s_parted) := ⟨rfl, rfl, rfl, by decide +kernel, rfl, by decide +kernel, by decide +kernel⟩
theorem ok_parted {f : Addr} {fd : FuncData} (F : Fun K "parted" "parted" s_parted f fd) (T : Tx K mg C) {f_require_cut_and_power : Addr} (D_require_cut_and_power : Df P w K mg base "require_cut_and_power" f_require_cut_and_power 5 (sp_require_cut_and_power K C)) {f_parted_in : Addr} (D_parted_in : Df P w K mg base "parted_in" f_parted_in 8 (sp_parted_in K C)) : FnOk P w K mg base CX0 9 f fd ["table", "low", "k"] (sp_parted K C) := by
  refine F.ok sc_parted (fun vs H Q E h => len_sp3 h) (fun cdv A outer s H vs Q E hr h => ?_)
  obtain ⟨v0, v1, v2, rfl, h⟩ := h
  refine ⟨_, (pss_cons (ps_expr (pe_d D_require_cut_and_power hr (by decide) (pa_cons (pv 0) (pa_cons (pv 1) (pa_cons (pv 2) pa_nil)))))
      (pss_one (ps_ret (pe_callTy (k_tuple (K := K) rfl) (by rfl) T.m_tuple boot_tuple (pa_cons (pe_d D_parted_in hr (by decide) (pa_cons (pv 0) (pa_cons (pv 1) (pa_cons (pv 2) pa_nil)))) pa_nil))))), ?_⟩
  obtain ⟨lot, rows, low, kk, ht, hlow, rfl, hk, lok, sub, h64, hl1, hp2, k⟩ := h
  refine q_drop (v := .non) (ev_def (ea3 (ev_var rfl) (ev_var rfl) (ev_var rfl)) (spv3 fun H2 e2 Q k => ⟨lot, rows, low, kk, ht.mono (fz_of e2), hlow.mono (fz_of e2), rfl, hk, lok, sub, hp2, k⟩)) fun H1 e1 => ?_
  refine s_retP (evp_tupP (P := fun vs H2 => ∃ ps, PVals C H2 vs ps ∧ Told lot rows ps) (evp_def (ea3 (ev_var rfl) (ev_var rfl) (ev_var rfl)) (spp3 fun H2 e2 Q q => ⟨lot, rows, low, kk, ht.mono (fz_of (e1.trans e2)), hlow.mono (fz_of (e1.trans e2)), rfl, hk, lok, sub, h64, hl1, fun l vs ps H3 e3 f h1 h2 h3 => q _ H3 e3 ⟨l, vs, rfl, h1, ps, h2, h3⟩⟩)) fun vs H1 H2 e z => ?_) fun v H2 e2 z => ?_
  · obtain ⟨ps, z1, z2⟩ := z
    exact ⟨ps, told_mono e z1, z2⟩
  · obtain ⟨t, vs, rfl, h1, ps, h2, h3⟩ := z
    exact k t vs ps H2 (e1.trans e2) h1 h2 h3
abbrev s_is_parted : Stmt := top 41
abbrev N_is_parted : List Str := ["table", "low", "k", "value", "rows", "one", "j", "piece", "row"]
theorem sc_is_parted : FnScope N_is_parted ["table", "low", "k", "value"] (defScope s_is_parted) := ⟨rfl, rfl, rfl, by decide +kernel, rfl, by decide +kernel, by decide +kernel⟩
theorem ok_is_parted {f : Addr} {fd : FuncData} (F : Fun K "is_parted" "is_parted" s_is_parted f fd) (T : Tx K mg C) {f_require_cut_and_power : Addr} (D_require_cut_and_power : Df P w K mg base "require_cut_and_power" f_require_cut_and_power 5 (sp_require_cut_and_power K C)) {f_is_piece : Addr} (D_is_piece : Df P w K mg base "is_piece" f_is_piece 3 (sp_is_piece K C)) : FnOk P w K mg base CX0 6 f fd ["table", "low", "k", "value"] (sp_is_parted K C) := by
  refine F.ok sc_is_parted (fun vs H Q E h => len_sp4 h) (fun cdv A outer s H vs Q E hr h => ?_)
  obtain ⟨v0, v1, v2, v3, rfl, h⟩ := h
  refine ⟨_, (pss_cons (ps_expr (pe_d D_require_cut_and_power hr (by decide) (pa_cons (pv 0) (pa_cons (pv 1) (pa_cons (pv 2) pa_nil)))))
      (pss_cons (ps_if ((pw_or (pt_not (pt_val (pe_callB (k_isT (K := K) rfl T.is) (by rfl) T.isinstance (by decide +kernel) (pa_cons (pv 3) (pa_cons (pe_bltn (v := .ty "tuple") (by rfl) T.m_tuple boot_tuple rfl) pa_nil))))) (pw_or1 (pt_cmpR op_gt (pe_callB (k_len (K := K) rfl) (by rfl) T.len PySem.boot_len (pa_cons (pv 3) pa_nil)) (pe_op op_add (pe_op op_mul pe_int (pv 2)) pe_int) (nomark _)))).pt) (pss_one (ps_ret pe_bl)) pss_nil)
      (pss_cons (ps_if (pt_not (pt_val (pe_callB (k_all (K := K) rfl) (by rfl) T.all (by decide +kernel) (pa_cons (pe_lc (own := [("one", 5)]) rfl sc_is_parted.nd (k_pit (K := K) rfl (pv 3)) (blkOk_by (own := [("one", 5)]) (N := N_is_parted) (sc := defScope s_is_parted) (by decide +kernel)) (fun _ _ _ _ _ => (pg_name (i := 5) sc_is_parted.nd rfl (Or.inl rfl))) (fun _ _ _ _ _ => pts_nil) (fun _ _ _ _ _ => (pe_d D_is_piece hr (by decide) (pa_cons (pv 0) (pa_cons (pv 1) (pa_cons (pv 2) (pa_cons (pv 5) pa_nil))))))) pa_nil)))) (pss_one (ps_ret pe_bl)) pss_nil)
      (pss_cons (ps_setLc2 (i := 4) (own := [("j", 6), ("piece", 7), ("row", 8)]) (vs1 := [8]) rfl sc_is_parted.nd rfl rfl (sw_true rfl rfl rfl (by decide +kernel)) (k_pit (K := K) rfl (pv 3)) (blkOk_by (own := [("j", 6), ("piece", 7), ("row", 8)]) (N := N_is_parted) (sc := defScope s_is_parted) (by decide +kernel)) (by decide) (fun _ _ _ _ _ => (k_gt (K := K) (n := 2) rfl rfl (pgs_cons (pg_name (i := 6) sc_is_parted.nd rfl (Or.inl rfl)) (pgs_cons (pg_name (i := 7) sc_is_parted.nd rfl (Or.inl rfl)) pgs_nil)))) (fun _ _ _ _ _ => pts_nil) (fun _ _ _ _ _ => (k_pit (K := K) rfl (k_sl (K := K) rfl (pv 7)))) (fun _ _ _ _ _ => (pg_name (i := 8) sc_is_parted.nd rfl (Or.inl rfl))) (fun _ _ _ _ _ => pts_nil) (fun _ _ _ _ _ => (pv 8)))
      (pss_one (ps_ret (pe_cmpR (k_eqD (K := K) rfl hr.units) (pe_callB (k_sortL (K := K) rfl) (by rfl) T.sorted (by decide +kernel) (pa_cons (pv 4) pa_nil)) (pe_callTy (k_list (K := K) rfl) (by rfl) T.m_list boot_list (pa_cons (k_sl (K := K) rfl (pv 0)) pa_nil)) (nomark _)))))))), ?_⟩
  obtain ⟨lot, rows, low, kk, ht, hlow, rfl, hk, lok, sub, hp2, hl1, h1000, h⟩ := h
  refine q_drop (v := .non) (ev_def (ea3 (ev_var rfl) (ev_var rfl) (ev_var rfl)) (spv3 fun H2 e2 Q k => ⟨lot, rows, low, kk, ht.mono (fz_of e2), hlow.mono (fz_of e2), rfl, hk, lok, sub, hp2, k⟩)) fun H1 e1 => ?_
  have ht := ht.mono (fz_of e1)
  have hlow := hlow.mono (fz_of e1)
  have big : ∀ (n : Nat) (te : TE) (σ : L2.St) (H : Hp), σ[2]? = some (some (.int ((kk : Nat) : Int))) → Ev te σ H (.int (n : Int)) → EvT (tTest (tOp (rI0 fun i j => .bl (decide (j < i))) te (tOp (rI0 fun i j => .int (i + j)) (tOp (rI CMul fun i j => .int (i * j)) (tC (.int 2)) (tVar 2)) (tC (.int 1))))) σ H (decide (2 * kk + 1 < n)) := fun n te σ H hσ h => et_is (et_test (ev_op h (ev_op (ev_op ev_c (ev_var hσ) (rv_I (.inl ⟨by decide, by decide⟩))) ev_c rv_I0) rv_I0)) (decide_eq_decide.mpr (by omega))
  rcases h with ⟨ps, hv, k⟩ | ⟨ho, k⟩
  · obtain ⟨t, vs, rfl, htv, hp, hj, h64, hn⟩ := hv.mono (fz_of e1)
    have len : vs.length = ps.length := Paired.length hp
    have small : ∀ q ∈ ps, q.2.2.length < 64 := fun q hq => by
      have : ∀ l : List Pc, q ∈ l → q.2.2.length ≤ totR l := by
        intro l
        induction l with
        | nil => intro z; cases z
        | cons a l ih =>
          intro z
          unfold totR at ih ⊢
          rw [List.map_cons, List.sum_cons]
          rcases List.mem_cons.mp z with rfl | z
          · omega
          · have := ih z
            omega
      have := this ps hq
      omega
    refine q_when (b := decide (2 * kk + 1 < vs.length)) (et_is (et_or (a := false) (et_not (a := true) (et_B (ev_isT (ev_var rfl) (.tup (.inl htv))))) fun _ => big vs.length _ _ _ rfl (ev_lenT (ev_var rfl) (.inl htv))) (Bool.false_or _)) (fun hb H2 e2 => ?_) fun hb H2 e2 => ?_
    · refine s_ret (v := .bl false) ev_c fun H3 e3 => ?_
      have hb := of_decide_eq_true hb
      have e : partedB lot low rows kk ps = false := by
        unfold partedB
        rw [decide_eq_false (by omega)]
        rfl
      rw [e] at k
      exact k H3 ((e1.trans e2).trans e3)
    have hb := of_decide_eq_false hb
    refine q_when (b := !(ps.all (pieceB lot low kk))) (et_not (et_B (ev_is (ev_all (bs := ps.map (pieceB lot low kk)) (el_mapI (ei_tup (ev_var rfl) (.inl (e2 _ _ htv))) (by omega) (by rw [List.length_map, List.length_map]; omega) (fun _ => rfl) fun i v y H3 hx hy e3 => ?_)) ?_))) (fun hb2 H3 e3 => ?_) fun hb2 H3 e3 => ?_
    · obtain ⟨q, hq, hpq⟩ := L2.paired_get hp hx
      rw [List.getElem?_map, List.getElem?_map, hq] at hy
      cases hy
      have qm := List.mem_of_getElem? hq
      exact ev_def (ea_cons (ev_var rfl) (ea3 (ev_var rfl) (ev_var rfl) (ev_var rfl))) (spv4 fun H4 e4 Q k => ⟨lot, rows, low, kk, ht.mono (fz_of ((e2.trans e3).trans e4)), hlow.mono (fz_of ((e2.trans e3).trans e4)), rfl, hk, lok, sub, .inl ⟨q, hpq.mono (fz_of ((e2.trans e3).trans e4)), hj q qm, small q qm, k⟩⟩)
    · rw [List.all_map]
      rfl
    · refine s_ret (v := .bl false) ev_c fun H4 e4 => ?_
      have hb2 : ps.all (pieceB lot low kk) = false := by simpa using hb2
      have e : partedB lot low rows kk ps = false := by
        unfold partedB
        rw [hb2, Bool.and_false]
        rfl
      rw [e] at k
      exact k H4 (((e1.trans e2).trans e3).trans e4)
    have hb2 : ps.all (pieceB lot low kk) = true := by simpa using hb2
    have e23 := e2.trans e3
    have lots : ∀ q ∈ ps, q.2.1 = lot := fun q hq => by
      have z := List.all_eq_true.mp hb2 q hq
      unfold pieceB at z
      cases h : q.1 with
      | int i =>
        simp only [h, Bool.and_eq_true, decide_eq_true_eq] at z
        exact z.1.1.2
      | _ =>
        simp only [h] at z
        cases z
    have rok : ∀ r ∈ rowsP ps, RowOk lot.length r := fun r hr' => by
      obtain ⟨q, hq, hr2⟩ := List.mem_flatMap.mp hr'
      obtain ⟨v, hv⟩ : ∃ v, PairAt C H1 v q := by
        have : ∀ {vs : List V} {ps : List Pc}, PVals C H1 vs ps → q ∈ ps → ∃ v, PairAt C H1 v q := fun {vs ps} h => by
          unfold PVals at h
          induction h with
          | nil => intro z; cases z
          | cons r _ ih =>
            intro z
            rcases List.mem_cons.mp z with rfl | z
            · exact ⟨_, r⟩
            · exact ih z
        exact this hp hq
      obtain ⟨p, t, _, _, dx, g⟩ := hv
      have := g.1.ro r hr2
      rw [lots q hq] at this
      exact this
    have rlen : (rowsP ps).length = totR ps := by
      unfold rowsP totR
      rw [List.length_flatMap]
    refine q_asgP (evp_piecesRows T (ev_var rfl) (e23 _ _ htv) (told_mono e23 hp) (by omega) (by omega) (fun _ _ => rfl) (fun _ _ => rfl) (fun _ _ _ => rfl) fun _ _ _ => rfl) fun v H4 e4 hrl => ?_
    have e24 := e23.trans e4
    obtain ⟨a, rfl, dx, ok, ws, la, ra, as, hs, w0, w1, hla, hra, hr'⟩ := ht.mono (fz_of e24)
    refine s_ret (v := .bl (decide (srt (rowsP ps) = rows))) (ev_opPP (evp_sortL (d := lot.length) (evp_of (P := fun v H2 => RowsL H2 v (rowsP ps)) (ev_var rfl) fun H5 e5 => hrl.mono e5) rok (by omega) (fun _ => hl1)) (fun H5 e5 => evp_listT (evp_of (P := fun v H2 => RowsT H2 v rows) (ev_own1 T (ev_var rfl) (slt_mono (fz_of e5) hs) w1) fun H6 e6 => ⟨ra, as, rfl, e6 _ _ (e5 _ _ hra), rows_mono (fz_of (e5.trans e6)) hr'⟩)) (fun v H1 H2 e z => RowsL.mono e z) fun x y H5 h1 h2 => rv_eqRL h1 h2) fun H5 e5 => ?_
    have e : partedB lot low rows kk ps = decide (srt (rowsP ps) = rows) := by
      unfold partedB
      rw [decide_eq_true (by omega), hb2]
      rfl
    rw [← e]
    exact k H5 ((e1.trans e24).trans e5)
  · cases ho.mono e1 with
    | kind kd n =>
      refine q_when (b := true) (et_is (et_or (a := true) (b := true) (et_not (a := false) (et_B (ev_is (ev_isT (b := isB _ "tuple") (ev_var rfl) kd) ?_))) (fun z => nomatch z)) rfl) (fun _ H2 e2 => s_ret (v := .bl false) ev_c fun H3 e3 => k H3 ((e1.trans e2).trans e3)) (fun z => nomatch z)
      cases kd <;> first | rfl | exact absurd rfl n
    | @one a x hh o =>
      refine q_when (b := false) (et_is (et_or (a := false) (et_not (a := true) (et_B (ev_isT (ev_var rfl) (.tup (.inl hh))))) fun _ => big 1 _ _ _ rfl (ev_lenT (ev_var rfl) (.inl hh))) (by rw [decide_eq_false (by omega)]; rfl)) (fun z => nomatch z) fun _ H2 e2 => ?_
      refine q_when (b := true) (et_not (a := false) (et_B (ev_is (ev_all (bs := [false]) (el_mapI (ei_tup (ev_var rfl) (.inl (e2 _ _ hh))) (by show 1 ≤ 40000; decide) rfl (fun _ => rfl) fun i v y H3 hx hy e3 => ?_)) rfl))) (fun _ H3 e3 => s_ret (v := .bl false) ev_c fun H4 e4 => k H4 (((e1.trans e2).trans e3).trans e4)) (fun z => nomatch z)
      match i, hx, hy with
      | 0, hx, hy =>
        cases Option.some.inj hx
        cases Option.some.inj hy
        exact ev_def (ea_cons (ev_var rfl) (ea3 (ev_var rfl) (ev_var rfl) (ev_var rfl))) (spv4 fun H4 e4 Q k => ⟨lot, rows, low, kk, ht.mono (fz_of ((e2.trans e3).trans e4)), hlow.mono (fz_of ((e2.trans e3).trans e4)), rfl, hk, lok, sub, .inr ⟨o.mono ((e2.trans e3).trans e4), k⟩⟩)
      | i + 1, hx, _ => cases hx
abbrev s_put_together : Stmt := top 42
abbrev N_put_together : List Str := ["pieces", "j", "piece", "row"]
theorem sc_put_together : FnScope N_put_together ["pieces"] (defScope s_put_together) := ⟨rfl, rfl, rfl, by decide +kernel, rfl, by decide +kernel, by decide +kernel⟩
theorem ok_put_together {f : Addr} {fd : FuncData} (F : Fun K "put_together" "put_together" s_put_together f fd) (T : Tx K mg C) {f_require_pieces : Addr} (D_require_pieces : Df P w K mg base "require_pieces" f_require_pieces 3 (sp_require_pieces K C)) {f_made_table : Addr} (D_made_table : Df P w K mg base "made_table" f_made_table 7 (sp_made_table K C)) : FnOk P w K mg base CX0 8 f fd ["pieces"] (sp_put_together K C) := by
  refine F.ok sc_put_together (fun vs H Q E h => len_sp1 h) (fun cdv A outer s H vs Q E hr h => ?_)
  obtain ⟨v0, rfl, h⟩ := h
  refine ⟨_, (pss_cons (ps_expr (pe_d D_require_pieces hr (by decide) (pa_cons (pv 0) pa_nil)))
      (pss_one (ps_ret (pe_d D_made_table hr (by decide) (pa_cons (k_sl (K := K) rfl (pe_ix (k_ixT (K := K) rfl) (pe_ix (k_ixT (K := K) rfl) (pv 0) pe_int (fun _ _ => rfl)) pe_int (fun _ _ => rfl))) (pa_cons (pe_lc2 (own := [("j", 1), ("piece", 2), ("row", 3)]) (vs1 := [3]) rfl sc_put_together.nd (k_pit (K := K) rfl (pv 0)) (blkOk_by (own := [("j", 1), ("piece", 2), ("row", 3)]) (N := N_put_together) (sc := defScope s_put_together) (by decide +kernel)) (by decide) (fun _ _ _ _ _ => (k_gt (K := K) (n := 2) rfl rfl (pgs_cons (pg_name (i := 1) sc_put_together.nd rfl (Or.inl rfl)) (pgs_cons (pg_name (i := 2) sc_put_together.nd rfl (Or.inl rfl)) pgs_nil)))) (fun _ _ _ _ _ => pts_nil) (fun _ _ _ _ _ => (k_pit (K := K) rfl (k_sl (K := K) rfl (pv 2)))) (fun _ _ _ _ _ => (pg_name (i := 3) sc_put_together.nd rfl (Or.inl rfl))) (fun _ _ _ _ _ => pts_nil) (fun _ _ _ _ _ => (pv 3))) pa_nil)))))), ?_⟩
  obtain ⟨t, vs, ps, lot, rfl, htv, hp, h1, h50, hall, hl1, h64, k⟩ := h
  have len : vs.length = ps.length := Paired.length hp
  refine q_drop (v := .non) (ev_def (ea1 (ev_var rfl)) (spv1 fun H2 e2 Q k => ⟨t, vs, ps, lot, rfl, e2 _ _ htv, told_mono e2 hp, h1, h50, hall, k⟩)) fun H1 e1 => ?_
  have hne : ∃ v0 q0, vs[0]? = some v0 ∧ ps[0]? = some q0 ∧ PairAt C H v0 q0 := by
    cases hp with
    | nil => exact absurd h1 (by decide)
    | cons r _ => exact ⟨_, _, rfl, rfl, r⟩
  obtain ⟨v0, q0, hv0, hq0, p0, t0, rfl, hp0, ht0⟩ := hne
  have hq0l := (hall q0 (List.mem_of_getElem? hq0)).2
  obtain ⟨dx0, ok0, ws0, la0, ra0, as0, hs0, w00, w10, hla0, hra0, hr0⟩ := id ht0
  rw [hq0l] at hla0 ok0
  have rlen : (rowsP ps).length = totR ps := by
    unfold rowsP totR
    rw [List.length_flatMap]
  have rok : ∀ r ∈ rowsP ps, RowOk lot.length r := fun r hr' => by
    obtain ⟨q, hq, hr2⟩ := List.mem_flatMap.mp hr'
    obtain ⟨v, hv⟩ : ∃ v, PairAt C H v q := by
      have : ∀ {vs : List V} {ps : List Pc}, PVals C H vs ps → q ∈ ps → ∃ v, PairAt C H v q := fun {vs ps} h => by
        unfold PVals at h
        induction h with
        | nil => intro z; cases z
        | cons r _ ih =>
          intro z
          rcases List.mem_cons.mp z with rfl | z
          · exact ⟨_, r⟩
          · exact ih z
      exact this hp hq
    obtain ⟨p, t, _, _, dx, g⟩ := hv
    have := g.1.ro r hr2
    rw [(hall q hq).2] at this
    exact this
  refine s_retP (evp_defA (Pa := fun us H2 => ∃ u1 u2, us = [u1, u2] ∧ LT H2 u1 lot ∧ RowsL H2 u2 (rowsP ps)) (eap_cons (evp_of (P := fun v H2 => LT H2 v lot) (ev_own0 T (ev_op (ev_op (ev_var rfl) ev_c (rv_ixT (v := .ref p0) (st_of (e1 _ _ htv)) (by
    have z := atI_nat (j := 0) hv0
    exact z))) ev_c (rv_ixT (v := .ref t0) (xs := [q0.1, .ref t0]) (st_of (e1 _ _ hp0)) rfl)) (slt_mono (fz_of e1) hs0) w00) fun H2 e2 => hla0.mono (fz_of (e1.trans e2))) fun u1 H2 e2 z1 => eap_cons (evp_piecesRows T (ev_var rfl) (e2 _ _ (e1 _ _ htv)) (told_mono (e1.trans e2) hp) (by omega) (by omega) (fun _ _ => rfl) (fun _ _ => rfl) (fun _ _ _ => rfl) fun _ _ _ => rfl) fun u2 H3 e3 z2 => eap_nil fun H4 e4 => ⟨_, _, rfl, z1.mono (fz_of (e3.trans e4)), z2.mono e4⟩) fun us H2 e2 z => ?_) fun v H2 e2 z => k v H2 (e1.trans e2) z
  obtain ⟨u1, u2, rfl, g1, g2⟩ := z
  exact spp2 fun H3 e3 Q q => ⟨lot, rowsP ps, g1.mono (fz_of e3), g2.mono e3, ⟨ok0.lo, rok⟩, by omega, fun _ => hl1, fun v H4 e4 g => q v H4 e4 g⟩
end
end Q44
namespace Q44
open PySem PySem.Spec PyProof.Rows L2 M44 Evl
section
variable {P : Program} {w : World} {K : PySem.W.Frag} {mg : Str → Option Value} {base : Heap} {C : Addr}
abbrev s__law_part : Stmt := top 49
abbrev N__law_part : List Str := ["_law_row", "_law_lot", "_law_some", "_law_letter"]
theorem sc__law_part : FnScope N__law_part ["_law_row", "_law_lot", "_law_some"] (defScope s__law_part) := ⟨rfl, rfl, rfl, by decide +kernel, rfl, by decide +kernel, by decide +kernel⟩
theorem ok__law_part {f : Addr} {fd : FuncData} (F : Fun K "_law_part" "_law_part" s__law_part f fd) (T : Tx K mg C) : FnOk P w K mg base CX0 1 f fd ["_law_row", "_law_lot", "_law_some"] (sp__law_part K C) := by
  refine F.ok sc__law_part (fun vs H Q E h => len_sp3 h) (fun cdv A outer s H vs Q E hr h => ?_)
  obtain ⟨v0, v1, v2, rfl, h⟩ := h
  refine ⟨_, (pss_one (ps_ret (pe_callTy (k_tuple (K := K) rfl) (by rfl) T.m_tuple boot_tuple (pa_cons (pe_lc (own := [("_law_letter", 3)]) rfl sc__law_part.nd (k_pit (K := K) rfl (pv 2)) (blkOk_by (own := [("_law_letter", 3)]) (N := N__law_part) (sc := defScope s__law_part) (by decide +kernel)) (fun _ _ _ _ _ => (pg_name (i := 3) sc__law_part.nd rfl (Or.inl rfl))) (fun _ _ _ _ _ => pts_nil) (fun _ _ _ _ _ => (pe_ix (k_ixT (K := K) rfl) (pv 0) (pe_bmT PySem.F.plainAttrs_tuple PySem.F.slot_tuple_index PySem.F.type_tuple_index mt_tupI (pv 1) (pa_cons (pv 3) pa_nil)) (fun _ _ => rfl)))) pa_nil)))), ?_⟩
  obtain ⟨ns, lot, low, ⟨r, rfl, hr0⟩, ⟨la, lob, rfl, hla, hob⟩, ⟨b, rfl, hb⟩, hlen, hl, sub, k⟩ := h
  refine s_retU (eu_tuple (el_is (ys := (partOf lot low ns).map V.int) (el_map1 (fun v => match v with | V.int z => V.int (ns.getD (lot.idxOf z) 0) | _ => .non) (ei_tup (ev_var rfl) hb) (by rw [List.length_map]; omega) (fun _ => rfl) fun v H1 hv e => ?_) ?_)) fun p H1 _ e1 h1 => k p H1 e1 h1
  · obtain ⟨z, hz, rfl⟩ := mem_int hv
    have lt := idx_lt (sub z hz)
    rw [← hlen] at lt
    refine ev_op (y := .int ((lot.idxOf z : Nat) : Int)) (ev_var rfl) (fun H2 e2 Q q => ?_) (rv_ixT (.inl (ex_rd e hr0)) (atI_nat (j := lot.idxOf z) ?_))
    · exact ⟨.ref la, rfl, ⟨la, lob, _, rfl, e2 _ _ (e _ _ hla), hob⟩, .int z, rfl, la, lot, z, lot.idxOf z, rfl, rfl, .inr ⟨lob, e2 _ _ (e _ _ hla)⟩, idx_get (sub z hz), fun m hm => idx_min hm, q H2 (Ex.refl _)⟩
    · rw [List.getElem?_map, List.getElem?_eq_getElem lt]
      show some (V.int _) = some (V.int _)
      rw [List.getD_eq_getElem?_getD, List.getElem?_eq_getElem lt]
      rfl
  · unfold partOf
    rw [List.map_map, List.map_map]
    rfl
abbrev s__law_lt_power : Stmt := top 50
abbrev N__law_lt_power : List Str := ["_law_number", "_law_many", "_law_found", "_law_turn"]
theorem sc__law_lt_power : FnScope N__law_lt_power ["_law_number", "_law_many"] (defScope s__law_lt_power) := ⟨rfl, rfl, rfl, by decide +kernel, rfl, by decide +kernel, by decide +kernel⟩
theorem ok__law_lt_power {f : Addr} {fd : FuncData} (F : Fun K "_law_lt_power" "_law_lt_power" s__law_lt_power f fd) (T : Tx K mg C) : FnOk P w K mg base CX0 1 f fd ["_law_number", "_law_many"] (sp__law_lt_power K C) := by
  refine F.ok sc__law_lt_power (fun vs H Q E h => len_sp2 h) (fun cdv A outer s H vs Q E hr h => ?_)
  obtain ⟨v0, v1, rfl, h⟩ := h
  refine ⟨_, (pss_cons (ps_set (i := 2) sc__law_lt_power.nd rfl (Or.inl rfl) pe_int)
      (pss_cons (ps_for PassesOwn.never rfl (pi_range1 (by rfl) T.range (pa_cons (pv 1) pa_nil)) (pg_name (i := 3) sc__law_lt_power.nd rfl (Or.inl rfl))
        (pss_one (ps_set (i := 2) sc__law_lt_power.nd rfl (Or.inl rfl) (pe_op op_mul (pv 2) (pv 0)))))
      (pss_one (ps_ret (pv 2))))), ?_⟩
  obtain ⟨n, rfl, rfl, hn, k⟩ := h
  refine q_asg (v := .int 1) ev_c fun H1 e1 => ?_
  refine q_forR1 (n := (n : Int)) (ea1 (ev_var rfl)) ⟨by omega, by omega⟩ (fun i σ' H' => (∃ r, σ' = [some (.int 2), some (.int (n : Int)), some (.int ((2 ^ i : Nat) : Int)), r]) ∧ Ex H H') (fun H2 e2 => ⟨⟨none, rfl⟩, e1.trans e2⟩) (fun i σ' H' hi z => ?_) fun σ' H' z => ?_
  · obtain ⟨⟨r, rfl⟩, e⟩ := z
    refine s_asg (ev_op (ev_var rfl) (ev_var rfl) (rv_I (.inr ⟨by decide, by decide⟩))) fun H2 e2 => ⟨⟨some (.int (i : Int)), ?_⟩, e.trans e2⟩
    · have c : ((2 ^ (i + 1) : Nat) : Int) = ((2 ^ i : Nat) : Int) * 2 := by rw [Nat.pow_succ]; push_cast; rfl
      rw [c]
      rfl
  · obtain ⟨⟨r, rfl⟩, e⟩ := z
    exact s_ret (ev_var rfl) fun H2 e2 => k H2 (e.trans e2)
abbrev s__law_lt_least : Stmt := top 51
abbrev N__law_lt_least : List Str := ["_law_number", "_law_found", "_law_power"]
theorem sc__law_lt_least : FnScope N__law_lt_least ["_law_number"] (defScope s__law_lt_least) := ⟨rfl, rfl, rfl, by decide +kernel, rfl, by decide +kernel, by decide +kernel⟩
theorem ok__law_lt_least {f : Addr} {fd : FuncData} (F : Fun K "_law_lt_least" "_law_lt_least" s__law_lt_least f fd) (T : Tx K mg C) : FnOk P w K mg base CX0 1 f fd ["_law_number"] (sp__law_lt_least K C) := by
  refine F.ok sc__law_lt_least (fun vs H Q E h => len_sp1 h) (fun cdv A outer s H vs Q E hr h => ?_)
  obtain ⟨v0, rfl, h⟩ := h
  refine ⟨_, (pss_cons (ps_asg (pe_tup (pa_cons pe_int (pa_cons pe_int pa_nil))) (k_gt (K := K) (n := 2) rfl rfl (pgs_cons (pg_name (i := 1) sc__law_lt_least.nd rfl (Or.inl rfl)) (pgs_cons (pg_name (i := 2) sc__law_lt_least.nd rfl (Or.inl rfl)) pgs_nil))))
      (pss_cons (ps_while PassesOwn.never (pt_cmpR op_lt (pv 2) (pv 0) (nomark _)) (pss_one (ps_par (i := 1) (j := 2) rfl sc__law_lt_least.nd rfl rfl (by decide) rfl rfl (pa_cons (pe_op op_add (pv 1) pe_int) (pa_cons (pe_op op_mul pe_int (pv 2)) pa_nil)) (by rfl))))
      (pss_one (ps_ret (pv 1))))), ?_⟩
  obtain ⟨n, rfl, hn, k⟩ := h
  refine q_asgG (evp_tuU (eu_tup (ea2 ev_c ev_c) (by decide))) fun v H1 e1 z => ?_
  obtain ⟨p, rfl, hp⟩ := z
  refine ⟨p, _, rfl, .inl hp, rfl, _, _, rfl, _, _, rfl, rfl, ?_⟩
  refine q_while (fun m σ' H' => ∃ j : Nat, σ' = [some (.int (n : Int)), some (.int (j : Int)), some (.int ((2 ^ j : Nat) : Int))] ∧ m = 7 - j ∧ j ≤ 6 ∧ Ex H H') 7 ⟨0, rfl, rfl, by decide, e1⟩ fun m σ' H' z => ?_
  obtain ⟨j, rfl, rfl, hj, e⟩ := z
  refine ⟨decide (2 ^ j < n), et_is (et_test (ev_op (ev_var rfl) (ev_var rfl) rv_I0)) (decide_eq_decide.mpr (by omega)), fun hb H2 e2 => ?_, fun hb H2 e2 => ?_⟩
  · have hb := of_decide_eq_true hb
    have hj5 : j ≤ 5 := by
      by_cases h : j ≤ 5
      · exact h
      · have e6 : j = 6 := by omega
        rw [e6] at hb
        have : (2 : Nat) ^ 6 = 64 := by decide
        omega
    refine ⟨fun σ2 H3 => σ2 = [some (.int (n : Int)), some (.int ((j + 1 : Nat) : Int)), some (.int ((2 ^ (j + 1) : Nat) : Int))] ∧ Ex H H3, fun σ2 H3 z => ⟨7 - (j + 1), by omega, j + 1, z.1, rfl, by omega, z.2⟩, ?_⟩
    refine (ea2 (ev_op (ev_var rfl) ev_c rv_I0) (ev_op ev_c (ev_var rfl) (rv_I (.inl ⟨by decide, by decide⟩)))) H2 (Ex.refl _) _ fun H3 e3 => ⟨_, _, rfl, ?_, (e.trans e2).trans e3⟩
    have c : ((2 ^ (j + 1) : Nat) : Int) = 2 * ((2 ^ j : Nat) : Int) := by rw [Nat.pow_succ]; push_cast; rw [Int.mul_comm]
    have c2 : ((j + 1 : Nat) : Int) = (j : Int) + 1 := by push_cast; rfl
    rw [c, c2]
    rfl
  · have hb := of_decide_eq_false hb
    exact s_ret (ev_var rfl) fun H3 e3 => k j hj (by omega) H3 ((e.trans e2).trans e3)
theorem evp_max {K : PySem.W.Frag} {σ : L2.St} {H : Hp} {te : TE} {ns : List Int} (h : EvL te σ H (ns.map V.int)) (hn : 0 < ns.length) : EvP (tCB (rMax K) (tCons te tNil)) σ H fun v _ => ∃ m, v = .int m ∧ m ∈ ns ∧ ∀ y ∈ ns, y ≤ m := fun H1 e Q q => h H1 e _ fun p H2 hp e2 h2 =>
  ⟨p, ns, rfl, sq_of h2, hn, fun m h1 h3 => q _ H2 e2 ⟨m, rfl, h1, h3⟩⟩
theorem el_cat {σ : L2.St} {H : Hp} {ta tb : TE} {xs ys : List V} (ha : EvL ta σ H xs) (hb : ∀ H1, Ex H H1 → EvL tb σ H1 ys) (hz : xs.length + ys.length ≤ 100000) : EvL (tOp rCat ta tb) σ H (xs ++ ys) := fun H1 e Q q => ha H1 e _ fun p H2 hp e2 h2 => hb H2 (e.trans e2) H2 (Ex.refl _) _ fun p2 H3 hp2 e3 h3 =>
  ⟨p, p2, xs, ys, rfl, rfl, e3 _ _ h2, h3, sz_of hz, fun l hl => q l _ (fresh_back (e2.trans e3) hl) ((e2.trans e3).trans (Ex.new hl)) upd_same⟩
theorem el_vals {σ : L2.St} {H : Hp} {td : TE} {d : Addr} {f : Rw → V} {ks : List Rw} (h : Ev td σ H (.ref d)) (hd : H d = some (.dT (tab f ks))) : EvL (tListVals td) σ H (ks.map f) := fun H1 e Q q => h H1 e _ fun H2 e2 =>
  ⟨d, _, rfl, e2 _ _ (e _ _ hd), fun p hp => q p _ (fresh_back e2 hp) (e2.trans (Ex.new hp)) (by rw [upd_same, tab_vals])⟩
theorem parts_snoc {lot low : Rw} {rows : List Rw} {i : Nat} {r : Rw} (h : rows[i]? = some r) : parts lot low (rows.take (i + 1)) = parts lot low (rows.take i) ++ [partOf lot low r] := by
  rw [List.take_add_one, h]
  unfold parts
  rw [List.map_append]
  rfl
theorem count_snoc (l : List Rw) (p q : Rw) : (l ++ [p]).count q = l.count q + if q = p then 1 else 0 := by
  rw [List.count_append]
  congr 1
  by_cases h : q = p
  · rw [if_pos h, h]
    simp
  · rw [if_neg h, List.count_singleton]
    have : (p == q) = false := beq_eq_false_iff_ne.mpr (Ne.symm h)
    rw [this]
    rfl
theorem count_out {l : List Rw} {p : Rw} (h : p ∉ dist l) : l.count p = 0 := List.count_eq_zero.mpr fun z => h ((mem_dist l).mpr z)
abbrev s__law_is_few : Stmt := top 52
abbrev N__law_is_few : List Str := ["_law_rows", "_law_lot", "_law_low", "_law_k", "_law_j", "_law_counts", "_law_row", "_law_below"]
theorem sc__law_is_few : FnScope N__law_is_few ["_law_rows", "_law_lot", "_law_low", "_law_k", "_law_j"] (defScope s__law_is_few) := ⟨rfl, rfl, rfl, by decide +kernel, rfl, by decide +kernel, by decide +kernel⟩
theorem ok__law_is_few {f : Addr} {fd : FuncData} (F : Fun K "_law_is_few" "_law_is_few" s__law_is_few f fd) (T : Tx K mg C) {f__law_part : Addr} (D__law_part : Df P w K mg base "_law_part" f__law_part 1 (sp__law_part K C)) {f__law_lt_power : Addr} (D__law_lt_power : Df P w K mg base "_law_lt_power" f__law_lt_power 1 (sp__law_lt_power K C)) : FnOk P w K mg base CX0 2 f fd ["_law_rows", "_law_lot", "_law_low", "_law_k", "_law_j"] (sp__law_is_few K C) := by
  refine F.ok sc__law_is_few (fun vs H Q E h => len_sp5 h) (fun cdv A outer s H vs Q E hr h => ?_)
  obtain ⟨v0, v1, v2, v3, v4, rfl, h⟩ := h
  refine ⟨_, (pss_cons (ps_set (i := 5) sc__law_is_few.nd rfl (Or.inl rfl) pe_dnewT)
      (pss_cons (ps_for PassesOwn.never rfl (k_pit (K := K) rfl (pv 0)) (pg_name (i := 6) sc__law_is_few.nd rfl (Or.inl rfl))
        (pss_cons (ps_set (i := 7) sc__law_is_few.nd rfl (Or.inl rfl) (pe_d D__law_part hr (by decide) (pa_cons (pv 6) (pa_cons (pv 1) (pa_cons (pv 2) pa_nil)))))
      (pss_one (ps_dput (hu_of hr) (pv 5) (pv 7) (pe_op op_add (pe_dget2 (hu_of hr) (pv 5) (pv 7) pe_int ⟨rfl, rfl, rfl, rfl⟩) pe_int) rfl))))
      (pss_one (ps_ret (pe_and (pe_cmpR op_le (pe_callB call_len_dT (by rfl) T.len PySem.boot_len (pa_cons (pv 5) pa_nil)) (pe_d D__law_lt_power hr (by decide) (pa_cons pe_int (pa_cons (pe_op op_sub (pv 3) (pv 4)) pa_nil))) (nomark _)) (pe_one (pe_cmpR op_le (pe_callB (k_max (K := K) rfl) (by rfl) T.max (by decide +kernel) (pa_cons (pe_op op_cat (pe_lst (pa_cons pe_int pa_nil)) (pe_listVals rfl (pv 5) T.list)) pa_nil)) (pe_d D__law_lt_power hr (by decide) (pa_cons pe_int (pa_cons (pv 4) pa_nil))) (nomark _)))))))), ?_⟩
  obtain ⟨rows, lot, low, kk, j, ⟨ra, as, rfl, hra, hrows⟩, hlot, hlow, rfl, rfl, hk, hj, hn, hrl, hll, sub, k⟩ := h
  have len := hrows.len
  refine q_asgP evp_dnew fun v H1 e1 z => ?_
  obtain ⟨cd, rfl, f1, hcd⟩ := z
  have old : ∀ x o, H x = some o → x ≠ cd := fun x o q => ne_of_none q f1
  refine q_forT (ev_var rfl) (st_of (e1 _ _ hra)) (fun i σ' H' => (∃ r6 r7, σ' = [some (.ref ra), some v1, some v2, some (.int (kk : Int)), some (.int (j : Int)), some (.ref cd), r6, r7]) ∧ Xm (· = cd) H1 H' ∧
    H' cd = some (.dT (tab (fun p => .int (((parts lot low (rows.take i)).count p : Nat) : Int)) (dist (parts lot low (rows.take i)))))) (fun H2 e2 => ⟨⟨none, none, rfl⟩, xm_ex e2, e2 _ _ hcd⟩) (fun i σ' H' hi z => st_of (z.2.1.1 _ _ (old _ _ hra) (e1 _ _ hra))) (fun i x σ' H' hx z => ?_) fun σ' H' z => ?_
  · obtain ⟨⟨r6, r7, rfl⟩, xm, hd⟩ := z
    rw [List.getElem?_map] at hx
    obtain ⟨t, ht, rfl⟩ := Option.map_eq_some_iff.mp hx
    obtain ⟨r, hr', hht⟩ := hrows.get ht
    have hin : ∀ a o, H a = some o → H' a = some o := fun a o q => xm.1 _ _ (old _ _ q) (e1 _ _ q)
    have ex : Ex H H' := hin
    have hps := parts_snoc (lot := lot) (low := low) hr'
    refine q_asgP (P := fun v H2 => ∃ p, v = .ref p ∧ H2 p = some (.tup ((partOf lot low r).map V.int))) (evp_def (ea3 (ev_var rfl) (ev_var rfl) (ev_var rfl)) (spp3 fun H2 e2 Q q => ⟨r, lot, low, ⟨t, rfl, .inl (e2 _ _ (hin _ _ hht))⟩, hlot.mono (fz_of (ex.trans e2)), hlow.mono (fz_of (ex.trans e2)), hrl r (List.mem_of_getElem? hr'), hll, sub, fun p H3 e3 h => q _ H3 e3 ⟨p, rfl, h⟩⟩)) fun v H2 e2 z => ?_
    obtain ⟨pt, rfl, hpt⟩ := z
    have hd2 := e2 _ _ hd
    have dl := dist_len (parts lot low (rows.take i))
    have dl2 : (parts lot low (rows.take i)).length = (rows.take i).length := List.length_map _
    rw [List.length_take] at dl2
    -- counts[below] = counts.get(below, 0) + 1
    refine ⟨.ref cd, rfl, cd, rfl, .inr ⟨_, .inl hd2⟩, .ref pt, rfl, _, dget_tab hd2 hpt, ?_⟩
    have val : ((if partOf lot low r ∈ dist (parts lot low (rows.take i)) then some (V.int (((parts lot low (rows.take i)).count (partOf lot low r) : Nat) : Int)) else none).getD (V.int 0)) = V.int (((parts lot low (rows.take i)).count (partOf lot low r) : Nat) : Int) := by
      by_cases h : partOf lot low r ∈ dist (parts lot low (rows.take i))
      · rw [if_pos h]
        rfl
      · rw [if_neg h, count_out h]
        rfl
    rw [val]
    refine ⟨_, _, rfl, rfl, .ref cd, rfl, .ref pt, rfl, cd, _, rfl, DPut.t (k := keyR (partOf lot low r)) hd2 (by rw [keyR_kV]; exact hpt) (sz_lt (by rw [tab_len]; omega)), ⟨_, _, rfl⟩, xm_upd rfl (xm_trans xm (xm_ex e2)), ?_⟩
    rw [upd_same, putK_tab, hps, dist_snoc]
    congr 2
    refine tab_congr fun q _ => ?_
    rw [count_snoc]
    by_cases h : q = partOf lot low r
    · rw [if_pos h, if_pos h, h]
      push_cast
      rfl
    · rw [if_neg h, if_neg h, Nat.add_zero]
  · obtain ⟨⟨r6, r7, rfl⟩, xm, hd⟩ := z
    rw [List.length_map, len, List.take_length] at hd
    have ex : Ex H H' := fun a o q => xm.1 _ _ (old _ _ q) (e1 _ _ q)
    have dl := dist_len (parts lot low rows)
    have dl2 : (parts lot low rows).length = rows.length := List.length_map _
    have hfit : fit lot low kk j rows = (decide ((dist (parts lot low rows)).length ≤ 2 ^ (kk - j)) && (dist (parts lot low rows)).all fun p => decide ((parts lot low rows).count p ≤ 2 ^ j)) := rfl
    refine s_ret (v := .bl (fit lot low kk j rows)) (ev_is (ev_andV (ev_op (ev_lenD (ev_var rfl) hd) (ev_def (ea2 ev_c (ev_op (ev_var rfl) (ev_var rfl) rv_I0)) (spv2 fun H2 e2 Q k => ⟨kk - j, rfl, by rw [show (kk : Int) - (j : Int) = ((kk - j : Nat) : Int) by omega], by omega, k⟩)) rv_I0) fun _ =>
      ev_opPP (P2 := fun v _ => v = .int ((2 ^ j : Nat) : Int)) (z := .bl ((dist (parts lot low rows)).all fun p => decide ((parts lot low rows).count p ≤ 2 ^ j))) (evp_max (ns := 0 :: (dist (parts lot low rows)).map fun p => (((parts lot low rows).count p : Nat) : Int)) (el_is (el_cat (el_lst (ea1 ev_c) (by show 1 ≤ 100000; decide)) (fun H2 e2 => el_vals (ev_var rfl) (e2 _ _ hd)) ?_) ?_) (by simp)) (fun H2 e2 => evp_of (ev_def (ea2 ev_c (ev_var rfl)) (spv2 fun H3 e3 Q k => ⟨j, rfl, rfl, by omega, k⟩)) fun _ _ => rfl) (fun _ _ _ _ z => z) fun x y H2 h1 h2 => ?_) ?_) fun H2 e2 => k H2 (ex.trans e2)
    · rw [List.length_map, List.length_singleton]
      omega
    · rw [List.map_cons, List.map_map]
      rfl
    · obtain ⟨m, rfl, hm, hmax⟩ := h1
      subst h2
      have e : ((dist (parts lot low rows)).all fun p => decide ((parts lot low rows).count p ≤ 2 ^ j)) = decide (m ≤ ((2 ^ j : Nat) : Int)) := by
        rw [Bool.eq_iff_iff, List.all_eq_true, decide_eq_true_eq]
        constructor
        · intro h
          rcases List.mem_cons.mp hm with rfl | hm
          · exact Int.natCast_nonneg _
          · obtain ⟨p, hp, rfl⟩ := List.mem_map.mp hm
            have := of_decide_eq_true (h p hp)
            omega
        · intro h p hp
          have := hmax _ (List.mem_cons_of_mem _ (List.mem_map.mpr ⟨p, hp, rfl⟩))
          exact decide_eq_true (by omega)
      rw [e]
      exact rv_I0
    · rw [hfit]
      congr 2
      exact decide_eq_decide.mpr (by omega)
end
end Q44
namespace Q44
open PySem PySem.Spec PyProof.Rows L2 M44 Evl
section
variable {P : Program} {w : World} {K : PySem.W.Frag} {mg : Str → Option Value} {base : Heap} {C : Addr}
section
variable {K : PySem.W.Frag} {C : Addr} {σ : L2.St} {H : Hp} {ta te : TE} {tA : TA} {sp : Sp} {E : XK} {z : V} {a : Addr} {lot : Rw} {rows : List Rw}
theorem ev_defA {Pa : List V → Hp → Prop} (h : EvPA tA σ H Pa) (hs : ∀ vs H1, Ex H H1 → Pa vs H1 → SpV sp vs H1 z) : Ev (tDef sp E tA) σ H z := fun H1 e Q q =>
  h H1 e _ fun vs H2 e2 p => hs vs H2 (e.trans e2) p H2 (Ex.refl H2) Q (fun H3 e3 => q H3 (e2.trans e3)) E
theorem evp_lot (h : Ev ta σ H (.ref a)) (ht : TabAt C H a lot rows) : EvP (SlX.tPropSl C (sp_T_lot K C) E0 ta) σ H fun v H2 => LT H2 v lot := fun H1 e Q q => h H1 e _ fun H2 e2 => by
  have ht2 := ht.mono (fz_of (e.trans e2))
  obtain ⟨dx, ok, ws, la, ra, as, hs, _⟩ := id ht2
  exact ⟨a, dx, ws, rfl, hs, _, rfl, lot, rows, ⟨a, rfl, ht2⟩, fun v H3 e3 g => q v H3 (e2.trans e3) g⟩
theorem evp_rows (h : Ev ta σ H (.ref a)) (ht : TabAt C H a lot rows) : EvP (SlX.tPropSl C (sp_T_rows K C) E0 ta) σ H fun v H2 => RowsT H2 v rows := fun H1 e Q q => h H1 e _ fun H2 e2 => by
  have ht2 := ht.mono (fz_of (e.trans e2))
  obtain ⟨dx, ok, ws, la, ra, as, hs, _⟩ := id ht2
  exact ⟨a, dx, ws, rfl, hs, _, rfl, lot, rows, ⟨a, rfl, ht2⟩, fun v H3 e3 g => q v H3 (e2.trans e3) g⟩
theorem ev_lenO (h : Ev ta σ H (.ref a)) (ht : TabAt C H a lot rows) (hn : rows.length ≤ 100000) : Ev (tCB (rLenOwn C (sp_T_len K C)) (tCons ta tNil)) σ H (.int (rows.length : Nat)) := fun H1 e Q q => h H1 e _ fun H2 e2 => by
  have ht2 := ht.mono (fz_of (e.trans e2))
  obtain ⟨dx, ok, ws, la, ra, as, hs, _⟩ := id ht2
  exact ⟨a, dx, ws, rfl, hs, _, rfl, lot, rows, ⟨a, rfl, ht2⟩, fun H3 e3 => ⟨rows.length, rfl, by omega, q H3 (e2.trans e3)⟩⟩
end
theorem s_extP {K : PySem.W.Frag} {σ : L2.St} {H : Hp} {ta te : TE} {D : Ends} {P : V → Hp → Prop} {l : Addr} {xs : List V} (hl : H l = some (.lst xs)) (ha : Ev ta σ H (.ref l)) (h : EvP te σ H P)
    (k : ∀ v H1, Ex H H1 → P v H1 → ∃ b zs, v = .ref b ∧ H1 b = some (.lst zs) ∧ xs.length + zs.length ≤ 100000 ∧ D.nx σ (upd H1 l (.lst (xs ++ zs)))) : tDrop (tBM K "list" rExtend ta (tCons te tNil)) D σ H :=
  ha H (Ex.refl H) _ fun H1 e1 => ⟨Or.inl ⟨rfl, xs, sq_of (e1 l _ hl)⟩, h H1 e1 _ fun v H2 e2 p => by
    obtain ⟨b, zs, rfl, hb, hz, q⟩ := k v H2 (e1.trans e2) p
    exact ⟨l, b, xs, zs, rfl, rfl, e2 l _ (e1 l _ hl), hb, sz_of hz, q⟩⟩
theorem rowsP_snoc (ps : List Pc) (q : Pc) : rowsP (ps ++ [q]) = rowsP ps ++ q.2.2 := by
  unfold rowsP
  rw [List.flatMap_append]
  simp
theorem rowsP_len (ps : List Pc) : (rowsP ps).length = totR ps := by
  unfold rowsP totR
  rw [List.length_flatMap]
theorem totR_mem {ps : List Pc} {q : Pc} (h : q ∈ ps) : q.2.2.length ≤ totR ps := by
  induction ps with
  | nil => cases h
  | cons a l ih =>
    unfold totR at ih ⊢
    rw [List.map_cons, List.sum_cons]
    rcases List.mem_cons.mp h with rfl | z
    · omega
    · have := ih z
      omega
theorem totR_take (ps : List Pc) (n : Nat) : totR (ps.take n) ≤ totR ps := by
  have e : totR (ps.take n) + totR (ps.drop n) = totR ps := by
    unfold totR
    rw [← List.sum_append, ← List.map_append, List.take_append_drop]
  omega
theorem parted_no {lot low : Rw} {rows : List Rw} {k : Nat} {ps : List Pc} {q : Pc} (h : q ∈ ps) (hq : pieceB lot low k q = false) : partedB lot low rows k ps = false := by
  unfold partedB
  have z : ps.all (pieceB lot low k) = false := List.all_eq_false.mpr ⟨q, h, by rw [hq]; exact Bool.false_ne_true⟩
  rw [z, Bool.and_false, Bool.false_and]
abbrev s__law_are_pieces : Stmt := top 53
abbrev N__law_are_pieces : List Str := ["_law_rows", "_law_lot", "_law_low", "_law_k", "_law_value", "_law_found", "_law_j", "_law_piece"]
theorem sc__law_are_pieces : FnScope N__law_are_pieces ["_law_rows", "_law_lot", "_law_low", "_law_k", "_law_value"] (defScope s__law_are_pieces) := ⟨rfl, rfl, rfl, by decide +kernel, rfl, by decide +kernel, by decide +kernel⟩
theorem ok__law_are_pieces {f : Addr} {fd : FuncData} (F : Fun K "_law_are_pieces" "_law_are_pieces" s__law_are_pieces f fd) (T : Tx K mg C) {f_T_len : Addr} (D_T_len : OwD P w K mg base C "__len__" f_T_len 1 (sp_T_len K C)) {f_T_lot p_T_lot : Addr} (D_T_lot : PrD P w K mg base C "lot" p_T_lot f_T_lot 1 (sp_T_lot K C)) {f__law_is_few : Addr} (D__law_is_few : Df P w K mg base "_law_is_few" f__law_is_few 2 (sp__law_is_few K C)) {f_T_rows p_T_rows : Addr} (D_T_rows : PrD P w K mg base C "rows" p_T_rows f_T_rows 1 (sp_T_rows K C)) : FnOk P w K mg base CX0 3 f fd ["_law_rows", "_law_lot", "_law_low", "_law_k", "_law_value"] (sp__law_are_pieces K C) := by
  refine F.ok sc__law_are_pieces (fun vs H Q E h => len_sp5 h) (fun cdv A outer s H vs Q E hr h => ?_)
  obtain ⟨v0, v1, v2, v3, v4, rfl, h⟩ := h
  refine ⟨_, (pss_cons (ps_if (pt_cmpR op_gt (pe_callB (k_len (K := K) rfl) (by rfl) T.len PySem.boot_len (pa_cons (pv 4) pa_nil)) (pe_op op_add (pe_op op_mul pe_int (pv 3)) pe_int) (nomark _)) (pss_one (ps_ret pe_bl)) pss_nil)
      (pss_cons (ps_set (i := 5) sc__law_are_pieces.nd rfl (Or.inl rfl) (pe_lst pa_nil))
      (pss_cons (ps_for PassesOwn.never rfl (k_pit (K := K) rfl (pv 4)) (k_gt (K := K) (n := 2) rfl rfl (pgs_cons (pg_name (i := 6) sc__law_are_pieces.nd rfl (Or.inl rfl)) (pgs_cons (pg_name (i := 7) sc__law_are_pieces.nd rfl (Or.inl rfl)) pgs_nil)))
        (pss_cons (ps_if ((pw_or (pt_val (pe_callB (k_isB (K := K) rfl T.is) (by rfl) T.isinstance (by decide +kernel) (pa_cons (pv 6) (pa_cons (pe_bltn (v := .ty "bool") (by rfl) T.m_bool boot_bool rfl) pa_nil)))) (pw_or (pt_not (pt_val (pe_callB (k_isI (K := K) rfl T.is) (by rfl) T.isinstance (by decide +kernel) (pa_cons (pv 6) (pa_cons (pe_bltn (v := .ty "int") (by rfl) T.m_int boot_int rfl) pa_nil))))) (pw_or (pt_not (pt_chain op_le op_le pe_int (pv 6) (pv 3))) (pw_or (pt_cmpR (k_neD (K := K) rfl hr.units) (k_prop D_T_lot T.is.sc hr (by decide) (pv 7)) (pv 1) (nomark _)) (pw_or1 (pt_cmpR op_eq (pe_callB (k_lenO D_T_len hr (by decide)) (by rfl) T.len PySem.boot_len (pa_cons (pv 7) pa_nil)) pe_int (nomark _))))))).pt) (pss_one (ps_ret pe_bl)) pss_nil)
      (pss_cons (ps_if (pt_not (pt_val (pe_d D__law_is_few hr (by decide) (pa_cons (k_prop D_T_rows T.is.sc hr (by decide) (pv 7)) (pa_cons (pv 1) (pa_cons (pv 2) (pa_cons (pv 3) (pa_cons (pv 6) pa_nil)))))))) (pss_one (ps_ret pe_bl)) pss_nil)
      (pss_one (ps_expr (k_bm (K := K) rfl PySem.F.plainAttrs_list PySem.F.slot_list_extend PySem.F.type_list_extend mt_extend (pv 5) (pa_cons (pe_callTy (k_list (K := K) rfl) (by rfl) T.m_list boot_list (pa_cons (k_prop D_T_rows T.is.sc hr (by decide) (pv 7)) pa_nil)) pa_nil)))))))
      (pss_one (ps_ret (pe_cmpR (k_eqD (K := K) rfl hr.units) (pe_callB (k_sortL (K := K) rfl) (by rfl) T.sorted (by decide +kernel) (pa_cons (pv 5) pa_nil)) (pe_callTy (k_list (K := K) rfl) (by rfl) T.m_list boot_list (pa_cons (pv 0) pa_nil)) (nomark _))))))), ?_⟩
  obtain ⟨rows, lot, low, kk, ps, ⟨ra, as, rfl, hra, hrows⟩, hlot, hlow, rfl, ⟨t, vs, rfl, htv, hp, hj, h64, hpn⟩, hk, hn, hl1, hll, llo, hro, sub, k⟩ := h
  have len : vs.length = ps.length := Paired.length hp
  refine q_when (b := decide (2 * kk + 1 < vs.length)) (et_is (et_test (ev_op (ev_lenT (ev_var rfl) (.inl htv)) (ev_op (ev_op ev_c (ev_var rfl) (rv_I (.inl ⟨by decide, by decide⟩))) ev_c rv_I0) rv_I0)) (decide_eq_decide.mpr (by omega))) (fun hb H1 e1 => ?_) fun hb H1 e1 => ?_
  · refine s_ret (v := .bl false) ev_c fun H2 e2 => ?_
    have hb := of_decide_eq_true hb
    have e : partedB lot low rows kk ps = false := by
      unfold partedB
      rw [decide_eq_false (by omega)]
      rfl
    rw [e] at k
    exact k H2 (e1.trans e2)
  have hb := of_decide_eq_false hb
  refine q_asgP (evp_L (el_lst ea_nil (by decide))) fun v H2 e2 z => ?_
  obtain ⟨fl, rfl, f1, hfl⟩ := z
  have e12 := e1.trans e2
  have old : ∀ x o, H x = some o → x ≠ fl := fun x o q => ne_of_none (e1 _ _ q) f1
  have lift : ∀ {H' : Hp}, Xm (· = fl) H2 H' → Ex H H' := fun xm a o q => xm.1 _ _ (old _ _ q) (e12 _ _ q)
  refine q_forT (ev_var rfl) (st_of (e12 _ _ htv)) (fun i σ' H' => (∃ r6 r7, σ' = [some (.ref ra), some v1, some v2, some (.int (kk : Int)), some (.ref t), some (.ref fl), r6, r7]) ∧ Xm (· = fl) H2 H' ∧ (∃ as, H' fl = some (.lst (as.map V.ref)) ∧ RowsA H' as (rowsP (ps.take i))) ∧ (ps.take i).all (pieceB lot low kk) = true)
    (fun H3 e3 => ⟨⟨none, none, rfl⟩, xm_ex e3, ⟨[], e3 _ _ hfl, .nil⟩, rfl⟩) (fun i σ' H' hi z => st_of (lift z.2.1 _ _ htv)) (fun i x σ' H' hx z => ?_) fun σ' H' z => ?_
  · obtain ⟨⟨r6, r7, rfl⟩, xm, ⟨bs, hbs, hrb⟩, hall⟩ := z
    have ex := lift xm
    obtain ⟨q, hq, p, tt, rfl, hpp, htt⟩ := L2.paired_get hp hx
    have qm := List.mem_of_getElem? hq
    refine ⟨p, _, rfl, st_of (ex _ _ hpp), rfl, _, _, rfl, _, _, rfl, rfl, ?_⟩
    have tt' : TabAt C H' tt q.2.1 q.2.2 := htt.mono (fz_of ex)
    have ql := totR_mem qm
    have no : pieceB lot low kk q = false → ∀ H3, Ex H' H3 → Q (.bl false) H3 := fun hq0 H3 e3 => by
      rw [parted_no (rows := rows) qm hq0] at k
      exact k H3 (ex.trans e3)
    obtain ⟨j, plot, prows⟩ := q
    rcases hj _ qm with ⟨i0, hi0⟩ | ⟨b0, hb0⟩
    · cases (show j = .int i0 from hi0)
      refine q_when (b := !(decide (0 ≤ i0) && decide (i0 ≤ (kk : Int))) || (!decide (plot = lot) || decide (V.int ((prows.length : Nat) : Int) = V.int 0))) (et_is (et_or (a := false) (et_B (ev_isB (b := false) (ev_var rfl) (.int i0))) fun _ => et_or (a := false) (et_is (et_not (a := true) (et_B (ev_isI (b := true) (ev_var rfl) (.int i0)))) rfl) fun _ =>
        et_or (et_not (et_test (ev_chain ev_c (ev_var rfl) rv_I0 (fun _ => ev_var rfl) fun _ => rv_I0))) fun _ => et_or (et_test (ev_opPP (P1 := fun v H => LT H v plot) (P2 := fun v H => IT H v lot) (evp_lot (ev_var rfl) tt') (fun H3 e3 => evp_of (ev_var rfl) fun H4 e4 => hlot.it.mono (fz_of (ex.trans (e3.trans e4)))) (fun v H1 H2 e z => z.mono (fz_of e)) fun x y H3 h1 h2 => rv_neI h1.it h2)) fun _ =>
          et_test (ev_op (ev_lenO (ev_var rfl) tt' (by show prows.length ≤ 100000; have : prows.length ≤ totR ps := ql; omega)) ev_c (rv_eq rfl))) (by rw [Bool.false_or, Bool.false_or])) (fun hb3 H3 e3 => ?_) fun hb3 H3 e3 => ?_
      · refine s_ret (v := .bl false) ev_c fun H4 e4 => no ?_ H4 (e3.trans e4)
        unfold pieceB
        show (decide (0 ≤ i0 ∧ i0 ≤ (kk : Int)) && decide (plot = lot) && !prows.isEmpty && fit lot low kk i0.toNat prows) = false
        by_cases c1 : 0 ≤ i0 ∧ i0 ≤ (kk : Int)
        · by_cases c2 : plot = lot
          · rw [decide_eq_true c1.1, decide_eq_true c1.2, decide_eq_true c2] at hb3
            have c3 : prows = [] := by
              have z := of_decide_eq_true (show decide (V.int ((prows.length : Nat) : Int) = V.int 0) = true by simpa using hb3)
              have z := V.int.inj z
              exact List.eq_nil_of_length_eq_zero (by omega)
            rw [c3]
            simp
          · rw [decide_eq_false c2, Bool.and_false]
            rfl
        · rw [decide_eq_false c1]
          rfl
      have hb4 : (0 ≤ i0 ∧ i0 ≤ (kk : Int)) ∧ plot = lot ∧ prows ≠ [] := by
        refine ⟨⟨?_, ?_⟩, ?_, ?_⟩
        · by_cases c : 0 ≤ i0
          · exact c
          · rw [decide_eq_false c] at hb3
            cases hb3
        · by_cases c : i0 ≤ (kk : Int)
          · exact c
          · rw [decide_eq_false c, Bool.and_false] at hb3
            cases hb3
        · by_cases c : plot = lot
          · exact c
          · rw [decide_eq_false c] at hb3
            simp at hb3
        · intro c
          rw [c] at hb3
          have e0 : decide (V.int ((([] : List Rw).length : Nat) : Int) = V.int 0) = true := decide_eq_true rfl
          rw [e0] at hb3
          simp at hb3
      obtain ⟨⟨c1, c2⟩, rfl, c3⟩ := hb4
      obtain ⟨i1, rfl⟩ : ∃ i1 : Nat, i0 = (i1 : Int) := ⟨i0.toNat, by omega⟩
      have pB : pieceB plot low kk (.int (i1 : Int), plot, prows) = fit plot low kk i1 prows := by
        unfold pieceB
        show (decide (0 ≤ (i1 : Int) ∧ (i1 : Int) ≤ (kk : Int)) && decide (plot = plot) && !prows.isEmpty && fit plot low kk (i1 : Int).toNat prows) = _
        rw [decide_eq_true ⟨c1, c2⟩, decide_eq_true rfl, Int.toNat_natCast]
        cases prows with
        | nil => exact absurd rfl c3
        | cons _ _ => rfl
      have ex3 := ex.trans e3
      have ok2 : TOk plot prows := by
        obtain ⟨dx, g⟩ := tt'
        exact g.1
      refine q_when (b := !fit plot low kk i1 prows) (et_not (et_B (ev_defA (Pa := fun us H4 => ∃ u, us = [u, v1, v2, .int (kk : Int), .int (i1 : Int)] ∧ RowsT H4 u prows) (eap_cons (evp_rows (ev_var rfl) (tt'.mono (fz_of e3))) fun u H4 e4 z => eap_cons (evp_of (P := fun v _ => v = v1) (ev_var rfl) fun _ _ => rfl) fun u1 H5 e5 z1 => eap_cons (evp_of (P := fun v _ => v = v2) (ev_var rfl) fun _ _ => rfl) fun u2 H6 e6 z2 => eap_cons (evp_of (P := fun v _ => v = .int (kk : Int)) (ev_var rfl) fun _ _ => rfl) fun u3 H7 e7 z3 =>
        eap_cons (evp_of (P := fun v _ => v = .int (i1 : Int)) (ev_var rfl) fun _ _ => rfl) fun u4 H8 e8 z4 => eap_nil fun H9 e9 => ?_) fun us H4 e4 z => ?_))) (fun hb5 H4 e4 => ?_) fun hb5 H4 e4 => ?_
      · subst z1 z2 z3 z4
        exact ⟨u, rfl, z.mono (fz_of ((((e5.trans e6).trans e7).trans e8).trans e9))⟩
      · obtain ⟨u, rfl, hu⟩ := z
        exact spv5 fun H5 e5 Q k => ⟨prows, plot, low, kk, i1, hu.mono (fz_of e5), hlot.mono (fz_of ((ex3.trans e4).trans e5)), hlow.mono (fz_of ((ex3.trans e4).trans e5)), rfl, rfl, hk, by omega, by have : prows.length ≤ totR ps := ql; omega, fun r hr' => (ok2.ro r hr').1, hll, sub, k⟩
      · refine s_ret (v := .bl false) ev_c fun H5 e5 => no ?_ H5 ((e3.trans e4).trans e5)
        rw [pB]
        simpa using hb5
      have hfit : fit plot low kk i1 prows = true := by simpa using hb5
      have e34 := e3.trans e4
      -- found.extend(list(piece.rows))
      refine s_extP (e34 _ _ hbs) (ev_var rfl) (evp_listT (evp_rows (ev_var rfl) (tt'.mono (fz_of e34)))) fun u H5 e5 hu => ?_
      · obtain ⟨b, cs, rfl, hb6, hrc⟩ := hu
        have e35 := e34.trans e5
        have tk : ps.take (i + 1) = ps.take i ++ [(.int (i1 : Int), plot, prows)] := by rw [List.take_add_one, hq]; rfl
        have t1 := totR_take ps (i + 1)
        rw [tk, totR_app] at t1
        have l1 := hrb.len
        rw [rowsP_len] at l1
        refine ⟨b, cs.map V.ref, rfl, hb6, ?_, ⟨_, _, rfl⟩, xm_upd rfl (xm_trans xm (xm_ex e35)), ⟨bs ++ cs, by rw [upd_same, List.map_append], ?_⟩, ?_⟩
        · rw [List.length_map, List.length_map, hrc.len, l1]
          have t2 : totR (ps.take i) + prows.length ≤ totR ps := t1
          omega
        · rw [tk, rowsP_snoc]
          have fz := fz_upd (o := .lst (bs.map V.ref ++ cs.map V.ref)) (e35 _ _ hbs)
          exact paired_app (rows_mono ((fz_of e35).trans fz) hrb) (rows_mono fz hrc)
        · rw [tk, List.all_append, hall, Bool.true_and]
          show (pieceB plot low kk (.int (i1 : Int), plot, prows) && true) = true
          rw [pB, hfit]
          rfl
    · cases (show j = .bl b0 from hb0)
      refine q_when (b := true) (et_is (et_or (a := true) (b := true) (et_B (ev_isB (b := true) (ev_var rfl) (.bl b0))) (fun z => nomatch z)) rfl) (fun _ H3 e3 => s_ret (v := .bl false) ev_c fun H4 e4 => no rfl H4 (e3.trans e4)) (fun z => nomatch z)
  · obtain ⟨⟨r6, r7, rfl⟩, xm, ⟨bs, hbs, hrb⟩, hall⟩ := z
    have ex := lift xm
    rw [len, List.take_length] at hrb hall
    have l1 := hrb.len
    have rok : ∀ r ∈ rowsP ps, RowOk lot.length r := fun r hr' => by
      obtain ⟨q, hq, hr2⟩ := List.mem_flatMap.mp hr'
      obtain ⟨v, hv⟩ : ∃ v, PairAt C H v q := by
        have : ∀ {vs : List V} {ps : List Pc}, PVals C H vs ps → q ∈ ps → ∃ v, PairAt C H v q := fun {vs ps} h => by
          unfold PVals at h
          induction h with
          | nil => intro z; cases z
          | cons r _ ih =>
            intro z
            rcases List.mem_cons.mp z with rfl | z
            · exact ⟨_, r⟩
            · exact ih z
        exact this hp hq
      obtain ⟨p, t, _, _, dx, g⟩ := hv
      have lq : q.2.1 = lot := by
        have z := List.all_eq_true.mp hall q hq
        unfold pieceB at z
        cases h : q.1 with
        | int i =>
          simp only [h, Bool.and_eq_true, decide_eq_true_eq] at z
          exact z.1.1.2
        | _ =>
          simp only [h] at z
          cases z
      have := g.1.ro r hr2
      rw [lq] at this
      exact this
    refine s_ret (v := .bl (decide (srt (rowsP ps) = rows))) (ev_opPP (evp_sortL (d := lot.length) (evp_of (P := fun v H2 => RowsL H2 v (rowsP ps)) (ev_var rfl) fun H5 e5 => ⟨fl, bs, rfl, e5 _ _ hbs, rows_mono (fz_of e5) hrb⟩) rok (by rw [rowsP_len]; omega) (fun _ => hl1)) (fun H5 e5 => evp_listT (evp_of (P := fun v H2 => RowsT H2 v rows) (ev_var rfl) fun H6 e6 => ⟨ra, as, rfl, e6 _ _ (e5 _ _ (ex _ _ hra)), rows_mono (fz_of (ex.trans (e5.trans e6))) hrows⟩)) (fun v H1 H2 e z => RowsL.mono e z) fun x y H5 h1 h2 => rv_eqRL h1 h2) fun H5 e5 => ?_
    have e : partedB lot low rows kk ps = decide (srt (rowsP ps) = rows) := by
      unfold partedB
      rw [decide_eq_true (by omega), hall]
      rfl
    rw [← e]
    exact k H5 (ex.trans e5)
end
end Q44
namespace Q44
open PySem PySem.Spec PyProof.Rows L2 M44 Evl
section
variable {P : Program} {w : World} {K : PySem.W.Frag} {mg : Str → Option Value} {base : Heap} {C : Addr}
section
variable {K : PySem.W.Frag} {C : Addr} {σ : L2.St} {H : Hp} {ta tb te : TE} {t : TT} {P : V → Hp → Prop}
theorem evp_if {b : Bool} (h : EvT t σ H b) (h1 : b = true → EvP ta σ H P) (h2 : b = false → EvP tb σ H P) : EvP (tIf t ta tb) σ H P := fun H1 e Q q => h H1 e _ fun H2 e2 => by
  cases b with
  | true =>
    show ta σ H2 Q
    exact h1 rfl H2 (e.trans e2) Q fun v H3 e3 p => q v H3 (e2.trans e3) p
  | false =>
    show tb σ H2 Q
    exact h2 rfl H2 (e.trans e2) Q fun v H3 e3 p => q v H3 (e2.trans e3) p
abbrev rInt1 : List V → Hp → VK → Prop := fun xs H Q => (∃ i, xs = [.int i] ∧ Q (.int i) H) ∨ ∃ k, xs = [.bl k] ∧ Q (.int (if k then 1 else 0)) H
theorem ev_int1 {i : Int} (h : Ev ta σ H (.int i)) : Ev (tCB rInt1 (tCons ta tNil)) σ H (.int i) := ev_cb (ea1 h) fun H1 _ Q q => .inl ⟨i, rfl, q H1 (Ex.refl _)⟩
theorem ev_intB {b : Bool} (h : Ev ta σ H (.bl b)) : Ev (tCB rInt1 (tCons ta tNil)) σ H (.int (if b then 1 else 0)) := ev_cb (ea1 h) fun H1 _ Q q => .inr ⟨b, rfl, q H1 (Ex.refl _)⟩
theorem ev_abs {i : Int} (h : Ev ta σ H (.int i)) : Ev (tCB (fun (xs : List V) (H : Hp) (Q : VK) => ∃ i : Int, xs = [.int i] ∧ Q (.int (if i < 0 then -i else i)) H) (tCons ta tNil)) σ H (.int (if i < 0 then -i else i)) := ev_cb (ea1 h) fun H1 _ Q q => ⟨i, rfl, q H1 (Ex.refl _)⟩
/-- the cup is tossed -/
theorem toss_go {E : XK} {c : Addr} {n : Int} {Q : VK} (ha : Ev ta σ H (.ref c)) (hb : Ev tb σ H (.int n)) (hc : Cup H c) (h0 : 0 < n) (h1 : n < 1000000) (k : ∀ (r : Int) H2, 0 ≤ r → r < n → Ec c H H2 → Q (.int r) H2) : tDef (sp__law_tossed K C) E (tCons ta (tCons tb tNil)) σ H Q :=
  ha H (Ex.refl _) _ fun H1 e1 => hb H1 e1 _ fun H2 e2 => ⟨_, _, rfl, c, n, rfl, rfl, cup_ex hc (e1.trans e2), h0, h1, fun r H3 g1 g2 ec => k r H3 g1 g2 (ec_trans (ec_ex hc (e1.trans e2)) ec)⟩
end
abbrev s__law_cup : Stmt := top 44
abbrev N__law_cup : List Str := ["_law_script", "_law_spot", "_law_cell", "_law_great", "_law_seed"]
theorem sc__law_cup : FnScope N__law_cup ["_law_script", "_law_spot"] (defScope s__law_cup) := ⟨rfl, rfl, rfl, by decide +kernel, rfl, by decide +kernel, by decide +kernel⟩
theorem ok__law_cup {f : Addr} {fd : FuncData} (F : Fun K "_law_cup" "_law_cup" s__law_cup f fd) (T : Tx K mg C) : FnOk P w K mg base CX0 1 f fd ["_law_script", "_law_spot"] (sp__law_cup K C) := by
  refine F.ok sc__law_cup (fun vs H Q E h => len_sp2 h) (fun cdv A outer s H vs Q E hr h => ?_)
  obtain ⟨v0, v1, rfl, h⟩ := h
  refine ⟨_, (pss_cons (ps_set (i := 2) sc__law_cup.nd rfl (Or.inl rfl) (pe_ifExp (pt_cmpR op_lt (pv 1) (pe_callB (k_len (K := K) rfl) (by rfl) T.len PySem.boot_len (pa_cons (pv 0) pa_nil)) (nomark _)) (pe_callTy call_int1 (by rfl) T.m_int boot_int (pa_cons (pe_ix (k_ixL (K := K) rfl) (pv 0) (pv 1) (fun _ _ => rfl)) pa_nil)) (pe_op op_add (pe_op op_mul pe_int (pv 1)) pe_int)))
      (pss_cons (ps_set (i := 3) sc__law_cup.nd rfl (Or.inl rfl) (pe_op op_mod (pe_callTy call_int1 (by rfl) T.m_int boot_int (pa_cons (pe_callB call_abs (by rfl) T.abs (by decide +kernel) (pa_cons (pv 2) pa_nil)) pa_nil)) (pe_op op_powW (pe_op op_powW pe_int pe_int) pe_int)))
      (pss_cons (ps_set (i := 4) sc__law_cup.nd rfl (Or.inl rfl) (pe_callTy call_int1 (by rfl) T.m_int boot_int (pa_cons (pe_op op_add (pe_op op_add (pe_op op_add (pe_op op_mul (pe_op op_mod (pv 3) pe_int) pe_int) (pe_op op_mul pe_int (pv 1))) (pe_op op_mul pe_int (pe_callTy call_int1 (by rfl) T.m_int boot_int (pa_cons (pe_cmpR op_lt (pv 2) pe_int (nomark _)) pa_nil)))) pe_int) pa_nil)))
      (pss_one (ps_ret (pe_lst (pa_cons (pe_callB (call_max2 rfl) (by rfl) T.max (by decide +kernel) (pa_cons pe_int (pa_cons (pe_op op_sub (pv 3) (pe_op op_powW pe_int pe_int)) pa_nil))) (pa_cons (pe_op op_mod (pv 4) pe_int) (pa_cons pe_int pa_nil))))))))), ?_⟩
  obtain ⟨s0, ns, sp, rfl, hs, hn, rfl, hsp, k⟩ := h
  refine q_asgP (P := fun v _ => ∃ c : Int, v = .int c) (evp_if (b := decide ((sp : Int) < (ns.length : Int))) (et_is (et_test (ev_op (ev_var rfl) (ev_len (ev_var rfl) hs) rv_I0)) (by rw [List.length_map])) (fun hb => ?_) fun hb => ?_) fun v H1 e1 z => ?_
  · have hb := of_decide_eq_true hb
    have lt : sp < ns.length := by omega
    exact evp_of (ev_int1 (ev_op (ev_var rfl) (ev_var rfl) (rv_ixL hs (atI_nat (j := sp) (v := V.int ns[sp]) (by rw [List.getElem?_map, List.getElem?_eq_getElem lt]; rfl))))) fun _ _ => ⟨_, rfl⟩
  · exact evp_of (ev_op (ev_op ev_c (ev_var rfl) (rv_I (.inl ⟨by decide, by decide⟩))) ev_c rv_I0) fun _ _ => ⟨_, rfl⟩
  obtain ⟨c, rfl⟩ := z
  refine q_asg (ev_op (ev_int1 (ev_abs (ev_var rfl))) (ev_op (ev_op ev_c ev_c (rv_I ⟨by decide, by decide +kernel⟩)) ev_c (rv_I ⟨by decide, by decide +kernel⟩)) (rv_I (by decide +kernel))) fun H2 e2 => ?_
  refine q_asg (ev_int1 (ev_op (ev_op (ev_op (ev_op (ev_op (ev_var rfl) ev_c (rv_I (by decide))) ev_c (rv_I (.inr ⟨by decide, by decide⟩))) (ev_op ev_c (ev_var rfl) (rv_I (.inl ⟨by decide, by decide⟩))) rv_I0) (ev_op ev_c (ev_intB (ev_op (ev_var rfl) ev_c rv_I0)) (rv_I (.inl ⟨by decide, by decide⟩))) rv_I0) ev_c rv_I0)) fun H3 e3 => ?_
  refine s_retL (el_lst (ea3 (ev_cb (ea2 ev_c (ev_op (ev_var rfl) (ev_op ev_c ev_c (rv_I ⟨by decide, by decide +kernel⟩)) rv_I0)) fun H4 _ Q q => ⟨_, _, rfl, q H4 (Ex.refl _)⟩) (ev_op (ev_var rfl) ev_c (rv_I (by decide))) ev_c) (by show 3 ≤ 100000; decide)) fun p H4 hp e4 h4 => ?_
  exact k p H4 (((e1.trans e2).trans e3).trans e4) (fresh_back ((e1.trans e2).trans e3) hp) ⟨_, _, _, h4⟩
abbrev s__law_tossed : Stmt := top 45
abbrev N__law_tossed : List Str := ["_law_cup_here", "_law_total", "_law_found", "_law_one", "_law_two"]
theorem sc__law_tossed : FnScope N__law_tossed ["_law_cup_here", "_law_total"] (defScope s__law_tossed) := ⟨rfl, rfl, rfl, by decide +kernel, rfl, by decide +kernel, by decide +kernel⟩
theorem ok__law_tossed {f : Addr} {fd : FuncData} (F : Fun K "_law_tossed" "_law_tossed" s__law_tossed f fd) (T : Tx K mg C) : FnOk P w K mg base CX0 1 f fd ["_law_cup_here", "_law_total"] (sp__law_tossed K C) := by
  refine F.ok sc__law_tossed (fun vs H Q E h => len_sp2 h) (fun cdv A outer s H vs Q E hr h => ?_)
  obtain ⟨v0, v1, rfl, h⟩ := h
  refine ⟨_, (pss_cons (ps_if (pt_cmpR op_gt (pe_ix (k_ixL (K := K) rfl) (pv 0) pe_int (fun _ _ => rfl)) pe_int (nomark _)) (pss_cons (ps_set (i := 2) sc__law_tossed.nd rfl (Or.inl rfl) (pe_op op_mod (pe_callTy call_int1 (by rfl) T.m_int boot_int (pa_cons (pe_ix (k_ixL (K := K) rfl) (pv 0) pe_int (fun _ _ => rfl)) pa_nil)) (pv 1)))
      (pss_cons (ps_asg (pe_op op_fdiv (pe_ix (k_ixL (K := K) rfl) (pv 0) pe_int (fun _ _ => rfl)) (pv 1)) (pg_sub (pv 0) pe_int set_list))
      (pss_one (ps_ret (pv 2))))) pss_nil)
      (pss_cons (ps_asg (pe_op op_add (pe_ix (k_ixL (K := K) rfl) (pv 0) pe_int (fun _ _ => rfl)) pe_int) (pg_sub (pv 0) pe_int set_list))
      (pss_cons (ps_set (i := 3) sc__law_tossed.nd rfl (Or.inl rfl) (pe_op op_mod (pe_callTy call_int1 (by rfl) T.m_int boot_int (pa_cons (pe_op op_add (pe_ix (k_ixL (K := K) rfl) (pv 0) pe_int (fun _ _ => rfl)) (pe_op op_mul pe_int (pe_ix (k_ixL (K := K) rfl) (pv 0) pe_int (fun _ _ => rfl)))) pa_nil)) pe_int))
      (pss_cons (ps_set (i := 4) sc__law_tossed.nd rfl (Or.inl rfl) (pe_op op_add (pe_op op_add (pe_op op_mul (pe_op op_mod (pe_callTy call_int1 (by rfl) T.m_int boot_int (pa_cons (pe_op op_add (pe_op op_mul (pv 3) (pv 3)) pe_int) pa_nil)) pe_int) pe_int) (pv 3)) (pe_op op_mul pe_int (pe_ix (k_ixL (K := K) rfl) (pv 0) pe_int (fun _ _ => rfl)))))
      (pss_one (ps_ret (pe_op op_mod (pe_callTy call_int1 (by rfl) T.m_int boot_int (pa_cons (pe_op op_fdiv (pv 4) pe_int) pa_nil)) (pv 1)))))))), ?_⟩
  obtain ⟨c, n, rfl, rfl, ⟨a, b, m, hc⟩, h0, h1, k⟩ := h
  have ix : ∀ (j : Nat) (x : V) (H' : Hp) (σ : L2.St) (xs : List V), σ[0]? = some (some (.ref c)) → H' c = some (.lst xs) → xs[j]? = some x → Ev (tOp (rIxL K) (tVar 0) (tC (.int (j : Int)))) σ H' x := fun j x H' σ xs hσ h hx => ev_op (ev_var hσ) ev_c (rv_ixL (sq_of h) (atI_nat hx))
  refine q_when (b := decide (0 < a)) (et_test (ev_op (ix 0 (.int a) _ _ _ rfl hc rfl) ev_c rv_I0)) (fun hb H1 e1 => ?_) fun hb H1 e1 => ?_
  · have hc1 := e1 _ _ hc
    refine q_asg (ev_op (ev_int1 (ix 0 (.int a) _ _ _ rfl hc1 rfl)) (ev_var rfl) (rv_I h0)) fun H2 e2 => ?_
    have hc2 := e2 _ _ hc1
    refine q_setL (j := 0) hc2 (ev_op (ix 0 (.int a) _ _ _ rfl hc2 rfl) (ev_var rfl) (rv_I ⟨h0, by omega⟩)) (ev_var rfl) ev_c (by show 0 < 3; decide) fun H3 e3 => ?_
    refine s_ret (ev_var rfl) fun H4 e4 => k _ H4 (Int.emod_nonneg _ (by omega)) (Int.emod_lt_of_pos _ h0) ?_
    exact ec_trans (ec_trans (ec_ex ⟨a, b, m, hc⟩ ((e1.trans e2).trans e3)) ec_upd) (ec_ex ⟨_, _, _, upd_same⟩ e4)
  · have hc1 := e1 _ _ hc
    refine q_setL (j := 2) hc1 (ev_op (ix 2 (.int m) _ _ _ rfl hc1 rfl) ev_c rv_I0) (ev_var rfl) ev_c (by show 2 < 3; decide) fun H2 e2 => ?_
    have hu : (upd H2 c (.lst [.int a, .int b, .int (m + 1)])) c = some (.lst [.int a, .int b, .int (m + 1)]) := upd_same
    refine q_asg (ev_op (ev_int1 (ev_op (ix 1 (.int b) _ _ _ rfl hu rfl) (ev_op ev_c (ix 2 (.int (m + 1)) _ _ _ rfl hu rfl) (rv_I (.inl ⟨by decide, by decide⟩))) rv_I0)) ev_c (rv_I (by decide))) fun H3 e3 => ?_
    have h3 := e3 _ _ hu
    generalize hone : (b + 49979729 * (m + 1)) % 2305843009213693951 = one
    have o1 : 0 ≤ one := by rw [← hone]; exact Int.emod_nonneg _ (by decide)
    have o2 : one < 2305843009213693951 := by rw [← hone]; exact Int.emod_lt_of_pos _ (by decide)
    refine q_asg (ev_op (ev_op (ev_op (ev_op (ev_int1 (ev_op (ev_op (ev_var rfl) (ev_var rfl) (rv_I (.inl ⟨by omega, by omega⟩))) ev_c rv_I0)) ev_c (rv_I (by decide))) ev_c (rv_I (.inr ⟨by decide, by decide⟩))) (ev_var rfl) rv_I0) (ev_op ev_c (ix 2 (.int (m + 1)) _ _ _ rfl h3 rfl) (rv_I (.inl ⟨by decide, by decide⟩))) rv_I0) fun H4 e4 => ?_
    refine s_ret (ev_op (ev_int1 (ev_op (ev_var rfl) ev_c (rv_I ⟨by decide, by decide⟩))) (ev_var rfl) (rv_I h0)) fun H5 e5 => k _ H5 (Int.emod_nonneg _ (by omega)) (Int.emod_lt_of_pos _ h0) ?_
    exact ec_trans (ec_trans (ec_ex ⟨a, b, m, hc⟩ (e1.trans e2)) ec_upd) (ec_ex ⟨_, _, _, upd_same⟩ ((e3.trans e4).trans e5))
abbrev s__law_one_of : Stmt := top 46
abbrev N__law_one_of : List Str := ["_law_cup_here", "_law_items"]
theorem sc__law_one_of : FnScope N__law_one_of ["_law_cup_here", "_law_items"] (defScope s__law_one_of) := ⟨rfl, rfl, rfl, by decide +kernel, rfl, by decide +kernel, by decide +kernel⟩
theorem ok__law_one_of {f : Addr} {fd : FuncData} (F : Fun K "_law_one_of" "_law_one_of" s__law_one_of f fd) (T : Tx K mg C) {f__law_tossed : Addr} (D__law_tossed : Df P w K mg base "_law_tossed" f__law_tossed 1 (sp__law_tossed K C)) : FnOk P w K mg base CX0 2 f fd ["_law_cup_here", "_law_items"] (sp__law_one_of K C) := by
  refine F.ok sc__law_one_of (fun vs H Q E h => len_sp2 h) (fun cdv A outer s H vs Q E hr h => ?_)
  obtain ⟨v0, v1, rfl, h⟩ := h
  refine ⟨_, (pss_one (ps_ret (pe_ix (k_ixL (K := K) rfl) (pv 1) (pe_d D__law_tossed hr (by decide) (pa_cons (pv 0) (pa_cons (pe_callB (k_len (K := K) rfl) (by rfl) T.len PySem.boot_len (pa_cons (pv 1) pa_nil)) pa_nil))) (fun _ _ => rfl)))), ?_⟩
  obtain ⟨c, l, vs, rfl, rfl, hc, ne, hl, h0, h1, k⟩ := h
  refine ⟨_, rfl, toss_go (ev_var rfl) (ev_len (ev_var rfl) (sq_of hl)) hc (by omega) (by omega) fun r H2 g1 g2 ec => ?_⟩
  have lt : r.toNat < vs.length := by omega
  refine ⟨l, vs, r, vs[r.toNat], rfl, rfl, sq_of (ec.1 _ _ ne hl), ?_, k _ H2 (List.getElem_mem _) ec⟩
  have z := atI_nat (xs := vs) (j := r.toNat) (v := vs[r.toNat]) (List.getElem?_eq_getElem lt)
  rw [Int.toNat_of_nonneg g1] at z
  exact z
end
end Q44
namespace Q44
open PySem PySem.Spec PyProof.Rows L2 M44 Evl
section
variable {P : Program} {w : World} {K : PySem.W.Frag} {mg : Str → Option Value} {base : Heap} {C : Addr}
section
variable {K : PySem.W.Frag} {σ : L2.St} {H : Hp} {ta te : TE} {wi : TI} {g : TG} {tb tz : TS} {D : Ends} {tA : TA}
theorem el_listT {p : Addr} {xs : List V} (ha : Ev ta σ H (.ref p)) (h : Rd H p (.tup xs)) : EvL (tCB (rListS K) (tCons ta tNil)) σ H xs := fun H1 e Q q =>
  ha H1 e _ fun H2 e2 => ⟨p, xs, rfl, Or.inr (.inl (ex_rd (e.trans e2) h)), fun l hl => q l _ (fresh_back e2 hl) (e2.trans (Ex.new hl)) upd_same⟩
theorem q_forG (h : tFor wi g tb { D with nx := tz D } σ H) : tSeq (tFor wi g tb) tz D σ H := h
theorem q_parG {i j : Nat} (h : tA σ H fun vs H1 => ∃ v w, vs = [v, w] ∧ tz D ((σ.set i (some v)).set j (some w)) H1) : tSeq (tPar i j tA) tz D σ H := h
end
theorem lot_sorted {ms fs ls ns : Rw} (hp : ms.Perm fs) (hs : ms.Pairwise (· ≤ ·)) (hq : (fs ++ ls).Perm ns) (ok : LotOk ns) : LotOk ms ∧ ∀ x ∈ ms, x ∈ ns := by
  have mem : ∀ x ∈ ms, x ∈ ns := fun x hx => hq.mem_iff.mp (List.mem_append_left _ (hp.mem_iff.mp hx))
  have nn : ns.Nodup := ok.2.imp fun h => Int.ne_of_lt h
  have nf : (fs ++ ls).Nodup := hq.nodup_iff.mpr nn
  have nm : ms.Nodup := hp.nodup_iff.mpr (List.nodup_append.mp nf).1
  refine ⟨⟨fun x hx => ok.1 x (mem x hx), ?_⟩, mem⟩
  exact (hs.and nm).imp fun h => by
    obtain ⟨h1, h2⟩ := h
    omega
theorem erase_map (f : Int → V) : ∀ (l : List Int) (k : Nat), (l.map f).eraseIdx k = (l.eraseIdx k).map f
  | [], _ => rfl
  | _ :: _, 0 => rfl
  | a :: l, k + 1 => by
    show f a :: (l.map f).eraseIdx k = f a :: (l.eraseIdx k).map f
    rw [erase_map f l k]
theorem erase_perm : ∀ (l : List Int) (k : Nat) (h : k < l.length), (l[k] :: l.eraseIdx k).Perm l
  | [], _, h => absurd h (Nat.not_lt_zero _)
  | _ :: _, 0, _ => List.Perm.refl _
  | a :: l, k + 1, h => by
    have ih := erase_perm l k (Nat.lt_of_succ_lt_succ h)
    show (l[k]'(Nat.lt_of_succ_lt_succ h) :: a :: l.eraseIdx k).Perm (a :: l)
    exact (List.Perm.swap _ _ _).trans (ih.cons a)
abbrev s__law_lot_drawn : Stmt := top 47
abbrev N__law_lot_drawn : List Str := ["_law_cup_here", "_law_lot", "_law_least", "_law_left", "_law_found", "_law_turn"]
theorem sc__law_lot_drawn : FnScope N__law_lot_drawn ["_law_cup_here", "_law_lot", "_law_least"] (defScope s__law_lot_drawn) := ⟨rfl, rfl, rfl, by decide +kernel, rfl, by decide +kernel, by decide +kernel⟩
theorem ok__law_lot_drawn {f : Addr} {fd : FuncData} (F : Fun K "_law_lot_drawn" "_law_lot_drawn" s__law_lot_drawn f fd) (T : Tx K mg C) {f__law_tossed : Addr} (D__law_tossed : Df P w K mg base "_law_tossed" f__law_tossed 1 (sp__law_tossed K C)) : FnOk P w K mg base CX0 2 f fd ["_law_cup_here", "_law_lot", "_law_least"] (sp__law_lot_drawn K C) := by
  refine F.ok sc__law_lot_drawn (fun vs H Q E h => len_sp3 h) (fun cdv A outer s H vs Q E hr h => ?_)
  obtain ⟨v0, v1, v2, rfl, h⟩ := h
  refine ⟨_, (pss_cons (ps_par (i := 3) (j := 4) rfl sc__law_lot_drawn.nd rfl rfl (by decide) rfl rfl (pa_cons (pe_callTy (k_list (K := K) rfl) (by rfl) T.m_list boot_list (pa_cons (pv 1) pa_nil)) (pa_cons (pe_lst pa_nil) pa_nil)) (by rfl))
      (pss_cons (ps_for PassesOwn.never rfl (pi_range1 (by rfl) T.range (pa_cons (pe_op op_add (pv 2) (pe_d D__law_tossed hr (by decide) (pa_cons (pv 0) (pa_cons (pe_op op_add (pe_op op_sub (pe_callB (k_len (K := K) rfl) (by rfl) T.len PySem.boot_len (pa_cons (pv 1) pa_nil)) (pv 2)) pe_int) pa_nil)))) pa_nil)) (pg_name (i := 5) sc__law_lot_drawn.nd rfl (Or.inl rfl))
        (pss_one (ps_expr (k_bm (K := K) rfl PySem.F.plainAttrs_list PySem.F.slot_list_append PySem.F.type_list_append mt_append (pv 4) (pa_cons (k_bm (K := K) rfl PySem.F.plainAttrs_list PySem.F.slot_list_pop PySem.F.type_list_pop mt_popAt (pv 3) (pa_cons (pe_d D__law_tossed hr (by decide) (pa_cons (pv 0) (pa_cons (pe_callB (k_len (K := K) rfl) (by rfl) T.len PySem.boot_len (pa_cons (pv 3) pa_nil)) pa_nil))) pa_nil)) pa_nil)))))
      (pss_one (ps_ret (pe_callTy call_tupF (by rfl) T.m_tuple boot_tuple (pa_cons (pe_callB (k_sorted (K := K) rfl) (by rfl) T.sorted (by decide +kernel) (pa_cons (pv 4) pa_nil)) pa_nil)))))), ?_⟩
  obtain ⟨c, ns, m, rfl, hc, ⟨la, rfl, hla⟩, ok, rfl, hm, k⟩ := h
  have nlen := lot_len ok
  refine q_par (P := fun vs H1 => ∃ L F, vs = [.ref L, .ref F] ∧ H L = none ∧ H F = none ∧ L ≠ F ∧ H1 L = some (.lst (ns.map V.int)) ∧ H1 F = some (.lst [])) (eap_cons (evp_L (el_listT (ev_var rfl) hla)) fun v H1 e1 z => eap_cons (evp_L (el_lst ea_nil (by decide))) fun v2 H2 e2 z2 => eap_nil fun H3 e3 => ?_) fun vs H1 e1 z => ?_
  · obtain ⟨L, rfl, f1, hL⟩ := z
    obtain ⟨F, rfl, f2, hF⟩ := z2
    exact ⟨L, F, rfl, f1, fresh_back e1 f2, ne_of_none hL f2, e3 _ _ (e2 _ _ hL), e3 _ _ hF⟩
  obtain ⟨L, F, rfl, f1, f2, LF, hL, hF⟩ := z
  refine ⟨_, _, rfl, ?_⟩
  have Lc := ec_ne hc f1
  have Fc := ec_ne hc f2
  have hla1 := ex_rd e1 hla
  refine q_forG ⟨_, rfl, toss_go (n := (ns.length : Int) - (m : Int) + 1) (ev_var rfl) (ev_is (ev_op (ev_op (ev_lenT (ev_var rfl) hla1) (ev_var rfl) rv_I0) ev_c rv_I0) (by rw [List.length_map])) (cup_ex hc e1) (by omega) (by omega) fun r H2 g1 g2 ec => ⟨_, _, rfl, rfl, _, rfl, by omega, by omega, ?_⟩⟩
  have ec2 := ec_trans (ec_ex hc e1) ec
  refine for_range (lo := 0) (n := ((m : Int) + r).toNat) (fun i σ' H' => ∃ r5 ls fs, σ' = [some (.ref c), some (.ref la), some (.int (m : Int)), some (.ref L), some (.ref F), r5] ∧ Ec c H H' ∧ H' L = some (.lst (ls.map V.int)) ∧ H' F = some (.lst (fs.map V.int)) ∧ (fs ++ ls).Perm ns ∧ fs.length = i)
    ⟨none, ns, [], rfl, ec2, ec.1 _ _ Lc hL, ec.1 _ _ Fc hF, List.Perm.refl _, rfl⟩ (fun i σ' H' hi z => ?_) fun σ' H' z => ?_
  · obtain ⟨r5, ls, fs, rfl, ec3, hL3, hF3, hp, hfl⟩ := z
    have pl := hp.length_eq
    rw [List.length_append] at pl
    have lpos : 0 < ls.length := by omega
    refine ⟨.ref F, rfl, .inl ⟨rfl, _, sq_of hF3⟩, .ref L, rfl, .inl ⟨rfl, _, sq_of hL3⟩, toss_go (n := (ls.length : Int)) (ev_var rfl) (ev_is (ev_len (ev_var rfl) (sq_of hL3)) (by rw [List.length_map])) ec3.2 (by omega) (by omega) fun q H4 g3 g4 ec4 => ?_⟩
    have lt : q.toNat < ls.length := by omega
    have hL4 := ec4.1 _ _ Lc hL3
    have hF4 := ec4.1 _ _ Fc hF3
    have hsi : seqIndex? q (ls.map V.int).length = some q.toNat := by
      have z := (ixN_seq (ixN_nat (n := ls.length) lt)).1
      rw [Int.toNat_of_nonneg g3] at z
      rw [List.length_map]
      exact z
    refine ⟨L, ls.map V.int, q, q.toNat, .int ls[q.toNat], rfl, rfl, hL4, by omega, by omega, hsi, by rw [List.getElem?_map, List.getElem?_eq_getElem lt]; rfl, ?_⟩
    have ec5 := ec_trans ec3 ec4
    refine ⟨F, fs.map V.int, _, rfl, rfl, by rw [upd_ne (Ne.symm LF)]; exact hF4, sz_lt (by rw [List.length_map]; omega), _, ls.eraseIdx q.toNat, fs ++ [ls[q.toNat]], rfl, ec_mut hc (ec_mut hc ec5 f1) f2, ?_, ?_, ?_, by rw [List.length_append, List.length_singleton, hfl]⟩
    · rw [upd_ne LF, upd_same, erase_map]
    · rw [upd_same, List.map_append]
      rfl
    · rw [List.append_assoc]
      refine List.Perm.trans (List.Perm.append_left fs ?_) hp
      exact erase_perm ls q.toNat lt
  · obtain ⟨r5, ls, fs, rfl, ec3, hL3, hF3, hp, hfl⟩ := z
    have pl := hp.length_eq
    rw [List.length_append] at pl
    refine ⟨_, rfl, F, fs, rfl, sq_of hF3, by omega, fun ms p hpm hps hpn => ?_⟩
    refine ⟨p, _, rfl, upd_same, fun l ob hl hob => ?_⟩
    have pH := ec_fresh hc ec3 hpn
    have lH : H l = none := ec_fresh hc (ec_mut hc ec3 pH) hl
    obtain ⟨g1, g2⟩ := lot_sorted hpm hps hp ok
    exact k _ ms _ (ec_mut hc (ec_mut hc ec3 pH) lH) ⟨l, ob, rfl, upd_same, hob⟩ g1 g2 (by rw [hpm.length_eq]; omega)
end
end Q44
namespace Q44
open PySem PySem.Spec PyProof.Rows L2 M44 Evl
section
variable {P : Program} {w : World} {K : PySem.W.Frag} {mg : Str → Option Value} {base : Heap} {C : Addr}
abbrev s__law_rows_drawn : Stmt := top 48
abbrev N__law_rows_drawn : List Str := ["_law_cup_here", "_law_lot", "_law_most", "_law_wide", "_law_found", "_law_way", "_law_turn", "_law_row", "_law_letter", "_law_number"]
theorem sc__law_rows_drawn : FnScope N__law_rows_drawn ["_law_cup_here", "_law_lot", "_law_most", "_law_wide"] (defScope s__law_rows_drawn) := ⟨rfl, rfl, rfl, by decide +kernel, rfl, by decide +kernel, by decide +kernel⟩
theorem ok__law_rows_drawn {f : Addr} {fd : FuncData} (F : Fun K "_law_rows_drawn" "_law_rows_drawn" s__law_rows_drawn f fd) (T : Tx K mg C) {f__law_tossed : Addr} (D__law_tossed : Df P w K mg base "_law_tossed" f__law_tossed 1 (sp__law_tossed K C)) : FnOk P w K mg base CX0 2 f fd ["_law_cup_here", "_law_lot", "_law_most", "_law_wide"] (sp__law_rows_drawn K C) := by
  refine F.ok sc__law_rows_drawn (fun vs H Q E h => len_sp4 h) (fun cdv A outer s H vs Q E hr h => ?_)
  obtain ⟨v0, v1, v2, v3, rfl, h⟩ := h
  refine ⟨_, (pss_cons (ps_par (i := 4) (j := 5) rfl sc__law_rows_drawn.nd rfl rfl (by decide) rfl rfl (pa_cons (pe_lst pa_nil) (pa_cons (pe_d D__law_tossed hr (by decide) (pa_cons (pv 0) (pa_cons pe_int pa_nil))) pa_nil)) (by rfl))
      (pss_cons (ps_for PassesOwn.never rfl (pi_range1 (by rfl) T.range (pa_cons (pe_d D__law_tossed hr (by decide) (pa_cons (pv 0) (pa_cons (pe_op op_add (pv 2) pe_int) pa_nil))) pa_nil)) (pg_name (i := 6) sc__law_rows_drawn.nd rfl (Or.inl rfl))
        (pss_cons (ps_setLc (i := 7) (own := [("_law_letter", 8)]) rfl sc__law_rows_drawn.nd rfl rfl (sw_true rfl rfl rfl (by decide +kernel)) (k_pit (K := K) rfl (pv 1)) (blkOk_by (own := [("_law_letter", 8)]) (N := N__law_rows_drawn) (sc := defScope s__law_rows_drawn) (by decide +kernel)) (fun _ _ _ _ _ => (pg_name (i := 8) sc__law_rows_drawn.nd rfl (Or.inl rfl))) (fun _ _ _ _ _ => pts_nil) (fun _ _ _ _ _ => (pe_d D__law_tossed hr (by decide) (pa_cons (pv 0) (pa_cons (pv 3) pa_nil)))))
      (pss_cons (ps_if ((pw_and (pt_cmpR op_eq (pv 5) pe_int (nomark _)) (pw_and (pt_cmpR (k_neD (K := K) rfl hr.units) (pv 1) (pe_tup pa_nil) (nomark _)) (pw_and1 (pt_cmpR op_gt (pe_d D__law_tossed hr (by decide) (pa_cons (pv 0) (pa_cons pe_int pa_nil))) pe_int (nomark _))))).pt) (pss_one (ps_asg pe_int (pg_sub (pv 7) pe_int set_list))) pss_nil)
      (pss_cons (ps_if (pt_cmpR op_eq (pv 5) pe_int (nomark _)) (pss_one (ps_setLc (i := 7) (own := [("_law_number", 9)]) rfl sc__law_rows_drawn.nd rfl rfl (sw_true rfl rfl rfl (by decide +kernel)) (k_pil (K := K) rfl (pv 7)) (blkOk_by (own := [("_law_number", 9)]) (N := N__law_rows_drawn) (sc := defScope s__law_rows_drawn) (by decide +kernel)) (fun _ _ _ _ _ => (pg_name (i := 9) sc__law_rows_drawn.nd rfl (Or.inl rfl))) (fun _ _ _ _ _ => pts_nil) (fun _ _ _ _ _ => (pe_ifExp (pt_cmpR op_eq (pe_op op_mod (pv 9) pe_int) pe_int (nomark _)) (pe_op op_sub pe_int (pv 9)) (pe_op op_sub pe_int (pv 9)))))) pss_nil)
      (pss_cons (ps_expr (k_bm (K := K) rfl PySem.F.plainAttrs_list PySem.F.slot_list_append PySem.F.type_list_append mt_append (pv 4) (pa_cons (pe_callTy (k_tuple (K := K) rfl) (by rfl) T.m_tuple boot_tuple (pa_cons (pv 7) pa_nil)) pa_nil)))
      (pss_one (ps_if (pt_cmpR op_eq (pe_d D__law_tossed hr (by decide) (pa_cons (pv 0) (pa_cons pe_int pa_nil))) pe_int (nomark _)) (pss_one (ps_expr (k_bm (K := K) rfl PySem.F.plainAttrs_list PySem.F.slot_list_append PySem.F.type_list_append mt_append (pv 4) (pa_cons (pe_callTy (k_tuple (K := K) rfl) (by rfl) T.m_tuple boot_tuple (pa_cons (pv 7) pa_nil)) pa_nil)))) pss_nil)))))))
      (pss_one (ps_ret (pv 4))))), ?_⟩
  obtain ⟨c, ls, rfl, hc, ⟨la, rfl, hla⟩, hln, rfl, rfl, k⟩ := h
  refine q_parG ⟨Nat.zero_le _, fun F hF => ?_⟩
  have Fc := ec_ne hc hF
  have exF : Ex H (upd H F (.lst [])) := Ex.new hF
  refine toss_go (ev_var rfl) ev_c (cup_ex hc exF) (by decide) (by decide) fun way H1 w0 w5 ec1 => ⟨_, _, rfl, ?_⟩
  have ecH := ec_trans (ec_ex hc exF) ec1
  refine q_forG ?_
  refine toss_go (n := 15) (ev_var rfl) (ev_op (ev_var rfl) ev_c rv_I0) ec1.2 (by decide) (by decide) fun n H2 n0 n15 ec2 => ⟨n, rfl, by omega, by omega, ?_⟩
  have ecH2 := ec_trans ecH ec2
  have hF2 : H2 F = some (.lst []) := ec2.1 _ _ Fc (ec1.1 _ _ Fc upd_same)
  refine for_range (lo := 0) (n := n.toNat) (fun i σ' H' => ∃ r6 r7 as rs, σ' = [some (.ref c), some (.ref la), some (.int 14), some (.int 3), some (.ref F), some (.int way), r6, r7, none, none] ∧ Ec c H H' ∧ H' F = some (.lst (as.map V.ref)) ∧ RowsA H' as rs ∧ rs.length ≤ 2 * i ∧ ∀ r ∈ rs, RowOk ls.length r)
    ⟨none, none, [], [], rfl, ecH2, hF2, .nil, Nat.zero_le _, fun _ z => nomatch z⟩ (fun i σ' H' hi z => ?_) fun σ' H' z => ?_
  · obtain ⟨r6, r7, as, rs, rfl, ec3, hF3, hra, hrl, hok⟩ := z
    have stay : ∀ {Ha Hb : Hp}, Ec c Ha Hb → Ec c H Ha → Ha F = some (.lst (as.map V.ref)) → RowsA Ha as rs → Ec c H Hb ∧ Hb F = some (.lst (as.map V.ref)) ∧ RowsA Hb as rs := fun e1 e2 h1 h2 => ⟨ec_trans e2 e1, e1.1 _ _ Fc h1, rows_mono (ec_fz e2.2 e1) h2⟩
    have lotAt : ∀ {Ha : Hp}, Ec c H Ha → Rd Ha la (.tup (ls.map V.int)) := fun e => rd_fz (ec_fz hc e) hla
    -- the end of a turn: the row is appended, once or twice
    have rest : ∀ (D' : Ends), (∀ (σ' : L2.St) (H' : Hp), (∃ r6 r7 as rs, σ' = [some (.ref c), some (.ref la), some (.int 14), some (.int 3), some (.ref F), some (.int way), r6, r7, none, none] ∧ Ec c H H' ∧ H' F = some (.lst (as.map V.ref)) ∧ RowsA H' as rs ∧ rs.length ≤ 2 * (i + 1) ∧ ∀ r ∈ rs, RowOk ls.length r) → D'.nx σ' H') → ∀ (Dl : Addr) (Hc : Hp) (acc : Rw), Ec c H Hc → Hc F = some (.lst (as.map V.ref)) → RowsA Hc as rs → Hc Dl = some (.lst (acc.map V.int)) → H Dl = none → Dl ≠ F → RowOk ls.length acc →
        tSeq (tDrop (tBM K "list" rAppend (tVar 4) (tCons (tCB (rTupS K) (tCons (tVar 7) tNil)) tNil))) (tIfS (tTest (tOp rEq (tDef (sp__law_tossed K C) E0 (tCons (tVar 0) (tCons (tC (.int 6)) tNil))) (tC (.int 0)))) (tDrop (tBM K "list" rAppend (tVar 4) (tCons (tCB (rTupS K) (tCons (tVar 7) tNil)) tNil))) tNext) D' [some (.ref c), some (.ref la), some (.int 14), some (.int 3), some (.ref F), some (.int way), some (.int (0 + (i : Int))), some (.ref Dl), none, none] Hc := by
      intro D' hD Dl Hc acc e1 h1 h2 h3 h4 nDF hacc
      have len := h2.len
      have nDc := ec_ne hc h4
      have mkT : ∀ (Hx : Hp) (Q : VK), Hx Dl = some (.lst (acc.map V.int)) → (∀ p Hy, Hx p = none → Ex Hx Hy → Hy p = some (.tup (acc.map V.int)) → Q (.ref p) Hy) → tCB (rTupS K) (tCons (tVar 7) tNil) [some (.ref c), some (.ref la), some (.int 14), some (.int 3), some (.ref F), some (.int way), some (.int (0 + (i : Int))), some (.ref Dl), none, none] Hx Q := fun Hx Q hx q => ⟨_, rfl, Dl, _, rfl, .inl ⟨sq_of hx, fun l hl => q l _ hl (Ex.new hl) upd_same⟩⟩
      refine ⟨.ref F, rfl, .inl ⟨rfl, _, sq_of h1⟩, mkT Hc _ h3 fun p Hd hp ed hpd => ?_⟩
      refine ⟨F, as.map V.ref, .ref p, rfl, rfl, ed _ _ h1, sz_lt (by rw [List.length_map]; omega), ?_⟩
      have hF5 : (upd Hd F (.lst (as.map V.ref ++ [.ref p]))) F = some (.lst ((as ++ [p]).map V.ref)) := by rw [upd_same, List.map_append]; rfl
      have fz := fz_upd (o := .lst (as.map V.ref ++ [.ref p])) (ed _ _ h1)
      have e5 : Ec c H (upd Hd F (.lst (as.map V.ref ++ [.ref p]))) := ec_mut hc (ec_trans e1 (ec_ex e1.2 ed)) hF
      have hr5 : RowsA (upd Hd F (.lst (as.map V.ref ++ [.ref p]))) (as ++ [p]) (rs ++ [acc]) := paired_app (rows_mono ((fz_of ed).trans fz) h2) (.cons (fz _ _ hpd (fun _ z => nomatch z)) .nil)
      have hD5 : (upd Hd F (.lst (as.map V.ref ++ [.ref p]))) Dl = some (.lst (acc.map V.int)) := by rw [upd_ne nDF]; exact ed _ _ h3
      have ok5 : ∀ r ∈ rs ++ [acc], RowOk ls.length r := fun r hr' => by
        rcases List.mem_append.mp hr' with h | h
        · exact hok r h
        · rw [List.mem_singleton.mp h]
          exact hacc
      refine toss_go (ev_var rfl) ev_c e5.2 (by decide) (by decide) fun q H6 q0 q6 ec6 => ⟨rfl, decide (V.int q = V.int 0), rfl, ?_⟩
      have e6 := ec_trans e5 ec6
      have hF6 := ec6.1 _ _ Fc hF5
      have hr6 := rows_mono (ec_fz e5.2 ec6) hr5
      have hD6 := ec6.1 _ _ nDc hD5
      have l5 : (rs ++ [acc]).length = rs.length + 1 := by rw [List.length_append]; rfl
      cases hb : decide (V.int q = V.int 0) with
      | false =>
        show D'.nx _ H6
        exact hD _ _ ⟨_, _, as ++ [p], rs ++ [acc], rfl, e6, hF6, hr6, by omega, ok5⟩
      | true =>
        show tDrop (tBM K "list" rAppend (tVar 4) (tCons (tCB (rTupS K) (tCons (tVar 7) tNil)) tNil)) D' _ H6
        refine ⟨.ref F, rfl, .inl ⟨rfl, _, sq_of hF6⟩, mkT H6 _ hD6 fun p2 H7 hp2 e7 hpd2 => ?_⟩
        have len6 := hr6.len
        refine ⟨F, (as ++ [p]).map V.ref, .ref p2, rfl, rfl, e7 _ _ hF6, sz_lt (by rw [List.length_map]; omega), ?_⟩
        have fz2 := fz_upd (o := .lst ((as ++ [p]).map V.ref ++ [.ref p2])) (e7 _ _ hF6)
        refine hD _ _ ⟨_, _, (as ++ [p]) ++ [p2], (rs ++ [acc]) ++ [acc], rfl, ec_mut hc (ec_trans e6 (ec_ex e6.2 e7)) hF, by rw [upd_same]; simp, paired_app (rows_mono ((fz_of e7).trans fz2) hr6) (.cons (fz2 _ _ hpd2 (fun _ z => nomatch z)) .nil), by rw [List.length_append, List.length_singleton]; omega, fun r hr' => ?_⟩
        rcases List.mem_append.mp hr' with h | h
        · exact ok5 r h
        · rw [List.mem_singleton.mp h]
          exact hacc
    -- the comprehension
    refine q_raw ?_
    refine ⟨_, rfl, la, rfl, ⟨_, .inl (lotAt ec3)⟩, fun Dl hDl => lc_tup (xs := ls.map V.int) (fun j Hx => Ec c H Hx ∧ Hx F = some (.lst (as.map V.ref)) ∧ RowsA Hx as rs ∧ ∃ acc : Rw, Hx Dl = some (.lst (acc.map V.int)) ∧ acc.length = j ∧ ∀ x ∈ acc, 0 ≤ x ∧ x < 3) ?_ (fun j Hx _ z => .inl (lotAt z.1)) (fun j x Hx hx z => ?_) fun Hx z => ?_⟩
    · have e0 : Ec c H (upd H' Dl (.lst [])) := ec_trans ec3 (ec_ex ec3.2 (Ex.new hDl))
      exact ⟨e0, by rw [upd_ne (ne_of_none hF3 hDl)]; exact hF3, rows_mono (fz_of (Ex.new hDl)) hra, [], upd_same, rfl, fun _ z => nomatch z⟩
    · obtain ⟨z1, z2, z3, acc, z4, z5, z6⟩ := z
      have Dlc : Dl ≠ c := ec_ne ec3.2 hDl
      have DlF : Dl ≠ F := Ne.symm (ne_of_none hF3 hDl)
      refine ⟨rfl, yes_if ?_⟩
      refine toss_go (ev_var rfl) (ev_var rfl) z1.2 (by decide) (by decide) fun q Hy q0 q3 ecy => ?_
      obtain ⟨y1, y2, y3⟩ := stay ecy z1 z2 z3
      have y4 := ecy.1 _ _ Dlc z4
      have DlH : H Dl = none := ec_fresh hc ec3 hDl
      have hlt := (List.getElem?_eq_some_iff.mp hx).1
      rw [List.length_map] at hlt
      refine ⟨acc.map V.int, y4, sz_lt (by rw [List.length_map]; omega), ec_mut hc y1 DlH, by rw [upd_ne (Ne.symm DlF)]; exact y2, rows_mono (fz_upd y4) y3, acc ++ [q], by rw [upd_same, List.map_append]; rfl, by rw [List.length_append, z5]; rfl, fun x hx => ?_⟩
      rcases List.mem_append.mp hx with h | h
      · exact z6 x h
      · rw [List.mem_singleton.mp h]
        exact ⟨q0, q3⟩
    obtain ⟨z1, z2, z3, acc, z4, z5, z6⟩ := z
    rw [List.length_map] at z5
    have Dlc : Dl ≠ c := ec_ne ec3.2 hDl
    have DlF : Dl ≠ F := Ne.symm (ne_of_none hF3 hDl)
    have DlH : H Dl = none := ec_fresh hc ec3 hDl
    -- from the second test on
    have rest2 : ∀ (D' : Ends), (∀ (σ' : L2.St) (H' : Hp), (∃ r6 r7 as rs, σ' = [some (.ref c), some (.ref la), some (.int 14), some (.int 3), some (.ref F), some (.int way), r6, r7, none, none] ∧ Ec c H H' ∧ H' F = some (.lst (as.map V.ref)) ∧ RowsA H' as rs ∧ rs.length ≤ 2 * (i + 1) ∧ ∀ r ∈ rs, RowOk ls.length r) → D'.nx σ' H') → ∀ (Hc : Hp) (acc : Rw), Ec c H Hc → Hc F = some (.lst (as.map V.ref)) → RowsA Hc as rs → Hc Dl = some (.lst (acc.map V.int)) → acc.length = ls.length → (∀ x ∈ acc, 0 ≤ x ∧ x < 3) →
        tSeq (tIfS (tTest (tOp rEq (tVar 5) (tC (.int 1)))) (tAsg (tLc (iList K (tVar 7)) (gName 9) tYes (tIf (tTest (tOp rEq (tOp (rI (fun _ j => 0 < j) fun i j => .int (i % j)) (tVar 9) (tC (.int 2))) (tC (.int 0)))) (tOp (rI0 fun i j => .int (i - j)) (tC (.int 999999999)) (tVar 9)) (tOp (rI0 fun i j => .int (i - j)) (tC (.int 0)) (tVar 9))) [9]) (gName 7)) tNext)
          (tSeq (tDrop (tBM K "list" rAppend (tVar 4) (tCons (tCB (rTupS K) (tCons (tVar 7) tNil)) tNil))) (tIfS (tTest (tOp rEq (tDef (sp__law_tossed K C) E0 (tCons (tVar 0) (tCons (tC (.int 6)) tNil))) (tC (.int 0)))) (tDrop (tBM K "list" rAppend (tVar 4) (tCons (tCB (rTupS K) (tCons (tVar 7) tNil)) tNil))) tNext)) D' [some (.ref c), some (.ref la), some (.int 14), some (.int 3), some (.ref F), some (.int way), some (.int (0 + (i : Int))), some (.ref Dl), none, none] Hc := by
      intro D' hD Hc acc e1 h1 h2 h3 h4 h5
      refine q_when (b := decide (V.int way = V.int 1)) (et_test (ev_op (ev_var rfl) ev_c (rv_eq rfl))) (fun _ Hd ed => ?_) fun _ Hd ed => ?_
      · refine s_asgL (el_map1 (fun v => match v with | V.int x => V.int (if x % 2 = 0 then 999999999 - x else 0 - x) | _ => .non) (ei_lst (ev_var rfl) (ed _ _ h3)) (by rw [List.length_map]; omega) (fun _ => rfl) fun v H5 hv e5 => ?_) fun p H5 hp e5 hpl => ?_
        · obtain ⟨x, hx, rfl⟩ := mem_int hv
          refine ev_if (b := decide (V.int (x % 2) = V.int 0)) (et_test (ev_op (ev_op (ev_var rfl) ev_c (rv_I (by decide))) ev_c (rv_eq rfl))) (fun hb => ?_) fun hb => ?_
          · have hb := V.int.inj (of_decide_eq_true hb)
            refine ev_is (ev_op ev_c (ev_var rfl) rv_I0) ?_
            show V.int _ = V.int (if x % 2 = 0 then 999999999 - x else 0 - x)
            rw [if_pos hb]
          · have hb : ¬ x % 2 = 0 := fun z => by
              rw [z] at hb
              exact absurd hb (by decide)
            refine ev_is (ev_op ev_c (ev_var rfl) rv_I0) ?_
            show V.int _ = V.int (if x % 2 = 0 then 999999999 - x else 0 - x)
            rw [if_neg hb]
        · rw [List.map_map] at hpl
          obtain ⟨y1, y2, y3⟩ := stay (ec_ex e1.2 (ed.trans e5)) e1 h1 h2
          have hpl2 : H5 p = some (.lst ((acc.map fun x => if x % 2 = 0 then 999999999 - x else 0 - x).map V.int)) := by
            rw [hpl, List.map_map]
            rfl
          refine rest D' hD p H5 _ y1 y2 y3 hpl2 (ec_fresh hc (ec_trans e1 (ec_ex e1.2 ed)) hp) (Ne.symm (ne_of_none (ed _ _ h1) hp)) ⟨by rw [List.length_map, h4], fun m hm => ?_⟩
          obtain ⟨x, hx, rfl⟩ := List.mem_map.mp hm
          have := h5 x hx
          by_cases hb : x % 2 = 0
          · rw [if_pos hb]
            omega
          · rw [if_neg hb]
            omega
      · obtain ⟨y1, y2, y3⟩ := stay (ec_ex e1.2 ed) e1 h1 h2
        exact rest D' hD Dl Hd acc y1 y2 y3 (ed _ _ h3) DlH DlF ⟨h4, fun m hm => by have := h5 m hm; omega⟩
    -- the first test
    have no1 : ∀ {P : Prop}, P → P := fun h => h
    refine (et_test (ev_op (ev_var (v := .int way) rfl) ev_c (rv_eq rfl))) Hx (Ex.refl _) _ fun H4 e4 => ?_
    obtain ⟨y1, y2, y3⟩ := stay (ec_ex z1.2 e4) z1 z2 z3
    cases hb : decide (V.int way = V.int 0) with
    | false => exact rest2 _ (fun _ _ z => z) H4 acc y1 y2 y3 (e4 _ _ z4) z5 z6
    | true =>
      refine (et_test (ev_opV (H := H4) (ev_var (v := .ref la) rfl) (eu_tup ea_nil (by decide)) fun q H5 h5 e5 => rv_neI (ns := ls) (ms := []) ⟨la, rfl, ex_rd e5 (lotAt y1)⟩ ⟨q, rfl, .inl h5⟩)) H4 (Ex.refl _) _ fun H5 e5 => ?_
      obtain ⟨x1, x2, x3⟩ := stay (ec_ex y1.2 e5) y1 y2 y3
      have x4 := e5 _ _ (e4 _ _ z4)
      cases hb2 : (!decide (ls = [])) with
      | false => exact rest2 _ (fun _ _ z => z) H5 acc x1 x2 x3 x4 z5 z6
      | true =>
        refine toss_go (ev_var rfl) ev_c x1.2 (by decide) (by decide) fun q H6 q0 q3 ec6 => ⟨q, 0, rfl, rfl, decide (0 < q), rfl, ?_⟩
        obtain ⟨u1, u2, u3⟩ := stay ec6 x1 x2 x3
        have u4 := ec6.1 _ _ Dlc x4
        cases hb3 : decide (0 < q) with
        | false => exact rest2 _ (fun _ _ z => z) H6 acc u1 u2 u3 u4 z5 z6
        | true =>
          have lne : 0 < acc.length := by
            rw [z5]
            cases ls with
            | nil => exact absurd hb2 (by decide)
            | cons _ _ => rw [List.length_cons]; omega
          refine s_setL (j := 0) (v := .int 0) u4 ev_c (ev_var rfl) ev_c (by rw [List.length_map]; exact lne) fun H7 e7 => ?_
          obtain ⟨t1, t2, t3⟩ := stay (ec_ex u1.2 e7) u1 u2 u3
          have t4 := e7 _ _ u4
          refine rest2 _ (fun _ _ z => z) _ (acc.set 0 0) (ec_mut hc t1 DlH) (by rw [upd_ne (Ne.symm DlF)]; exact t2) (rows_mono (fz_upd t4) t3) (by rw [upd_same, List.map_set]) (by rw [List.length_set, z5]) fun x hx => ?_
          rcases List.mem_or_eq_of_mem_set hx with h | h
          · exact z6 x h
          · rw [h]
            exact ⟨by decide, by decide⟩
  · obtain ⟨r6, r7, as, rs, rfl, ec3, hF3, hra, hrl, hok⟩ := z
    exact s_ret (ev_var rfl) fun H4 e4 => k _ rs H4 (ec_trans ec3 (ec_ex ec3.2 e4)) ⟨F, as, rfl, e4 _ _ hF3, rows_mono (fz_of e4) hra⟩ (by omega) hok
end
end Q44
namespace Q44
open PySem PySem.Spec PyProof.Rows L2 M44 Evl
/-! values near told pieces -/
def IsT (xs : List V) (v : V) (H : Hp) : Prop := ∃ p, v = .ref p ∧ H p = some (.tup xs)
theorem IsT.mono {xs : List V} {v : V} {H H' : Hp} (e : Fz H H') (h : IsT xs v H) : IsT xs v H' := by
  obtain ⟨p, rfl, q⟩ := h
  exact ⟨p, rfl, e _ _ q (fun _ z => nomatch z)⟩
/-- a tuple of these pieces -/
def VT (C : Addr) (qs : List Pc) (v : V) (H : Hp) : Prop := ∃ us, IsT us v H ∧ PVals C H us qs
theorem VT.mono {C : Addr} {qs : List Pc} {v : V} {H H' : Hp} (e : Fz H H') (h : VT C qs v H) : VT C qs v H' := by
  obtain ⟨us, h1, h2⟩ := h
  exact ⟨us, h1.mono e, h2.mono e⟩
def Sm (qs : List Pc) : Prop := (∀ q ∈ qs, IsJ q.1) ∧ totR qs < 64 ∧ qs.length ≤ 1000
theorem VT.val {C : Addr} {qs : List Pc} {v : V} {H : Hp} (h : VT C qs v H) (s : Sm qs) : ∃ qs, ValP C H v qs := by
  obtain ⟨us, ⟨p, rfl, hp⟩, h2⟩ := h
  exact ⟨qs, p, us, rfl, hp, h2, s.1, s.2.1, s.2.2⟩
theorem totR_cat (a b : List Pc) : totR (a ++ b) = totR a + totR b := by
  unfold totR
  rw [List.map_append, List.sum_append]
theorem totR_drop (ps : List Pc) (n : Nat) : totR (ps.drop n) ≤ totR ps := by
  have e := totR_cat (ps.take n) (ps.drop n)
  rw [List.take_append_drop] at e
  omega
theorem totR_rev : ∀ ps : List Pc, totR ps.reverse = totR ps
  | [] => rfl
  | q :: ps => by
    rw [List.reverse_cons, totR_app, totR_rev ps]
    unfold totR
    rw [List.map_cons, List.sum_cons]
    omega
theorem paired_take {α β : Type} {F : α → β → Prop} : ∀ {l : List α} {m : List β}, Paired F l m → ∀ n, Paired F (l.take n) (m.take n)
  | _, _, .nil, n => by rw [List.take_nil, List.take_nil]; exact .nil
  | _, _, .cons r t, 0 => .nil
  | _, _, .cons r t, n + 1 => .cons r (paired_take t n)
theorem paired_drop {α β : Type} {F : α → β → Prop} : ∀ {l : List α} {m : List β}, Paired F l m → ∀ n, Paired F (l.drop n) (m.drop n)
  | _, _, .nil, n => by rw [List.drop_nil, List.drop_nil]; exact .nil
  | _, _, .cons r t, 0 => .cons r t
  | _, _, .cons r t, n + 1 => paired_drop t n
theorem paired_rev {α β : Type} {F : α → β → Prop} {l : List α} {m : List β} (h : Paired F l m) : Paired F l.reverse m.reverse := by
  induction h with
  | nil => exact .nil
  | cons r _ ih =>
    rw [List.reverse_cons, List.reverse_cons]
    exact paired_app ih (.cons r .nil)
section
variable {K : PySem.W.Frag} {mg : Str → Option Value} {C : Addr} {σ : L2.St} {H H' : Hp} {ta tb te tj tm : TE} {tA : TA} {tl th : TO} {qs rs : List Pc} {q : Pc} {lot : Rw} {rows : List Rw}
theorem vt_var {t : Addr} {us : List V} (h : Ev ta σ H (.ref t)) (ht : H t = some (.tup us)) (hp : PVals C H us qs) : EvP ta σ H (VT C qs) := evp_of h fun H2 e2 => ⟨us, ⟨t, rfl, e2 _ _ ht⟩, hp.mono (fz_of e2)⟩
theorem vt_sl {lo hi : Option Int} (f : ∀ {α : Type}, List α → List α) (hf : ∀ xs : List V, cutV xs lo hi = f xs) (hpf : ∀ {us : List V} {qs : List Pc} {H : Hp}, PVals C H us qs → PVals C H (f us) (f qs)) (ha : EvP ta σ H (VT C qs)) (hl : EvO tl σ H lo) (hh : EvO th σ H hi) : EvP (L2.tSl (rSlA K) ta tl th) σ H (VT C (f qs)) := fun H1 e Q q =>
  ha H1 e _ fun w H2 e2 h2 => hl H2 (e.trans e2) _ fun H3 e3 => hh H3 ((e.trans e2).trans e3) _ fun H4 e4 => by
    obtain ⟨us, ⟨a, rfl, ht⟩, hp⟩ := h2
    have h4 := e4 _ _ (e3 _ _ ht)
    have hp4 := hpf (hp.mono (fz_of (e3.trans e4)))
    refine ⟨a, us, rfl, st_of h4, fun hw => ?_, fun hw p hp' => ?_⟩
    · exact q _ H4 ((e2.trans e3).trans e4) ⟨f us, ⟨a, rfl, by rw [← hf, cut_whole hw]; exact h4⟩, hp4⟩
    · exact q _ _ (((e2.trans e3).trans e4).trans (Ex.new hp')) ⟨f us, ⟨p, rfl, by rw [upd_same, hf]⟩, hp4.mono (fz_of (Ex.new hp'))⟩
theorem vt_from (n : Nat) (ha : EvP ta σ H (VT C qs)) (hl : EvO tl σ H (some (n : Int))) (hh : EvO th σ H none) : EvP (L2.tSl (rSlA K) ta tl th) σ H (VT C (qs.drop n)) := vt_sl (fun l => l.drop n) (fun _ => cut_from n) (fun h => paired_drop h n) ha hl hh
theorem vt_to (n : Nat) (ha : EvP ta σ H (VT C qs)) (hl : EvO tl σ H none) (hh : EvO th σ H (some (n : Int))) : EvP (L2.tSl (rSlA K) ta tl th) σ H (VT C (qs.take n)) := vt_sl (fun l => l.take n) (fun _ => cut_to n) (fun h => paired_take h n) ha hl hh
theorem vt_mid (n m : Nat) (hm : n ≤ m) (ha : EvP ta σ H (VT C qs)) (hl : EvO tl σ H (some (n : Int))) (hh : EvO th σ H (some (m : Int))) : EvP (L2.tSl (rSlA K) ta tl th) σ H (VT C ((qs.drop n).take (m - n))) := vt_sl (fun l => (l.drop n).take (m - n)) (fun _ => cut_mid n m hm) (fun h => paired_take (paired_drop h n) _) ha hl hh
theorem vt_cat (ha : EvP ta σ H (VT C qs)) (hb : ∀ H1, Ex H H1 → EvP tb σ H1 (VT C rs)) (hz : qs.length + rs.length ≤ 100000) : EvP (tOp (rCatA K) ta tb) σ H (VT C (qs ++ rs)) := fun H1 e Q k =>
  ha H1 e _ fun w H2 e2 h2 => hb H2 (e.trans e2) H2 (Ex.refl _) _ fun w2 H3 e3 h3 => by
    obtain ⟨us, ⟨a, rfl, h2⟩, p2⟩ := h2
    obtain ⟨xs, ⟨b, rfl, h3⟩, p3⟩ := h3
    have h2' := e3 _ _ h2
    have p2' := p2.mono (fz_of e3)
    have l1 : us.length = qs.length := Paired.length p2
    have l2 : xs.length = rs.length := Paired.length p3
    have pp := paired_app p2' p3
    refine ⟨a, b, us, xs, rfl, rfl, st_of h2', st_of h3, sz_of (by omega), fun hx => ?_, fun hx hy => ?_, fun hx hy p hp => ?_⟩
    · exact k _ H3 (e2.trans e3) ⟨us ++ xs, ⟨b, rfl, by rw [hx]; exact h3⟩, pp⟩
    · exact k _ H3 (e2.trans e3) ⟨us ++ xs, ⟨a, rfl, by rw [hy, List.append_nil]; exact h2'⟩, pp⟩
    · exact k _ _ ((e2.trans e3).trans (Ex.new hp)) ⟨us ++ xs, ⟨p, rfl, upd_same⟩, PVals.mono (fz_of (Ex.new hp)) pp⟩
theorem vt_rev (ha : EvP ta σ H (VT C qs)) : EvP (tRevT K ta) σ H (VT C qs.reverse) := fun H1 e Q q => ha H1 e _ fun w H2 e2 h2 => by
  obtain ⟨us, ⟨a, rfl, h2⟩, p2⟩ := h2
  exact ⟨a, us, rfl, st_of h2, fun p hp => q _ _ (e2.trans (Ex.new hp)) ⟨us.reverse, ⟨p, rfl, upd_same⟩, PVals.mono (fz_of (Ex.new hp)) (paired_rev p2)⟩⟩
/-- displays -/
theorem evp_pair {j : V} (hj : EvP tj σ H fun v _ => v = j) (hm : ∀ H1, Ex H H1 → EvP tm σ H1 fun v H2 => TabV C H2 v lot rows) : EvP (tTup (tCons tj (tCons tm tNil))) σ H fun v H2 => PairAt C H2 v (j, lot, rows) := fun H1 e Q q =>
  hj H1 e _ fun v H2 e2 z => hm H2 (e.trans e2) H2 (Ex.refl _) _ fun w H3 e3 z2 => ⟨by show 2 ≤ sizeLine; decide, fun p hp => by
    subst z
    obtain ⟨t, rfl, g⟩ := z2
    exact q _ _ ((e2.trans e3).trans (Ex.new hp)) ⟨p, t, rfl, upd_same, g.mono (fz_of (Ex.new hp))⟩⟩
theorem eap_pn : EvPA tNil σ H fun us H2 => PVals C H2 us [] := eap_nil fun _ _ => .nil
theorem eap_pc (h : EvP ta σ H fun v H2 => PairAt C H2 v q) (hr : ∀ H1, Ex H H1 → EvPA tA σ H1 fun us H2 => PVals C H2 us qs) : EvPA (tCons ta tA) σ H fun us H2 => PVals C H2 us (q :: qs) := fun H1 e Q k =>
  h H1 e _ fun v H2 e2 z => hr H2 (e.trans e2) H2 (Ex.refl _) _ fun us H3 e3 z2 => k _ H3 (e2.trans e3) (.cons (z.mono (fz_of e3)) z2)
theorem vt_disp (h : EvPA tA σ H fun us H2 => PVals C H2 us qs) (hl : qs.length ≤ 1000) : EvP (tTup tA) σ H (VT C qs) := fun H1 e Q k => h H1 e _ fun us H2 e2 z => by
  have l1 : us.length = qs.length := Paired.length z
  exact ⟨sz_of (by omega), fun p hp => k _ _ (e2.trans (Ex.new hp)) ⟨us, ⟨p, rfl, upd_same⟩, PVals.mono (fz_of (Ex.new hp)) z⟩⟩
def LTs (C : Addr) (qs : List Pc) (v : V) (H : Hp) : Prop := ∃ l us, v = .ref l ∧ H l = some (.lst us) ∧ PVals C H us qs
theorem vt_tuple (h : EvP te σ H (LTs C qs)) : EvP (tCB (rTupS K) (tCons te tNil)) σ H (VT C qs) := fun H1 e Q k => h H1 e _ fun v H2 e2 z => by
  obtain ⟨l, us, rfl, hl, hp⟩ := z
  exact ⟨l, us, rfl, .inl ⟨sq_of hl, fun p hp' => k _ _ (e2.trans (Ex.new hp')) ⟨us, ⟨p, rfl, upd_same⟩, hp.mono (fz_of (Ex.new hp'))⟩⟩⟩
/-- rows: slices, walks, tuples -/
theorem rt_sl {lo hi : Option Int} (f : ∀ {α : Type}, List α → List α) (hf : ∀ xs : List V, cutV xs lo hi = f xs) (hmap : ∀ as : List Addr, f (as.map V.ref) = (f as).map V.ref) (hpf : ∀ {as : List Addr} {rs : List Rw} {H : Hp}, RowsA H as rs → RowsA H (f as) (f rs)) (ha : EvP ta σ H fun v H2 => RowsT H2 v rows) (hl : EvO tl σ H lo) (hh : EvO th σ H hi) :
    EvP (L2.tSl (rSlA K) ta tl th) σ H fun v H2 => RowsT H2 v (f rows) := fun H1 e Q q =>
  ha H1 e _ fun w H2 e2 h2 => hl H2 (e.trans e2) _ fun H3 e3 => hh H3 ((e.trans e2).trans e3) _ fun H4 e4 => by
    obtain ⟨a, as, rfl, ht, hr⟩ := h2
    have h4 := e4 _ _ (e3 _ _ ht)
    have hr4 := hpf (rows_mono (fz_of (e3.trans e4)) hr)
    refine ⟨a, _, rfl, st_of h4, fun hw => ?_, fun hw p hp' => ?_⟩
    · exact q _ H4 ((e2.trans e3).trans e4) ⟨a, f as, rfl, by rw [← hmap, ← hf, cut_whole hw]; exact h4, hr4⟩
    · exact q _ _ (((e2.trans e3).trans e4).trans (Ex.new hp')) ⟨p, f as, rfl, by rw [upd_same, hf, hmap], rows_mono (fz_of (Ex.new hp')) hr4⟩
theorem rt_from (n : Nat) (ha : EvP ta σ H fun v H2 => RowsT H2 v rows) (hl : EvO tl σ H (some (n : Int))) (hh : EvO th σ H none) : EvP (L2.tSl (rSlA K) ta tl th) σ H fun v H2 => RowsT H2 v (rows.drop n) := rt_sl (fun l => l.drop n) (fun _ => cut_from n) (fun _ => List.map_drop.symm) (fun h => paired_drop h n) ha hl hh
theorem rt_to (n : Nat) (ha : EvP ta σ H fun v H2 => RowsT H2 v rows) (hl : EvO tl σ H none) (hh : EvO th σ H (some (n : Int))) : EvP (L2.tSl (rSlA K) ta tl th) σ H fun v H2 => RowsT H2 v (rows.take n) := rt_sl (fun l => l.take n) (fun _ => cut_to n) (fun _ => List.map_take.symm) (fun h => paired_take h n) ha hl hh
theorem rt_cat {r2 : List Rw} (ha : EvP ta σ H fun v H2 => RowsT H2 v rows) (hb : ∀ H1, Ex H H1 → EvP tb σ H1 fun v H2 => RowsT H2 v r2) (hz : rows.length + r2.length ≤ 100000) : EvP (tOp (rCatA K) ta tb) σ H fun v H2 => RowsT H2 v (rows ++ r2) := fun H1 e Q k =>
  ha H1 e _ fun w H2 e2 h2 => hb H2 (e.trans e2) H2 (Ex.refl _) _ fun w2 H3 e3 h3 => by
    obtain ⟨a, as, rfl, h2, p2⟩ := h2
    obtain ⟨b, bs, rfl, h3, p3⟩ := h3
    have h2' := e3 _ _ h2
    have p2' := rows_mono (fz_of e3) p2
    have l1 := p2.len
    have l2 := p3.len
    have pp := paired_app p2' p3
    refine ⟨a, b, _, _, rfl, rfl, st_of h2', st_of h3, sz_of (by rw [List.length_map, List.length_map]; omega), fun hx => ?_, fun hx hy => ?_, fun hx hy p hp => ?_⟩
    · refine k _ H3 (e2.trans e3) ⟨b, as ++ bs, rfl, ?_, pp⟩
      rw [List.map_append, hx]
      exact h3
    · refine k _ H3 (e2.trans e3) ⟨a, as ++ bs, rfl, ?_, pp⟩
      rw [List.map_append, hy, List.append_nil]
      exact h2'
    · exact k _ _ ((e2.trans e3).trans (Ex.new hp)) ⟨p, as ++ bs, rfl, by rw [upd_same, List.map_append], rows_mono (fz_of (Ex.new hp)) pp⟩
/-- (row,) -/
theorem rt_one {r : Rw} (h : EvP ta σ H fun v H2 => ∃ t, v = .ref t ∧ H2 t = some (.tup (r.map V.int))) : EvP (tTup (tCons ta tNil)) σ H fun v H2 => RowsT H2 v [r] := fun H1 e Q q => h H1 e _ fun v H2 e2 z => by
  obtain ⟨t, rfl, ht⟩ := z
  exact ⟨by show 1 ≤ sizeLine; decide, fun p hp => q _ _ (e2.trans (Ex.new hp)) ⟨p, [t], rfl, upd_same, .cons (Ex.new hp _ _ ht) .nil⟩⟩
theorem rt_nil : EvP (tTup tNil) σ H fun v H2 => RowsT H2 v [] := fun H1 e Q q => ⟨Nat.zero_le _, fun p hp => q _ _ (Ex.new hp) ⟨p, [], rfl, upd_same, .nil⟩⟩
theorem rt_tuple (h : EvP te σ H fun v H2 => RowsL H2 v rows) : EvP (tCB (rTupS K) (tCons te tNil)) σ H fun v H2 => RowsT H2 v rows := fun H1 e Q k => h H1 e _ fun v H2 e2 z => by
  obtain ⟨l, as, rfl, hl, hp⟩ := z
  exact ⟨l, _, rfl, .inl ⟨sq_of hl, fun p hp' => k _ _ (e2.trans (Ex.new hp')) ⟨p, as, rfl, upd_same, rows_mono (fz_of (Ex.new hp')) hp⟩⟩⟩
theorem ei_rows (h : EvP te σ H fun v H2 => RowsT H2 v rows) : EvI (iTup K te) σ H rows.length (fun i H3 v H4 => H4 = H3 ∧ ∃ t r, v = .ref t ∧ rows[i]? = some r ∧ H3 t = some (.tup (r.map V.int))) := fun H1 e R q =>
  h H1 e _ fun w H2 e2 hw => by
    obtain ⟨a, as, rfl, ha, hr⟩ := hw
    have len := hr.len
    refine ⟨a, rfl, ⟨_, st_of ha⟩, q _ _ e2 fun i H3 e3 => ?_⟩
    have hs := st_of (K := K) (e3 _ _ ha)
    refine ⟨fun hi => ⟨_, V.ref (as[i]'(by omega)), hs, by rw [List.getElem?_map, List.getElem?_eq_getElem (by omega)]; rfl⟩, fun hi => ⟨_, hs, by rw [List.length_map]; omega⟩, fun v H4 y => ⟨y.1, ?_⟩⟩
    have y2 := y.2 _ hs
    rw [List.getElem?_map] at y2
    obtain ⟨t, ht, rfl⟩ := Option.map_eq_some_iff.mp y2
    obtain ⟨r, hr1, hr2⟩ := hr.get ht
    exact ⟨t, r, rfl, hr1, e3 _ _ hr2⟩
/-- Table(lot, rows) -/
theorem tab_mk (hl : EvP ta σ H fun v H2 => LT H2 v lot) (hb : ∀ H1, Ex H H1 → EvP tb σ H1 fun v H2 => RowsT H2 v rows) (ok : TOk lot rows) (h64 : rows.length < 64) (hd : 2 ≤ rows.length → 1 ≤ lot.length) : EvP (StX.tMakeR C (sp_T_init K C) E0 (tCons ta (tCons tb tNil))) σ H fun v H2 => TabV C H2 v lot (mk rows) :=
  evp_mk (eap_cons hl fun v H1 e1 z => eap_cons (hb H1 e1) fun w H2 e2 z2 => eap_nil fun H3 e3 => ⟨_, _, rfl, z.mono (fz_of (e2.trans e3)), z2.mono (fz_of e3)⟩) ok h64 hd
end
def pmapP (f : V → V) (qs : List Pc) : List Pc := qs.map fun q => (f q.1, q.2.1, q.2.2)
theorem totR_pmap (f : V → V) (qs : List Pc) : totR (pmapP f qs) = totR qs := by
  unfold totR pmapP
  rw [List.map_map]
  rfl
section
variable {K : PySem.W.Frag} {mg : Str → Option Value} {C : Addr} {σ : L2.St} {H H' : Hp} {ta tb te tj tm : TE} {tA : TA} {tl th : TO} {qs rs : List Pc} {q : Pc} {lot : Rw} {rows : List Rw}
/-- [(f j, piece) for j, piece in told] -/
theorem lt_pairs {t : Addr} {us : List V} {ij ip : Nat} {ws : List Nat} (f : V → V) (h : Ev ta σ H (.ref t)) (ht : H t = some (.tup us)) (hp : PVals C H us qs) (hn : qs.length ≤ 1000) (w1 : ∀ u v, wipe (((wipe σ ws).set ij (some u)).set ip (some v)) ws = wipe σ ws) (w2 : ∀ u v, (((wipe σ ws).set ij (some u)).set ip (some v))[ip]? = some (some v))
    (he : ∀ q u v H1, q ∈ qs → u = q.1 → Ev tj (((wipe σ ws).set ij (some u)).set ip (some v)) H1 (f q.1)) : EvP (tLc (iTup K ta) (gTup K 2 (gCons (gName ij) (gCons (gName ip) gNil))) tYes (tTup (tCons tj (tCons (tVar ip) tNil))) ws) σ H (LTs C (pmapP f qs)) := by
  have len : us.length = qs.length := Paired.length hp
  refine evp_imp (lc_gen (fun i ys H2 => PVals C H2 ys (pmapP f (qs.take i))) (ei_tup h (.inl ht)) (by omega) (fun _ _ => .nil) (fun _ _ _ _ e p => PVals.mono e p) (fun i v ys H1 H2 lt e1 p y => ?_) g2_mono) fun v H2 e2 z => ?_
  · obtain ⟨rfl, hx⟩ := y
    obtain ⟨q, hq, pt, tt, rfl, hpp, htt⟩ := L2.paired_get hp hx
    refine ⟨pt, _, rfl, st_of (e1 _ _ hpp), rfl, _, _, rfl, _, _, rfl, rfl, w1 _ _, Ex.refl _, true, et_yes, fun z => (nomatch z), fun _ => ?_⟩
    refine evp_imp (evp_pair (j := f q.1) (lot := q.2.1) (rows := q.2.2) (C := C) (evp_of (he q _ _ _ (List.mem_of_getElem? hq) rfl) fun _ _ => rfl) fun H3 e3 => evp_of (ev_var (w2 _ _)) fun H4 e4 => ⟨tt, rfl, htt.mono (fz_of (e1.trans (e3.trans e4)))⟩) fun v H3 e3 z => ?_
    unfold pmapP
    rw [List.take_add_one, hq, List.map_append]
    exact paired_app (p.mono (fz_of e3)) (.cons z .nil)
  · obtain ⟨p, ys, rfl, _, hp2, hpv⟩ := z
    rw [len, List.take_length] at hpv
    exact ⟨p, ys, rfl, hp2, hpv⟩
/-- lists whose items are described alike -/
theorem eap_an {P : V → Hp → Prop} : EvPA tNil σ H fun vs H2 => vs.length = 0 ∧ ∀ v ∈ vs, P v H2 := eap_nil fun _ _ => ⟨rfl, fun _ z => nomatch z⟩
theorem eap_ac {P : V → Hp → Prop} {n : Nat} (hm : ∀ v H1 H2, Ex H1 H2 → P v H1 → P v H2) (h : EvP ta σ H P) (hr : ∀ H1, Ex H H1 → EvPA tA σ H1 fun vs H2 => vs.length = n ∧ ∀ v ∈ vs, P v H2) : EvPA (tCons ta tA) σ H fun vs H2 => vs.length = n + 1 ∧ ∀ v ∈ vs, P v H2 := fun H1 e Q k =>
  h H1 e _ fun v H2 e2 z => hr H2 (e.trans e2) H2 (Ex.refl _) _ fun us H3 e3 z2 => k _ H3 (e2.trans e3) ⟨by rw [List.length_cons, z2.1], fun u hu => by
    rcases List.mem_cons.mp hu with rfl | hu
    · exact hm _ _ _ e3 z
    · exact z2.2 u hu⟩
end
/-- the heap while the values are gathered in the list at F -/
structure NSt (C c : Addr) (H : Hp) (F n : Nat) (lv : V) (lot : Rw) (H' : Hp) : Prop where
  ec : Ec c H H'
  fl : ∃ us, H' F = some (.lst us) ∧ us.length ≤ n ∧ ∀ u ∈ us, ∃ qs, ValP C H' u qs
  lt : LT H' lv lot
theorem nst_ec {C c : Addr} {H H' H2 : Hp} {F n : Nat} {lv : V} {lot : Rw} (Fc : F ≠ c) (s : NSt C c H F n lv lot H') (e : Ec c H' H2) : NSt C c H F n lv lot H2 := by
  obtain ⟨us, h1, h2, h3⟩ := s.fl
  exact ⟨ec_trans s.ec e, ⟨us, e.1 _ _ Fc h1, h2, fun u hu => let ⟨qs, g⟩ := h3 u hu; ⟨qs, g.mono (ec_fz s.ec.2 e)⟩⟩, s.lt.mono (ec_fz s.ec.2 e)⟩
theorem nst_ex {C c : Addr} {H H' H2 : Hp} {F n : Nat} {lv : V} {lot : Rw} (Fc : F ≠ c) (s : NSt C c H F n lv lot H') (e : Ex H' H2) : NSt C c H F n lv lot H2 := nst_ec Fc s (ec_ex s.ec.2 e)
theorem nst_more {C c : Addr} {H H' : Hp} {F n m : Nat} {lv : V} {lot : Rw} (s : NSt C c H F n lv lot H') (h : n ≤ m) : NSt C c H F m lv lot H' := by
  obtain ⟨us, h1, h2, h3⟩ := s.fl
  exact ⟨s.ec, ⟨us, h1, Nat.le_trans h2 h, h3⟩, s.lt⟩
theorem nst_app {K : PySem.W.Frag} {C c : Addr} {H H' : Hp} {F n : Nat} {lv : V} {lot : Rw} {σ : L2.St} {te : TE} {D : Ends} {i : Nat} (hc : Cup H c) (hF : H F = none) (hn : n < 50000) (hσ : σ[i]? = some (some (.ref F))) (s : NSt C c H F n lv lot H') (h : EvP te σ H' fun v H2 => ∃ qs, ValP C H2 v qs)
    (k : ∀ H2, NSt C c H F (n + 1) lv lot H2 → Fz H' H2 → D.nx σ H2) : tDrop (tBM K "list" rAppend (tVar i) (tCons te tNil)) D σ H' := by
  obtain ⟨us, h1, h2, h3⟩ := s.fl
  refine s_appP h1 (ev_var hσ) h (by omega) fun v H2 e2 hv => ?_
  have fz := fz_upd (o := .lst (us ++ [v])) (e2 _ _ h1)
  refine k _ ⟨ec_mut hc (ec_trans s.ec (ec_ex s.ec.2 e2)) hF, ⟨us ++ [v], upd_same, by rw [List.length_append, List.length_singleton]; omega, fun u hu => ?_⟩, s.lt.mono ((fz_of e2).trans fz)⟩ ((fz_of e2).trans fz)
  rcases List.mem_append.mp hu with hu | hu
  · obtain ⟨qs, g⟩ := h3 u hu
    exact ⟨qs, g.mono ((fz_of e2).trans fz)⟩
  · rw [List.mem_singleton.mp hu]
    obtain ⟨qs, g⟩ := hv
    exact ⟨qs, g.mono fz⟩
theorem q_nst {K : PySem.W.Frag} {C c : Addr} {H H' : Hp} {F n : Nat} {lv : V} {lot : Rw} {σ : L2.St} {te : TE} {D : Ends} {tz : TS} {i : Nat} (hc : Cup H c) (hF : H F = none) (hn : n < 50000) (hσ : σ[i]? = some (some (.ref F))) (s : NSt C c H F n lv lot H') (h : EvP te σ H' fun v H2 => ∃ qs, ValP C H2 v qs)
    (k : ∀ H2, NSt C c H F (n + 1) lv lot H2 → Fz H' H2 → tz D σ H2) : tSeq (tDrop (tBM K "list" rAppend (tVar i) (tCons te tNil))) tz D σ H' := nst_app (D := { D with nx := tz D }) hc hF hn hσ s h k
/-- a list of what is described alike -/
theorem evp_lstA {P : V → Hp → Prop} {n : Nat} {tA : TA} {σ : L2.St} {H : Hp} (hm : ∀ v H1 H2, Ex H1 H2 → P v H1 → P v H2) (h : EvPA tA σ H fun vs H2 => vs.length = n ∧ ∀ v ∈ vs, P v H2) (hn : n ≤ 1000) : EvP (tLst tA) σ H fun v H2 => ∃ F us, v = .ref F ∧ H F = none ∧ H2 F = some (.lst us) ∧ us.length = n ∧ ∀ u ∈ us, P u H2 := fun H1 e Q q => h H1 e _ fun us H2 e2 z =>
  ⟨sz_of (by omega), fun p hp => q _ _ (e2.trans (Ex.new hp)) ⟨p, us, rfl, fresh_back (e.trans e2) hp, upd_same, z.1, fun u hu => hm _ _ _ (Ex.new hp) (z.2 u hu)⟩⟩
theorem evp_catL {C : Addr} {qs rs : List Pc} {ta tb : TE} {σ : L2.St} {H : Hp} (ha : EvP ta σ H (LTs C qs)) (hb : ∀ H1, Ex H H1 → EvP tb σ H1 (LTs C rs)) (hz : qs.length + rs.length ≤ 100000) : EvP (tOp rCat ta tb) σ H (LTs C (qs ++ rs)) := fun H1 e Q k =>
  ha H1 e _ fun w H2 e2 h2 => hb H2 (e.trans e2) H2 (Ex.refl _) _ fun w2 H3 e3 h3 => by
    obtain ⟨a, us, rfl, h2, p2⟩ := h2
    obtain ⟨b, xs, rfl, h3, p3⟩ := h3
    have l1 : us.length = qs.length := Paired.length p2
    have l2 : xs.length = rs.length := Paired.length p3
    exact ⟨a, b, us, xs, rfl, rfl, e3 _ _ h2, h3, sz_of (by omega), fun p hp => k _ _ ((e2.trans e3).trans (Ex.new hp)) ⟨p, us ++ xs, rfl, upd_same, PVals.mono (fz_of (Ex.new hp)) (paired_app (p2.mono (fz_of e3)) p3)⟩⟩
theorem lts_disp {C : Addr} {qs : List Pc} {tA : TA} {σ : L2.St} {H : Hp} (h : EvPA tA σ H fun us H2 => PVals C H2 us qs) (hl : qs.length ≤ 1000) : EvP (tLst tA) σ H (LTs C qs) := fun H1 e Q k => h H1 e _ fun us H2 e2 z => by
  have l1 : us.length = qs.length := Paired.length z
  exact ⟨sz_of (by omega), fun p hp => k _ _ (e2.trans (Ex.new hp)) ⟨p, us, rfl, upd_same, PVals.mono (fz_of (Ex.new hp)) z⟩⟩
theorem lts_mono {C : Addr} {qs : List Pc} {v : V} {H H' : Hp} (e : Ex H H') (h : LTs C qs v H) : LTs C qs v H' := by
  obtain ⟨l, us, rfl, h1, h2⟩ := h
  exact ⟨l, us, rfl, e _ _ h1, h2.mono (fz_of e)⟩
theorem pv_ok {C : Addr} {H : Hp} {us : List V} {qs : List Pc} (h : PVals C H us qs) : ∀ q ∈ qs, TOk q.2.1 q.2.2 := by
  unfold PVals at h
  induction h with
  | nil => intro q z; cases z
  | cons r _ ih =>
    intro q z
    rcases List.mem_cons.mp z with rfl | z
    · obtain ⟨p, t, _, _, dx, g⟩ := r
      exact g.1
    · exact ih q z
theorem len_tot {ps : List Pc} (h : ∀ q ∈ ps, q.2.2 ≠ []) : ps.length ≤ totR ps := by
  induction ps with
  | nil => exact Nat.zero_le _
  | cons q ps ih =>
    have i := ih fun q hq => h q (List.mem_cons_of_mem _ hq)
    have n := h q List.mem_cons_self
    unfold totR at i ⊢
    rw [List.map_cons, List.sum_cons, List.length_cons]
    have : 1 ≤ q.2.2.length := by
      cases hq : q.2.2 with
      | nil => exact absurd hq n
      | cons _ _ => rw [List.length_cons]; omega
    omega
end Q44
namespace Q44
open PySem PySem.Spec PyProof.Rows L2 M44 Evl
section
variable {P : Program} {w : World} {K : PySem.W.Frag} {mg : Str → Option Value} {base : Heap} {C : Addr}
theorem et_neNil {σ : L2.St} {H : Hp} {ta : TE} {t : Addr} {vs : List V} (h : Ev ta σ H (.ref t)) (ht : H t = some (.tup vs)) : EvT (tTest (tOp rNeNil ta (tTup tNil))) σ H (!vs.isEmpty) := et_test (ev_opU h (eu_tup ea_nil (by decide)) fun q H2 h2 e2 => fun H3 e3 Q k => ⟨t, q, vs, rfl, rfl, e3 _ _ (e2 _ _ ht), e3 _ _ h2, k H3 (Ex.refl _)⟩)
theorem far_ok {d : Nat} {r : Rw} (h : RowOk d r) : RowOk d (r.map fun x => if 0 < x then x - 1 else x + 1) := by
  refine ⟨by rw [List.length_map]; exact h.1, fun m hm => ?_⟩
  obtain ⟨x, hx, rfl⟩ := List.mem_map.mp hm
  have := h.2 x hx
  by_cases c : 0 < x
  · rw [if_pos c]
    omega
  · rw [if_neg c]
    omega
theorem rows_list {K : PySem.W.Frag} {te : TE} {σ : L2.St} {H : Hp} {rows : List Rw} (h : EvP te σ H fun v H2 => RowsT H2 v rows) : EvP (tCB (rListS K) (tCons te tNil)) σ H fun v H2 => ∃ l as, v = .ref l ∧ H l = none ∧ H2 l = some (.lst (as.map V.ref)) ∧ RowsA H2 as rows := fun H1 e Q q => h H1 e _ fun v H2 e2 w => by
  obtain ⟨a, as, rfl, ha, hr⟩ := w
  exact ⟨a, _, rfl, .inr (st_of ha), fun l hl => q _ _ (e2.trans (Ex.new hl)) ⟨l, as, rfl, fresh_back (e.trans e2) hl, upd_same, rows_mono (fz_of (Ex.new hl)) hr⟩⟩
theorem smk {qs : List Pc} (h : ∀ q ∈ qs, IsJ q.1) (h2 : totR qs < 64) (h3 : qs.length ≤ 1000) : Sm qs := ⟨h, h2, h3⟩
theorem tot_cons (q : Pc) (qs : List Pc) : totR (q :: qs) = q.2.2.length + totR qs := by
  unfold totR
  rw [List.map_cons, List.sum_cons]
theorem tot_singles (lot : Rw) : ∀ rows : List Rw, totR (rows.map fun r => ((V.int 0, lot, mk [r]) : Pc)) ≤ rows.length
  | [] => Nat.le_refl _
  | r :: rows => by
    rw [List.map_cons, tot_cons, List.length_cons]
    have i := tot_singles lot rows
    have m := mk_len [r]
    have : (mk [r]).length ≤ 1 := m
    show (mk [r]).length + _ ≤ _
    omega
section
variable {K : PySem.W.Frag} {σ : L2.St} {H : Hp} {ta te tl : TE} {tr tA : TA} {tz tu : TS} {D : Ends} {g : TG} {i : Nat} {P : V → Hp → Prop}
theorem q_asgR (h : ∀ Q : VK, (∀ v H1, P v H1 → Q v H1) → te σ H Q) (k : ∀ v H1, P v H1 → tz D (σ.set i (some v)) H1) : tSeq (tAsg te (gName i)) tz D σ H := h _ k
theorem tup_raw {Q : VK} (h : tA σ H fun xs H1 => xs.length ≤ sizeLine ∧ ∀ p, H1 p = none → Q (.ref p) (upd H1 p (.tup xs))) : tTup tA σ H Q := h
theorem cons_raw {Q : List V → Hp → Prop} (h : ta σ H fun x H1 => tr σ H1 fun xs H2 => Q (x :: xs) H2) : tCons ta tr σ H Q := h
theorem q_forTR (h : ∀ Q : VK, (∀ v H1, P v H1 → Q v H1) → tl σ H Q) (k : ∀ v H1, P v H1 → ∃ a xs, v = .ref a ∧ SqT K H1 a xs ∧ ∃ Pv : Nat → L2.St → Hp → Prop, Pv 0 σ H1 ∧ (∀ i σ' H', i ≤ xs.length → Pv i σ' H' → SqT K H' a xs) ∧
    (∀ i x σ' H', xs[i]? = some x → Pv i σ' H' → g x σ' H' fun σ2 H2 => tu { D with nx := Pv (i + 1), ct := Pv (i + 1), bk := tz D } σ2 H2) ∧ ∀ σ' H', Pv xs.length σ' H' → tz D σ' H') : tSeq (tFor (iTup K tl) g tu) tz D σ H := h _ fun v H1 p => by
  obtain ⟨a, xs, ev, hx, Pv, p0, p1, p2, p3⟩ := k v H1 p
  exact ⟨a, ev, ⟨xs, hx⟩, for_tup (D := { D with nx := tz D }) Pv p0 p1 p2 p3⟩
end
theorem totR_hole (ps : List Pc) (n : Nat) : totR (ps.take n) + totR (ps.drop (n + 1)) ≤ totR ps := by
  have e := totR_cat (ps.take n) (ps.drop n)
  rw [List.take_append_drop] at e
  have d := totR_drop (ps.drop n) 1
  rw [List.drop_drop] at d
  omega
theorem rt_lit {σ : L2.St} {H : Hp} {n : Int} : EvP (tTup (tCons (tTup (tCons (tC (.int n)) tNil)) tNil)) σ H fun v H2 => RowsT H2 v [[n]] := by
  refine rt_one (r := [n]) ?_
  refine evp_imp (evp_U (eu_tup (vs := [.int n]) (ea1 ev_c) (by show 1 ≤ 100000; decide))) ?_
  intro v H23 e23 z
  obtain ⟨p, z1, _, z2⟩ := z
  exact ⟨p, z1, z2⟩
abbrev s__law_near : Stmt := top 54
abbrev N__law_near : List Str := ["_law_cup_here", "_law_table", "_law_told", "_law_found", "_law_lot", "_law_finer", "_law_j", "_law_piece", "_law_half", "_law_rows", "_law_turn", "_law_at", "_law_row", "_law_less", "_law_far", "_law_more", "_law_other", "_law_one", "_law_number"]
theorem sc__law_near : FnScope N__law_near ["_law_cup_here", "_law_table", "_law_told"] (defScope s__law_near) := ⟨rfl, rfl, rfl, by decide +kernel, rfl, by decide +kernel, by decide +kernel⟩
theorem ok__law_near {f : Addr} {fd : FuncData} (F : Fun K "_law_near" "_law_near" s__law_near f fd) (T : Tx K mg C) {f_T_lot p_T_lot : Addr} (D_T_lot : PrD P w K mg base C "lot" p_T_lot f_T_lot 1 (sp_T_lot K C)) {f_T_init : Addr} (D_T_init : MkD P w K mg base C f_T_init 5 (sp_T_init K C)) {f_T_rows p_T_rows : Addr} (D_T_rows : PrD P w K mg base C "rows" p_T_rows f_T_rows 1 (sp_T_rows K C)) {f_T_len : Addr} (D_T_len : OwD P w K mg base C "__len__" f_T_len 1 (sp_T_len K C)) {f__law_tossed : Addr} (D__law_tossed : Df P w K mg base "_law_tossed" f__law_tossed 1 (sp__law_tossed K C)) {f__law_one_of : Addr} (D__law_one_of : Df P w K mg base "_law_one_of" f__law_one_of 2 (sp__law_one_of K C)) : FnOk P w K mg base CX0 7 f fd ["_law_cup_here", "_law_table", "_law_told"] (sp__law_near K C) := by
  refine F.ok sc__law_near (fun vs H Q E h => len_sp3 h) (fun cdv A outer s H vs Q E hr h => ?_)
  obtain ⟨v0, v1, v2, rfl, h⟩ := h
  refine ⟨_, (pss_cons (ps_asg (pe_tup (pa_cons (pe_lst (pa_cons (pv 2) (pa_cons (k_rev (K := K) rfl (pv 2)) (pa_cons (pe_slice (k_slT (K := K) rfl) (pv 2) (po_some pe_int) po_none) (pa_cons (pe_op (k_catT (K := K) rfl) (pv 2) (pe_slice (k_slT (K := K) rfl) (pv 2) po_none (po_some pe_int))) (pa_cons (pe_tup (pa_cons (pe_tup (pa_cons pe_int (pa_cons (pv 1) pa_nil))) pa_nil)) (pa_cons (pe_tup (pa_cons (pe_tup (pa_cons pe_int (pa_cons (pv 1) pa_nil))) (pa_cons (pe_tup (pa_cons pe_int (pa_cons (pv 1) pa_nil))) pa_nil))) (pa_cons (pe_tup pa_nil) pa_nil)))))))) (pa_cons (k_prop D_T_lot T.is.sc hr (by decide) (pv 1)) pa_nil))) (k_gt (K := K) (n := 2) rfl rfl (pgs_cons (pg_name (i := 3) sc__law_near.nd rfl (Or.inl rfl)) (pgs_cons (pg_name (i := 4) sc__law_near.nd rfl (Or.inr rfl)) pgs_nil))))
      (pss_cons (ps_expr (k_bm (K := K) rfl PySem.F.plainAttrs_list PySem.F.slot_list_append PySem.F.type_list_append mt_append (pv 3) (pa_cons (pe_callTy (k_tuple (K := K) rfl) (by rfl) T.m_tuple boot_tuple (pa_cons (pe_lc (own := [("_law_j", 6), ("_law_piece", 7)]) rfl sc__law_near.nd (k_pit (K := K) rfl (pv 2)) (blkOk_by (own := [("_law_j", 6), ("_law_piece", 7)]) (N := N__law_near) (sc := defScope s__law_near) (by decide +kernel)) (fun _ _ _ _ _ => (k_gt (K := K) (n := 2) rfl rfl (pgs_cons (pg_name (i := 6) sc__law_near.nd rfl (Or.inl rfl)) (pgs_cons (pg_name (i := 7) sc__law_near.nd rfl (Or.inl rfl)) pgs_nil)))) (fun _ _ _ _ _ => pts_nil) (fun _ _ _ _ _ => (pe_tup (pa_cons (pe_op op_add (pv 6) pe_int) (pa_cons (pv 7) pa_nil))))) pa_nil)) pa_nil)))
      (pss_cons (ps_expr (k_bm (K := K) rfl PySem.F.plainAttrs_list PySem.F.slot_list_append PySem.F.type_list_append mt_append (pv 3) (pa_cons (pe_callTy (k_tuple (K := K) rfl) (by rfl) T.m_tuple boot_tuple (pa_cons (pe_lc (own := [("_law_j", 6), ("_law_piece", 7)]) rfl sc__law_near.nd (k_pit (K := K) rfl (pv 2)) (blkOk_by (own := [("_law_j", 6), ("_law_piece", 7)]) (N := N__law_near) (sc := defScope s__law_near) (by decide +kernel)) (fun _ _ _ _ _ => (k_gt (K := K) (n := 2) rfl rfl (pgs_cons (pg_name (i := 6) sc__law_near.nd rfl (Or.inl rfl)) (pgs_cons (pg_name (i := 7) sc__law_near.nd rfl (Or.inl rfl)) pgs_nil)))) (fun _ _ _ _ _ => pts_nil) (fun _ _ _ _ _ => (pe_tup (pa_cons (pe_op op_sub (pv 6) pe_int) (pa_cons (pv 7) pa_nil))))) pa_nil)) pa_nil)))
      (pss_cons (ps_expr (k_bm (K := K) rfl PySem.F.plainAttrs_list PySem.F.slot_list_append PySem.F.type_list_append mt_append (pv 3) (pa_cons (pe_op (k_catT (K := K) rfl) (pv 2) (pe_tup (pa_cons (pe_tup (pa_cons pe_int (pa_cons (k_mk D_T_init hr (by decide) T.mC (pa_cons (pv 4) (pa_cons (pe_tup pa_nil) pa_nil))) pa_nil))) pa_nil))) pa_nil)))
      (pss_cons (ps_expr (k_bm (K := K) rfl PySem.F.plainAttrs_list PySem.F.slot_list_append PySem.F.type_list_append mt_append (pv 3) (pa_cons (pe_callTy (k_tuple (K := K) rfl) (by rfl) T.m_tuple boot_tuple (pa_cons (pe_lc (own := [("_law_row", 12)]) rfl sc__law_near.nd (k_pit (K := K) rfl (k_prop D_T_rows T.is.sc hr (by decide) (pv 1))) (blkOk_by (own := [("_law_row", 12)]) (N := N__law_near) (sc := defScope s__law_near) (by decide +kernel)) (fun _ _ _ _ _ => (pg_name (i := 12) sc__law_near.nd rfl (Or.inl rfl))) (fun _ _ _ _ _ => pts_nil) (fun _ _ _ _ _ => (pe_tup (pa_cons pe_int (pa_cons (k_mk D_T_init hr (by decide) T.mC (pa_cons (pv 4) (pa_cons (pe_tup (pa_cons (pv 12) pa_nil)) pa_nil))) pa_nil))))) pa_nil)) pa_nil)))
      (pss_cons (ps_set (i := 5) sc__law_near.nd rfl (Or.inl rfl) (pe_lst pa_nil))
      (pss_cons (ps_for PassesOwn.never rfl (k_pit (K := K) rfl (pv 2)) (k_gt (K := K) (n := 2) rfl rfl (pgs_cons (pg_name (i := 6) sc__law_near.nd rfl (Or.inl rfl)) (pgs_cons (pg_name (i := 7) sc__law_near.nd rfl (Or.inl rfl)) pgs_nil)))
        (pss_cons (ps_set (i := 8) sc__law_near.nd rfl (Or.inl rfl) (pe_op op_fdiv (pe_callB (k_lenO D_T_len hr (by decide)) (by rfl) T.len PySem.boot_len (pa_cons (pv 7) pa_nil)) pe_int))
      (pss_one (ps_for PassesOwn.never rfl (k_pit (K := K) rfl (pe_tup (pa_cons (pe_slice (k_slT (K := K) rfl) (k_prop D_T_rows T.is.sc hr (by decide) (pv 7)) po_none (po_some (pv 8))) (pa_cons (pe_slice (k_slT (K := K) rfl) (k_prop D_T_rows T.is.sc hr (by decide) (pv 7)) (po_some (pv 8)) po_none) pa_nil)))) (pg_name (i := 9) sc__law_near.nd rfl (Or.inl rfl))
        (pss_one (ps_set (i := 5) sc__law_near.nd rfl (Or.inl rfl) (pe_op op_cat (pv 5) (pe_ifExp (pt_cmpR (k_neD (K := K) rfl hr.units) (pv 9) (pe_tup pa_nil) (nomark _)) (pe_lst (pa_cons (pe_tup (pa_cons (pv 6) (pa_cons (k_mk D_T_init hr (by decide) T.mC (pa_cons (pv 4) (pa_cons (pv 9) pa_nil))) pa_nil))) pa_nil)) (pe_lst pa_nil)))))))))
      (pss_cons (ps_expr (k_bm (K := K) rfl PySem.F.plainAttrs_list PySem.F.slot_list_append PySem.F.type_list_append mt_append (pv 3) (pa_cons (pe_callTy (k_tuple (K := K) rfl) (by rfl) T.m_tuple boot_tuple (pa_cons (pv 5) pa_nil)) pa_nil)))
      (pss_cons (ps_for PassesOwn.never rfl (pi_range1 (by rfl) T.range (pa_cons pe_int pa_nil)) (pg_name (i := 10) sc__law_near.nd rfl (Or.inl rfl))
        (pss_cons (ps_set (i := 11) sc__law_near.nd rfl (Or.inl rfl) (pe_ifExp (pt_cmpR (op_neNil hr.units0) (pv 2) (pe_tup pa_nil) (nomark _)) (pe_d D__law_tossed hr (by decide) (pa_cons (pv 0) (pa_cons (pe_callB (k_len (K := K) rfl) (by rfl) T.len PySem.boot_len (pa_cons (pv 2) pa_nil)) pa_nil))) pe_int))
      (pss_one (ps_for PassesOwn.never rfl (k_pit (K := K) rfl (pe_slice (k_slT (K := K) rfl) (pv 2) (po_some (pv 11)) (po_some (pe_op op_add (pv 11) pe_int)))) (k_gt (K := K) (n := 2) rfl rfl (pgs_cons (pg_name (i := 6) sc__law_near.nd rfl (Or.inl rfl)) (pgs_cons (pg_name (i := 7) sc__law_near.nd rfl (Or.inl rfl)) pgs_nil)))
        (pss_cons (ps_set (i := 12) sc__law_near.nd rfl (Or.inr rfl) (pe_d D__law_one_of hr (by decide) (pa_cons (pv 0) (pa_cons (pe_callTy (k_list (K := K) rfl) (by rfl) T.m_list boot_list (pa_cons (k_prop D_T_rows T.is.sc hr (by decide) (pv 7)) pa_nil)) pa_nil))))
      (pss_cons (ps_set (i := 13) sc__law_near.nd rfl (Or.inl rfl) (k_mk D_T_init hr (by decide) T.mC (pa_cons (pv 4) (pa_cons (pe_callTy (k_tuple (K := K) rfl) (by rfl) T.m_tuple boot_tuple (pa_cons (pe_lc (own := [("_law_one", 17)]) rfl sc__law_near.nd (k_pit (K := K) rfl (k_prop D_T_rows T.is.sc hr (by decide) (pv 7))) (blkOk_by (own := [("_law_one", 17)]) (N := N__law_near) (sc := defScope s__law_near) (by decide +kernel)) (fun _ _ _ _ _ => (pg_name (i := 17) sc__law_near.nd rfl (Or.inl rfl))) (fun _ _ _ _ _ => pts_one (pt_cmpR (k_neD (K := K) rfl hr.units) (pv 17) (pv 12) (nomark _))) (fun _ _ _ _ _ => (pv 17))) pa_nil)) pa_nil))))
      (pss_cons (ps_set (i := 14) sc__law_near.nd rfl (Or.inl rfl) (pe_callTy (k_tuple (K := K) rfl) (by rfl) T.m_tuple boot_tuple (pa_cons (pe_lc (own := [("_law_number", 18)]) rfl sc__law_near.nd (k_pit (K := K) rfl (pv 12)) (blkOk_by (own := [("_law_number", 18)]) (N := N__law_near) (sc := defScope s__law_near) (by decide +kernel)) (fun _ _ _ _ _ => (pg_name (i := 18) sc__law_near.nd rfl (Or.inl rfl))) (fun _ _ _ _ _ => pts_nil) (fun _ _ _ _ _ => (pe_ifExp (pt_cmpR op_gt (pv 18) pe_int (nomark _)) (pe_op op_sub (pv 18) pe_int) (pe_op op_add (pv 18) pe_int)))) pa_nil)))
      (pss_cons (ps_set (i := 15) sc__law_near.nd rfl (Or.inl rfl) (k_mk D_T_init hr (by decide) T.mC (pa_cons (pv 4) (pa_cons (pe_op (k_catT (K := K) rfl) (k_prop D_T_rows T.is.sc hr (by decide) (pv 7)) (pe_tup (pa_cons (pv 14) pa_nil))) pa_nil))))
      (pss_cons (ps_for PassesOwn.never rfl (k_pit (K := K) rfl (pe_tup (pa_cons (pe_tup (pa_cons (pv 6) (pa_cons (pv 13) pa_nil))) (pa_cons (pe_tup (pa_cons (pv 6) (pa_cons (pv 15) pa_nil))) (pa_cons (pe_tup (pa_cons (pe_d D__law_one_of hr (by decide) (pa_cons (pv 0) (pa_cons (pe_lst (pa_cons pe_bl (pa_cons (pv 6) (pa_cons pe_int (pa_cons pe_int pa_nil))))) pa_nil))) (pa_cons (pv 7) pa_nil))) (pa_cons (pe_tup (pa_cons (pv 6) (pa_cons (k_mk D_T_init hr (by decide) T.mC (pa_cons (pe_tupF (pa_cons pe_int pa_nil)) (pa_cons (pe_tup (pa_cons (pe_tup (pa_cons pe_int pa_nil)) pa_nil)) pa_nil))) pa_nil))) pa_nil)))))) (pg_name (i := 16) sc__law_near.nd rfl (Or.inl rfl))
        (pss_one (ps_expr (k_bm (K := K) rfl PySem.F.plainAttrs_list PySem.F.slot_list_append PySem.F.type_list_append mt_append (pv 3) (pa_cons (pe_op (k_catT (K := K) rfl) (pe_op (k_catT (K := K) rfl) (pe_slice (k_slT (K := K) rfl) (pv 2) po_none (po_some (pv 11))) (pe_tup (pa_cons (pv 16) pa_nil))) (pe_slice (k_slT (K := K) rfl) (pv 2) (po_some (pe_op op_add (pv 11) pe_int)) po_none)) pa_nil)))))
      (pss_one (ps_expr (k_bm (K := K) rfl PySem.F.plainAttrs_list PySem.F.slot_list_append PySem.F.type_list_append mt_append (pv 3) (pa_cons (pe_op (k_catT (K := K) rfl) (pe_op (k_catT (K := K) rfl) (pe_slice (k_slT (K := K) rfl) (pv 2) po_none (po_some (pv 11))) (pe_tup (pa_cons (pe_tup (pa_cons (pv 6) (pa_cons (pv 13) pa_nil))) (pa_cons (pe_tup (pa_cons (pv 6) (pa_cons (k_mk D_T_init hr (by decide) T.mC (pa_cons (pv 4) (pa_cons (pe_tup (pa_cons (pv 12) pa_nil)) pa_nil))) pa_nil))) pa_nil)))) (pe_slice (k_slT (K := K) rfl) (pv 2) (po_some (pe_op op_add (pv 11) pe_int)) po_none)) pa_nil)))))))))))))
      (pss_one (ps_ret (pv 3)))))))))))), ?_⟩
  obtain ⟨c, lot, rows, t, vs, ps, rfl, hc, ⟨b, rfl, htb⟩, h28, hl1, rfl, htv, hp, told, k⟩ := h
  have len : vs.length = ps.length := Paired.length hp
  have pok := pv_ok hp
  have ptot := told.s
  have plen := len_tot told.n
  have tok : TOk lot rows := by
    obtain ⟨dx, g⟩ := id htb
    exact g.1
  have psJ : ∀ q ∈ ps, IsJ q.1 := fun q hq => let ⟨i, h⟩ := told.j q hq; .inl ⟨i, h⟩
  have valm : ∀ v H1 H2, Ex H1 H2 → (∃ qs, ValP C H1 v qs) → ∃ qs, ValP C H2 v qs := fun v H1 H2 e z => let ⟨qs, g⟩ := z; ⟨qs, g.mono (fz_of e)⟩
  have fin : ∀ {te : TE} {σ : L2.St} {H' : Hp} {qs : List Pc}, EvP te σ H' (VT C qs) → Sm qs → EvP te σ H' (fun v H2 => ∃ qs, ValP C H2 v qs) := fun h s => evp_imp h fun v H2 _ z => z.val s
  have at_ : ∀ {H' : Hp}, Ec c H H' → H' t = some (.tup vs) ∧ PVals C H' vs ps ∧ TabAt C H' b lot rows := fun e => by
    have fz := ec_fz hc e
    exact ⟨fz _ _ htv (fun _ z => nomatch z), hp.mono fz, htb.mono fz⟩
  have j0 : IsJ (V.int 0) := .inl ⟨0, rfl⟩
  have tk1 := totR_take ps 1
  have td1 := totR_drop ps 1
  -- the first values
  refine q_asgG (evp_tup (P := fun us H2 => ∃ F lv, us = [.ref F, lv] ∧ H F = none ∧ (∃ us, H2 F = some (.lst us) ∧ us.length = 7 ∧ ∀ u ∈ us, ∃ qs, ValP C H2 u qs) ∧ LT H2 lv lot) (eap_cons (evp_lstA (n := 7) valm
      (eap_ac valm (fin (vt_var (ev_var rfl) htv hp) (smk psJ (by omega) (by omega))) fun H1 e1 => eap_ac valm (fin (vt_rev (vt_var (ev_var rfl) (e1 _ _ htv) (hp.mono (fz_of e1)))) (smk (fun q hq => psJ q (List.mem_reverse.mp hq)) (by rw [totR_rev]; omega) (by rw [List.length_reverse]; omega))) fun H2 e2 =>
        eap_ac valm (fin (vt_from 1 (vt_var (ev_var rfl) ((e1.trans e2) _ _ htv) (hp.mono (fz_of (e1.trans e2)))) (eo_some ev_c) eo_none) (smk (fun q hq => psJ q (List.mem_of_mem_drop hq)) (by omega) (by rw [List.length_drop]; omega))) fun H3 e3 =>
        eap_ac valm (fin (vt_cat (vt_var (ev_var rfl) (((e1.trans e2).trans e3) _ _ htv) (hp.mono (fz_of ((e1.trans e2).trans e3)))) (fun H4 e4 => vt_to 1 (vt_var (ev_var rfl) ((((e1.trans e2).trans e3).trans e4) _ _ htv) (hp.mono (fz_of (((e1.trans e2).trans e3).trans e4)))) eo_none (eo_some ev_c)) (by rw [List.length_take]; omega)) (smk (fun q hq => psJ q (by rcases List.mem_append.mp hq with h | h <;> first | exact h | exact List.mem_of_mem_take h)) (by rw [totR_cat]; omega) (by rw [List.length_append, List.length_take]; omega))) fun H4 e4 =>
        eap_ac valm (fin (vt_disp (eap_pc (q := (.int 0, lot, rows)) (evp_pair (evp_of ev_c fun _ _ => rfl) fun H5 e5 => evp_of (ev_var rfl) fun H6 e6 => ⟨b, rfl, htb.mono (fz_of (((((e1.trans e2).trans e3).trans e4).trans e5).trans e6))⟩) fun H5 e5 => eap_pn) (by show 1 ≤ 1000; decide)) (smk (fun q hq => by rw [List.mem_singleton.mp hq]; exact j0) (by rw [tot_cons]; show rows.length + 0 < 64; omega) (by show 1 ≤ 1000; decide))) fun H5 e5 =>
        eap_ac valm (fin (vt_disp (eap_pc (q := (.int 1, lot, rows)) (evp_pair (evp_of ev_c fun _ _ => rfl) fun H6 e6 => evp_of (ev_var rfl) fun H7 e7 => ⟨b, rfl, htb.mono (fz_of ((((((e1.trans e2).trans e3).trans e4).trans e5).trans e6).trans e7))⟩) fun H6 e6 => eap_pc (q := (.int 0, lot, rows)) (evp_pair (evp_of ev_c fun _ _ => rfl) fun H7 e7 => evp_of (ev_var rfl) fun H8 e8 => ⟨b, rfl, htb.mono (fz_of (((((((e1.trans e2).trans e3).trans e4).trans e5).trans e6).trans e7).trans e8))⟩) fun H7 e7 => eap_pn) (by show 2 ≤ 1000; decide))
          (smk (fun q hq => by rcases List.mem_cons.mp hq with rfl | hq <;> first | exact .inl ⟨1, rfl⟩ | (rw [List.mem_singleton.mp hq]; exact j0)) (by rw [tot_cons, tot_cons]; show rows.length + (rows.length + 0) < 64; omega) (by show 2 ≤ 1000; decide))) fun H6 e6 =>
        eap_ac valm (fin (vt_disp eap_pn (by decide)) (smk (fun q hq => nomatch hq) (by decide) (by decide))) fun H7 e7 => eap_an) (by decide)) fun v H1 e1 z => eap_cons (evp_lot (ev_var rfl) (htb.mono (fz_of e1))) fun lv H2 e2 z2 => eap_nil fun H3 e3 => ?_) (fun us H1 z => ?_) fun us H1 H2 e z => ?_) fun v H1 e1 z => ?_
  · obtain ⟨F, us, rfl, f1, h1, h2, h3⟩ := z
    exact ⟨F, lv, rfl, f1, ⟨us, e3 _ _ (e2 _ _ h1), h2, fun u hu => valm _ _ _ (e2.trans e3) (h3 u hu)⟩, z2.mono (fz_of e3)⟩
  · obtain ⟨F, lv, rfl, _⟩ := z
    show 2 ≤ 100000
    decide
  · obtain ⟨F, lv, rfl, f1, ⟨us, h1, h2, h3⟩, h4⟩ := z
    exact ⟨F, lv, rfl, f1, ⟨us, e _ _ h1, h2, fun u hu => valm _ _ _ e (h3 u hu)⟩, h4.mono (fz_of e)⟩
  obtain ⟨tp, ws, rfl, _, htp, F, lv, rfl, hF, ⟨us0, g1, g2, g3⟩, hlv⟩ := z
  refine ⟨tp, _, rfl, st_of htp, rfl, _, _, rfl, _, _, rfl, rfl, ?_⟩
  have Fc := ec_ne hc hF
  have s1 : NSt C c H F 7 lv lot H1 := ⟨ec_ex hc e1, ⟨us0, g1, by omega, g3⟩, hlv⟩
  -- levels up, levels down
  refine q_nst hc hF (by decide) rfl s1 (fin (vt_tuple (lt_pairs (fun v => match v with | V.int i => V.int (i + 1) | _ => .non) (ev_var rfl) (at_ s1.ec).1 (at_ s1.ec).2.1 (by omega) (fun _ _ => rfl) (fun _ _ => rfl) fun q u v H2 hq hu => ?_)) (smk (fun q hq => ?_) (by rw [totR_pmap]; omega) (by unfold pmapP; rw [List.length_map]; omega))) fun H2 s2 _ => ?_
  · obtain ⟨i, hi⟩ := told.j q hq
    rw [hu, hi]
    exact ev_op (ev_var rfl) ev_c rv_I0
  · obtain ⟨q0, hq0, rfl⟩ := List.mem_map.mp hq
    obtain ⟨i, hi⟩ := told.j q0 hq0
    rw [hi]
    exact .inl ⟨_, rfl⟩
  refine q_nst hc hF (by decide) rfl s2 (fin (vt_tuple (lt_pairs (fun v => match v with | V.int i => V.int (i - 1) | _ => .non) (ev_var rfl) (at_ s2.ec).1 (at_ s2.ec).2.1 (by omega) (fun _ _ => rfl) (fun _ _ => rfl) fun q u v H2 hq hu => ?_)) (smk (fun q hq => ?_) (by rw [totR_pmap]; omega) (by unfold pmapP; rw [List.length_map]; omega))) fun H3 s3 _ => ?_
  · obtain ⟨i, hi⟩ := told.j q hq
    rw [hu, hi]
    exact ev_op (ev_var rfl) ev_c rv_I0
  · obtain ⟨q0, hq0, rfl⟩ := List.mem_map.mp hq
    obtain ⟨i, hi⟩ := told.j q0 hq0
    rw [hi]
    exact .inl ⟨_, rfl⟩
  -- an empty table more
  refine q_nst hc hF (by decide) rfl s3 (fin (vt_cat (vt_var (ev_var rfl) (at_ s3.ec).1 (at_ s3.ec).2.1) (fun H4 e4 => vt_disp (eap_pc (q := (.int 0, lot, mk [])) (evp_pair (evp_of ev_c fun _ _ => rfl) fun H5 e5 => tab_mk (evp_of (ev_var rfl) fun H6 e6 => s3.lt.mono (fz_of ((e4.trans e5).trans e6))) (fun H6 e6 => rt_nil) ⟨tok.lo, fun _ z => nomatch z⟩ (by decide) fun z => absurd z (by decide)) fun H5 e5 => eap_pn) (by show 1 ≤ 1000; decide)) (by show ps.length + 1 ≤ 100000; omega))
    (smk (fun q hq => by rcases List.mem_append.mp hq with h | h <;> first | exact psJ q h | (rw [List.mem_singleton.mp h]; exact j0)) (by rw [totR_cat]; show totR ps + (0 + 0) < 64; omega) (by rw [List.length_append]; show ps.length + 1 ≤ 1000; omega))) fun H4 s4 _ => ?_
  -- each row on its own
  refine q_nst hc hF (by decide) rfl s4 (fin (vt_tuple (qs := rows.map fun r => (.int 0, lot, mk [r])) (evp_imp (lc_gen (fun i ys H5 => PVals C H5 ys ((rows.take i).map fun r => (.int 0, lot, mk [r]))) (ei_rows (evp_rows (ev_var rfl) (at_ s4.ec).2.2)) (by omega) (fun _ _ => .nil) (fun _ _ _ _ e p => PVals.mono e p) (fun i v ys H5 H6 lt e5 p y => ?_) gn_mono) fun v H5 e5 z => ?_)) (smk (fun q hq => ?_) (by have := tot_singles lot rows; omega) (by rw [List.length_map]; omega))) fun H5 s5 _ => ?_
  · obtain ⟨rfl, tr, r, rfl, hr', hh⟩ := y
    have rm := List.mem_of_getElem? hr'
    refine ⟨rfl, Ex.refl _, true, et_yes, fun z => (nomatch z), fun _ => ?_⟩
    refine evp_imp (evp_pair (j := .int 0) (lot := lot) (rows := mk [r]) (C := C) (evp_of ev_c fun _ _ => rfl) fun H7 e7 => tab_mk (evp_of (ev_var rfl) fun H8 e8 => s4.lt.mono (fz_of ((e5.trans e7).trans e8))) (fun H8 e8 => rt_one (evp_of (ev_var rfl) fun H9 e9 => ⟨tr, rfl, e9 _ _ (e8 _ _ (e7 _ _ hh))⟩)) ⟨tok.lo, fun x hx => by rw [List.mem_singleton.mp hx]; exact tok.ro r rm⟩ (by show 1 < 64; decide) fun _ => hl1) fun v H7 e7 z => ?_
    rw [List.take_add_one, hr', List.map_append]
    exact paired_app (p.mono (fz_of e7)) (.cons z .nil)
  · obtain ⟨p, ys, rfl, _, h1, h2⟩ := z
    rw [List.take_length] at h2
    exact ⟨p, ys, rfl, h1, h2⟩
  · obtain ⟨r, _, rfl⟩ := List.mem_map.mp hq
    exact j0
  -- finer pieces
  refine q_asgP (evp_L (el_lst ea_nil (by decide))) fun v H6 e6 z => ?_
  obtain ⟨fl0, rfl, _, hfl0⟩ := z
  have s6 := nst_ex Fc s5 e6
  refine q_forT (ev_var rfl) (st_of (at_ s6.ec).1) (fun i σ' H' => (∃ fl r6 r7 r8 r9 qs, σ' = [some (.ref c), some (.ref b), some (.ref t), some (.ref F), some lv, some (.ref fl), r6, r7, r8, r9, none, none, none, none, none, none, none, none, none] ∧ LTs C qs (.ref fl) H' ∧ (∀ q ∈ qs, ∃ i, q.1 = .int i) ∧ totR qs ≤ totR (ps.take i) ∧ qs.length ≤ 2 * i) ∧ Ex H6 H')
    (fun H7 e7 => ⟨⟨fl0, none, none, none, none, [], rfl, ⟨fl0, [], rfl, e7 _ _ hfl0, .nil⟩, fun _ z => (nomatch z), Nat.zero_le _, Nat.le_refl _⟩, e7⟩) (fun i σ' H' _ z => st_of (z.2 _ _ (at_ s6.ec).1)) (fun i x σ' H' hx z => ?_) fun σ' H' z => ?_
  · obtain ⟨⟨fl, r6, r7, r8, r9, qs, rfl, hqs, qj, qt, ql⟩, ex⟩ := z
    have ec' := ec_trans s6.ec (ec_ex s6.ec.2 ex)
    obtain ⟨q, hq, p, tt, rfl, hpp, htt⟩ := L2.paired_get hp hx
    have qm := List.mem_of_getElem? hq
    have fz' := ec_fz hc ec'
    have hpp' := fz' _ _ hpp (fun _ z => nomatch z)
    have tt' : TabAt C H' tt q.2.1 q.2.2 := htt.mono fz'
    have qtot := totR_mem qm
    obtain ⟨ij, hij⟩ := told.j q qm
    have lq := told.l q qm
    have okq := pok q qm
    rw [hij] at hpp'
    rw [lq] at okq tt'
    have ili := (List.getElem?_eq_some_iff.mp hx).1
    refine ⟨p, _, rfl, st_of hpp', rfl, _, _, rfl, _, _, rfl, rfl, ?_⟩
    refine q_asg (v := .int ((q.2.2.length / 2 : Nat) : Int)) (ev_is (ev_op (ev_lenO (ev_var rfl) tt' (by omega)) ev_c (rv_I ⟨by decide, by decide⟩)) (by push_cast; rfl)) fun H7 e7 => ?_
    have tt7 := tt'.mono (fz_of e7)
    refine s_forTP (P := fun v H8 => ∃ tp u1 u2, v = .ref tp ∧ H8 tp = some (.tup [u1, u2]) ∧ RowsT H8 u1 (q.2.2.take (q.2.2.length / 2)) ∧ RowsT H8 u2 (q.2.2.drop (q.2.2.length / 2))) (evp_imp (evp_tup (P := fun us H8 => ∃ u1 u2, us = [u1, u2] ∧ RowsT H8 u1 (q.2.2.take (q.2.2.length / 2)) ∧ RowsT H8 u2 (q.2.2.drop (q.2.2.length / 2))) (eap_cons (rt_to _ (evp_rows (ev_var rfl) tt7) eo_none (eo_some (ev_var rfl))) fun u1 H8 e8 z1 => eap_cons (rt_from _ (evp_rows (ev_var rfl) (tt7.mono (fz_of e8))) (eo_some (ev_var rfl)) eo_none) fun u2 H9 e9 z2 => eap_nil fun H10 e10 => ⟨u1, u2, rfl, z1.mono (fz_of (e9.trans e10)), z2.mono (fz_of e10)⟩)
      (fun us H z => by obtain ⟨u1, u2, rfl, _⟩ := z; show 2 ≤ 100000; decide) fun us H H' e z => by obtain ⟨u1, u2, rfl, z1, z2⟩ := z; exact ⟨u1, u2, rfl, z1.mono (fz_of e), z2.mono (fz_of e)⟩) fun v H8 e8 z => by obtain ⟨p, us, rfl, _, h, u1, u2, rfl, z1, z2⟩ := z; exact ⟨p, u1, u2, rfl, h, z1, z2⟩) fun v H8 e8 z => ?_
    obtain ⟨tp, u1, u2, rfl, htp, hu1, hu2⟩ := z
    have e78 := e7.trans e8
    refine ⟨tp, _, rfl, st_of htp, fun m σ' H9 => (∃ fl r9 qs', σ' = [some (.ref c), some (.ref b), some (.ref t), some (.ref F), some lv, some (.ref fl), some (.int ij), some (.ref tt), some (.int ((q.2.2.length / 2 : Nat) : Int)), r9, none, none, none, none, none, none, none, none, none] ∧ LTs C qs' (.ref fl) H9 ∧ (∀ q ∈ qs', ∃ i, q.1 = .int i) ∧ totR qs' ≤ totR qs + (if m = 0 then 0 else if m = 1 then (q.2.2.take (q.2.2.length / 2)).length else q.2.2.length) ∧ qs'.length ≤ 2 * i + m) ∧ Ex H8 H9,
      ⟨⟨fl, r9, qs, rfl, lts_mono e78 hqs, qj, by omega, ql⟩, Ex.refl _⟩, fun m σ' H9 _ z => st_of (z.2 _ _ htp), fun m x σ' H9 hx z => ?_, fun σ' H9 z => ?_⟩
    · obtain ⟨⟨fl2, r9', qs', rfl, hqs', qj', qt', ql'⟩, e9⟩ := z
      have m2 : m < 2 := (List.getElem?_eq_some_iff.mp hx).1
      have one : ∀ (u : V) (rx : List Rw), RowsT H9 u rx → (∀ r ∈ rx, r ∈ q.2.2) → rx.length ≤ q.2.2.length → ∀ D : Ends, (∀ fl H10 new, LTs C (qs' ++ new) (.ref fl) H10 → Ex H9 H10 → (∀ q ∈ new, ∃ i, q.1 = .int i) → totR new ≤ rx.length → new.length ≤ 1 → D.nx [some (.ref c), some (.ref b), some (.ref t), some (.ref F), some lv, some (.ref fl), some (.int ij), some (.ref tt), some (.int ((q.2.2.length / 2 : Nat) : Int)), some u, none, none, none, none, none, none, none, none, none] H10) →
          tAsg (tOp rCat (tVar 5) (tIf (tTest (tOp (rNeD K) (tVar 9) (tTup tNil))) (tLst (tCons (tTup (tCons (tVar 6) (tCons (StX.tMakeR C (sp_T_init K C) E0 (tCons (tVar 4) (tCons (tVar 9) tNil))) tNil))) tNil)) (tLst tNil))) (gName 5) D [some (.ref c), some (.ref b), some (.ref t), some (.ref F), some lv, some (.ref fl2), some (.int ij), some (.ref tt), some (.int ((q.2.2.length / 2 : Nat) : Int)), some u, none, none, none, none, none, none, none, none, none] H9 := by
        intro u rx hu rsub rxl D hD
        have lt9 : LT H9 lv lot := s6.lt.mono (fz_of ((ex.trans e78).trans e9))
        refine s_asgP (evp_catL (qs := qs') (rs := if rx = [] then [] else [(.int ij, lot, mk rx)]) (evp_of (ev_var rfl) fun H10 e10 => lts_mono e10 hqs') (fun H10 e10 => evp_if (b := !decide (rx = [])) (et_test (ev_opPP (P1 := fun v H => RowsT H v rx) (P2 := fun v H => RowsT H v []) (evp_of (ev_var rfl) fun H11 e11 => hu.mono (fz_of (e10.trans e11))) (fun H11 e11 => rt_nil) (fun v H1 H2 e z => z.mono (fz_of e)) fun x y H11 h1 h2 => rv_neR h1 h2)) (fun hb => ?_) fun hb => ?_) (by split <;> simp <;> omega)) fun v H10 e10 z => ?_
        · have hne : rx ≠ [] := by simpa using hb
          rw [if_neg hne]
          exact lts_disp (eap_pc (q := (.int ij, lot, mk rx)) (evp_pair (evp_of (ev_var rfl) fun _ _ => rfl) fun H11 e11 => tab_mk (evp_of (ev_var rfl) fun H12 e12 => lt9.mono (fz_of ((e10.trans e11).trans e12))) (fun H12 e12 => evp_of (ev_var rfl) fun H13 e13 => hu.mono (fz_of (((e10.trans e11).trans e12).trans e13))) ⟨tok.lo, fun r hr' => okq.ro r (rsub r hr')⟩ (by omega) fun _ => hl1) fun H11 e11 => eap_pn) (by show 1 ≤ 1000; decide)
        · have he : rx = [] := by simpa using hb
          rw [if_pos he]
          exact lts_disp eap_pn (by decide)
        · obtain ⟨fl3, xs, rfl, z2⟩ := z
          refine hD fl3 H10 _ ⟨fl3, xs, rfl, z2⟩ e10 (fun q hq => ?_) ?_ ?_
          · split at hq
            · cases hq
            · rw [List.mem_singleton.mp hq]
              exact ⟨_, rfl⟩
          · split
            · exact Nat.zero_le _
            · rw [tot_cons]
              have := mk_len rx
              show (mk rx).length + 0 ≤ _
              omega
          · split
            · exact Nat.zero_le _
            · exact Nat.le_refl _
      have ltk : (q.2.2.take (q.2.2.length / 2)).length ≤ q.2.2.length := by rw [List.length_take]; omega
      have lsum : (q.2.2.take (q.2.2.length / 2)).length + (q.2.2.drop (q.2.2.length / 2)).length = q.2.2.length := by rw [List.length_take, List.length_drop]; omega
      match m, hx with
      | 0, hx =>
        cases Option.some.inj hx
        refine one u1 _ (hu1.mono (fz_of e9)) (fun r hr' => List.mem_of_mem_take hr') ltk _ fun fl H10 new h1 h2 h3 h4 h5 => ⟨⟨fl, _, _, rfl, h1, fun q hq => ?_, ?_, ?_⟩, e9.trans h2⟩
        · rcases List.mem_append.mp hq with h | h
          · exact qj' q h
          · exact h3 q h
        · rw [totR_cat]
          have qt2 : totR qs' ≤ totR qs + 0 := qt'
          show totR qs' + totR new ≤ totR qs + (q.2.2.take (q.2.2.length / 2)).length
          omega
        · rw [List.length_append]
          omega
      | 1, hx =>
        cases Option.some.inj hx
        refine one u2 _ (hu2.mono (fz_of e9)) (fun r hr' => List.mem_of_mem_drop hr') (by omega) _ fun fl H10 new h1 h2 h3 h4 h5 => ⟨⟨fl, _, _, rfl, h1, fun q hq => ?_, ?_, ?_⟩, e9.trans h2⟩
        · rcases List.mem_append.mp hq with h | h
          · exact qj' q h
          · exact h3 q h
        · rw [totR_cat]
          have qt2 : totR qs' ≤ totR qs + (q.2.2.take (q.2.2.length / 2)).length := qt'
          show totR qs' + totR new ≤ totR qs + q.2.2.length
          omega
        · rw [List.length_append]
          omega
      | m + 2, hx => cases hx
    · obtain ⟨⟨fl2, r9', qs', rfl, hqs', qj', qt', ql'⟩, e9⟩ := z
      refine ⟨⟨fl2, _, _, _, _, qs', rfl, hqs', qj', ?_, by simp at ql'; omega⟩, (ex.trans e78).trans e9⟩
      rw [List.take_add_one, hq]
      show totR qs' ≤ totR (ps.take i ++ [q])
      rw [totR_app]
      have qt2 : totR qs' ≤ totR qs + q.2.2.length := qt'
      omega
  obtain ⟨⟨fl, r6, r7, r8, r9, qs, rfl, hqs, qj, qt, ql⟩, ex⟩ := z
  rw [len, List.take_length] at qt
  have s7 := nst_ex Fc s6 ex
  refine q_nst hc hF (by decide) rfl s7 (fin (vt_tuple (evp_of (ev_var rfl) fun H8 e8 => lts_mono e8 hqs)) (smk (fun q hq => let ⟨i, h⟩ := qj q hq; .inl ⟨i, h⟩) (by omega) (by omega))) fun H8 s8 _ => ?_
  -- values with one piece changed, three times
  refine q_forR1 (n := 3) (ea1 ev_c) ⟨by decide, by decide⟩ (fun m σ' H' => (∃ r6 r7 r8 r9 r10 r11 r12 r13 r14 r15 r16, σ' = [some (.ref c), some (.ref b), some (.ref t), some (.ref F), some lv, some (.ref fl), r6, r7, r8, r9, r10, r11, r12, r13, r14, r15, r16, none, none]) ∧ NSt C c H F (100 + 10 * m) lv lot H')
    (fun H9 e9 => ⟨⟨_, _, _, _, _, _, _, _, _, _, _, rfl⟩, nst_more (nst_ex Fc s8 e9) (by decide)⟩) (fun m σ' H' hm z => ?_) fun σ' H' z => ?_
  · obtain ⟨⟨r6, r7, r8, r9, r10, r11, r12, r13, r14, r15, r16, rfl⟩, s9⟩ := z
    have m3 : m < 3 := by omega
    obtain ⟨tv9, pv9, tb9⟩ := at_ s9.ec
    refine q_asgR (P := fun v H1 => ∃ a : Nat, v = .int (a : Int) ∧ a ≤ ps.length ∧ NSt C c H F (100 + 10 * m) lv lot H1) (fun Q q => ?_) fun v H10 z => ?_
    · refine (et_neNil (ev_var rfl) tv9) H' (Ex.refl _) _ fun H10 e10 => ?_
      have s10 := nst_ex Fc s9 e10
      cases hb : (!vs.isEmpty) with
      | false =>
        show tC (.int 0) [] H10 Q
        exact q _ H10 ⟨0, rfl, Nat.zero_le _, s10⟩
      | true =>
        have vpos : 0 < vs.length := by
          cases vs with
          | nil => exact absurd hb (by decide)
          | cons _ _ => rw [List.length_cons]; omega
        refine toss_go (n := (vs.length : Int)) (ev_var rfl) (ev_lenT (ev_var rfl) (.inl (e10 _ _ tv9))) s10.ec.2 (by omega) (by omega) fun r H11 r0 r1 ec => ?_
        exact q _ H11 ⟨r.toNat, by rw [Int.toNat_of_nonneg r0], by omega, nst_ec Fc s10 ec⟩
    obtain ⟨ai, rfl, hai, s10⟩ := z
    obtain ⟨tv10, pv10, tb10⟩ := at_ s10.ec
    refine s_forTP (vt_mid ai (ai + 1) (by omega) (vt_var (ev_var rfl) tv10 pv10) (eo_some (ev_var rfl)) (eo_some (ev_is (ev_op (ev_var rfl) ev_c rv_I0) (by push_cast; rfl)))) fun v H11 e11 z => ?_
    obtain ⟨us, ⟨ts, rfl, hts⟩, pus⟩ := z
    have lus : us.length = ((ps.drop ai).take (ai + 1 - ai)).length := Paired.length pus
    have lus1 : us.length ≤ 1 := by rw [lus, List.length_take]; omega
    refine ⟨ts, us, rfl, st_of hts, fun i σ' H' => (∃ r6 r7 r8 r9 r12 r13 r14 r15 r16, σ' = [some (.ref c), some (.ref b), some (.ref t), some (.ref F), some lv, some (.ref fl), r6, r7, r8, r9, some (.int (m : Int)), some (.int (ai : Int)), r12, r13, r14, r15, r16, none, none]) ∧ NSt C c H F (100 + 10 * m + 6 * i) lv lot H' ∧ Fz H11 H',
      ⟨⟨r6, r7, r8, r9, r12, r13, r14, r15, r16, rfl⟩, nst_ex Fc s10 e11, Fz.refl _⟩, fun i σ' H' _ z => st_of (z.2.2 _ _ hts (fun _ z => nomatch z)), fun i x σ' H' hx z => ?_, fun σ' H' z => ?_⟩
    · obtain ⟨⟨r6, r7, r8, r9, r12, r13, r14, r15, r16, rfl⟩, s11, fz11⟩ := z
      have ilt : i < us.length := (List.getElem?_eq_some_iff.mp hx).1
      obtain ⟨q, hq, p, tt, rfl, hpp, htt⟩ := L2.paired_get pus hx
      have qm : q ∈ ps := List.mem_of_mem_drop (List.mem_of_mem_take (List.mem_of_getElem? hq))
      have hpp' := fz11 _ _ hpp (fun _ z => nomatch z)
      have tt' : TabAt C H' tt q.2.1 q.2.2 := htt.mono fz11
      have qtot := totR_mem qm
      have hole := totR_hole ps ai
      obtain ⟨ij, hij⟩ := told.j q qm
      have lq := told.l q qm
      have okq := pok q qm
      have qne := told.n q qm
      have qpos : 0 < q.2.2.length := by
        cases hq2 : q.2.2 with
        | nil => exact absurd hq2 qne
        | cons _ _ => rw [List.length_cons]; omega
      rw [hij] at hpp'
      rw [lq] at okq tt'
      have jij : IsJ (V.int ij) := .inl ⟨ij, rfl⟩
      refine ⟨p, _, rfl, st_of hpp', rfl, _, _, rfl, _, _, rfl, rfl, ?_⟩
      -- row
      refine q_asgR (P := fun v H1 => ∃ tr r, v = .ref tr ∧ r ∈ q.2.2 ∧ H1 tr = some (.tup (r.map V.int)) ∧ NSt C c H F (100 + 10 * m + 6 * i) lv lot H1 ∧ Fz H' H1) (fun Q k => ?_) fun v H12 z => ?_
      · refine ⟨_, rfl, (rows_list (evp_rows (ev_var rfl) tt')).go fun v H12 e12 z => ?_⟩
        obtain ⟨l, bs, rfl, hl0, hl, hra⟩ := z
        have s12 := nst_ex Fc s11 e12
        have lb := hra.len
        refine ⟨_, _, rfl, c, l, bs.map V.ref, rfl, rfl, s12.ec.2, ec_ne s11.ec.2 hl0, hl, by rw [List.length_map]; omega, by rw [List.length_map]; omega, fun v H13 hv ec => ?_⟩
        obtain ⟨tr, htr, rfl⟩ := List.mem_map.mp hv
        obtain ⟨r, hr1, hr2⟩ := rows_at hra htr
        have fz := ec_fz s12.ec.2 ec
        exact k _ H13 ⟨tr, r, rfl, hr1, fz _ _ hr2 (fun _ z => nomatch z), nst_ec Fc s12 ec, (fz_of e12).trans fz⟩
      obtain ⟨tr, r, rfl, rmem, htr, s12, fz12⟩ := z
      have tt12 := tt'.mono fz12
      have rok := okq.ro r rmem
      -- less
      refine q_asgP (P := fun v H1 => TabV C H1 v lot (mk (q.2.2.filter fun x => !decide (x = r)))) (tab_mk (evp_of (ev_var rfl) fun H13 e13 => s12.lt.mono (fz_of e13)) (fun H13 e13 => rt_tuple (evp_imp (lc_gen (fun i ys H14 => ∃ cs, ys = cs.map V.ref ∧ RowsA H14 cs ((q.2.2.take i).filter fun x => !decide (x = r))) (ei_rows (evp_rows (ev_var rfl) (tt12.mono (fz_of e13)))) (by omega) (fun _ _ => ⟨[], rfl, .nil⟩) (fun _ _ _ _ e z => by
        obtain ⟨cs, z1, z2⟩ := z
        exact ⟨cs, z1, rows_mono e z2⟩) (fun i2 v ys H14 H15 lt e14 pz y => ?_) gn_mono) fun v H14 e14 z => ?_)) ⟨tok.lo, fun x hx => okq.ro x (List.mem_filter.mp hx).1⟩ (by have := List.length_filter_le (fun x => !decide (x = r)) q.2.2; omega) fun _ => hl1) fun less H13 e13 hless => ?_
      · obtain ⟨rfl, t1, r1, rfl, hr1, hh⟩ := y
        obtain ⟨cs, rfl, hcs⟩ := pz
        have tk : q.2.2.take (i2 + 1) = q.2.2.take i2 ++ [r1] := by rw [List.take_add_one, hr1]; rfl
        refine ⟨rfl, Ex.refl _, !decide (r1 = r), et_test (ev_op (ev_var rfl) (ev_var rfl) (rv_neI ⟨t1, rfl, .inl hh⟩ ⟨tr, rfl, .inl (e14 _ _ (e13 _ _ htr))⟩)), fun hb => ⟨cs, rfl, ?_⟩, fun hb => evp_of (ev_var rfl) fun H15 e15 => ⟨cs ++ [t1], by rw [List.map_append]; rfl, ?_⟩⟩
        · rw [tk, List.filter_append, List.filter_cons, if_neg (by rw [hb]; exact Bool.false_ne_true), List.filter_nil, List.append_nil]
          exact hcs
        · rw [tk, List.filter_append, List.filter_cons, if_pos hb]
          exact paired_app (rows_mono (fz_of e15) hcs) (.cons (e15 _ _ hh) .nil)
      · obtain ⟨p, ys, rfl, _, h1, cs, rfl, h2⟩ := z
        rw [List.take_length] at h2
        exact ⟨p, cs, rfl, h1, h2⟩
      have lless := mk_len (q.2.2.filter fun x => !decide (x = r))
      have lfil := List.length_filter_le (fun x => !decide (x = r)) q.2.2
      have s13 := nst_ex Fc s12 e13
      have tt13 := tt12.mono (fz_of e13)
      -- far
      refine q_asgU (eu_tuple (el_is (ys := (r.map fun x => if 0 < x then x - 1 else x + 1).map V.int) (el_map1 (fun v => match v with | V.int x => V.int (if 0 < x then x - 1 else x + 1) | _ => .non) (ei_tup (ev_var rfl) (.inl (e13 _ _ htr))) (by rw [List.length_map, rok.1]; have := lot_len tok.lo; omega) (fun _ => rfl) fun v H14 hv e14 => ?_) (by rw [List.map_map, List.map_map]; rfl))) fun tf H14 htf e14 hhf => ?_
      · obtain ⟨x, hx, rfl⟩ := mem_int hv
        refine ev_if (b := decide (0 < x)) (et_test (ev_op (ev_var rfl) ev_c rv_I0)) (fun hb => ?_) fun hb => ?_
        · have hb := of_decide_eq_true hb
          refine ev_is (ev_op (ev_var rfl) ev_c rv_I0) ?_
          show V.int _ = V.int (if 0 < x then x - 1 else x + 1)
          rw [if_pos hb]
        · have hb := of_decide_eq_false hb
          refine ev_is (ev_op (ev_var rfl) ev_c rv_I0) ?_
          show V.int _ = V.int (if 0 < x then x - 1 else x + 1)
          rw [if_neg hb]
      have s14 := nst_ex Fc s13 e14
      have tt14 := tt13.mono (fz_of e14)
      -- more
      refine q_asgP (P := fun v H1 => TabV C H1 v lot (mk (q.2.2 ++ [r.map fun x => if 0 < x then x - 1 else x + 1]))) (tab_mk (evp_of (ev_var rfl) fun H15 e15 => s14.lt.mono (fz_of e15)) (fun H15 e15 => rt_cat (evp_rows (ev_var rfl) (tt14.mono (fz_of e15))) (fun H16 e16 => rt_one (evp_of (ev_var rfl) fun H17 e17 => ⟨tf, rfl, e17 _ _ (e16 _ _ (e15 _ _ hhf))⟩)) (by show q.2.2.length + 1 ≤ 100000; omega)) ⟨tok.lo, fun x hx => by
        rcases List.mem_append.mp hx with h | h
        · exact okq.ro x h
        · rw [List.mem_singleton.mp h]
          exact far_ok rok⟩ (by rw [List.length_append]; show q.2.2.length + 1 < 64; omega) fun _ => hl1) fun more H15 e15 hmore => ?_
      have lmore := mk_len (q.2.2 ++ [r.map fun x => if 0 < x then x - 1 else x + 1])
      rw [List.length_append] at lmore
      have lmore : (mk (q.2.2 ++ [r.map fun x => if 0 < x then x - 1 else x + 1])).length ≤ q.2.2.length + 1 := lmore
      have s15 := nst_ex Fc s14 e15
      have tt15 := tt14.mono (fz_of e15)
      have hless15 := hless.mono (fz_of (e14.trans e15))
      have htr15 := (e13.trans (e14.trans e15)) _ _ htr
      -- the four others
      refine q_forTR (P := fun v H1 => ∃ to xs, v = .ref to ∧ H1 to = some (.tup xs) ∧ xs.length = 4 ∧ (∀ x ∈ xs, ∃ qx, PairAt C H1 x qx ∧ IsJ qx.1 ∧ qx.2.2.length ≤ 29) ∧ NSt C c H F (100 + 10 * m + 6 * i) lv lot H1 ∧ Fz H15 H1) (fun Q k => ?_) fun v H16 z => ?_
      · refine tup_raw (cons_raw ((evp_pair (j := .int ij) (lot := lot) (rows := mk (q.2.2.filter fun x => !decide (x = r))) (C := C) (evp_of (ev_var rfl) fun _ _ => rfl) fun H16 e16 => evp_of (ev_var rfl) fun H17 e17 => hless15.mono (fz_of (e16.trans e17))).go fun x1 H16 e16 h1 => ?_))
        refine cons_raw ((evp_pair (j := .int ij) (lot := lot) (rows := mk (q.2.2 ++ [r.map fun x => if 0 < x then x - 1 else x + 1])) (C := C) (evp_of (ev_var rfl) fun _ _ => rfl) fun H17 e17 => evp_of (ev_var rfl) fun H18 e18 => hmore.mono (fz_of ((e16.trans e17).trans e18))).go fun x2 H17 e17 h2 => ?_)
        have s17 := nst_ex Fc s15 (e16.trans e17)
        refine cons_raw (tup_raw (cons_raw ⟨_, rfl, (evp_lstA (n := 4) (P := fun v _ => IsJ v) (fun _ _ _ _ z => z) (eap_ac (fun _ _ _ _ z => z) (evp_of ev_c fun _ _ => .inr ⟨_, rfl⟩) fun H18 e18 => eap_ac (fun _ _ _ _ z => z) (evp_of (ev_var rfl) fun _ _ => jij) fun H19 e19 => eap_ac (fun _ _ _ _ z => z) (evp_of ev_c fun _ _ => .inl ⟨_, rfl⟩) fun H20 e20 => eap_ac (fun _ _ _ _ z => z) (evp_of ev_c fun _ _ => .inl ⟨_, rfl⟩) fun H21 e21 => eap_an) (by decide)).go fun lx H18 e18 z => ?_⟩))
        obtain ⟨l4, us4, rfl, f4, hl4, len4, all4⟩ := z
        have s18 := nst_ex Fc s17 e18
        refine ⟨_, _, rfl, c, l4, us4, rfl, rfl, s18.ec.2, ec_ne s17.ec.2 f4, hl4, by omega, by omega, fun u H19 hu ec => ?_⟩
        have s19 := nst_ec Fc s18 ec
        have fz19 := ec_fz s18.ec.2 ec
        have fz15_19 : Fz H15 H19 := (fz_of ((e16.trans e17).trans e18)).trans fz19
        refine cons_raw ⟨.ref tt, rfl, ?_⟩
        refine ⟨by show 2 ≤ sizeLine; decide, fun p3 hp3 => ?_⟩
        have e20 : Ex H19 (upd H19 p3 (.tup [u, .ref tt])) := Ex.new hp3
        refine cons_raw ((evp_pair (j := .int ij) (lot := [5]) (rows := mk [[1]]) (C := C) (evp_of (ev_var rfl) fun _ _ => rfl) fun H21 e21 => tab_mk (evp_tupF (vs := [.int 5]) (ea1 ev_c) (by show 1 ≤ 100000; decide)) (fun H22 e22 => rt_lit) ⟨⟨fun x hx => by rw [List.mem_singleton.mp hx]; decide, List.pairwise_singleton _ _⟩, fun x hx => by rw [List.mem_singleton.mp hx]; exact ⟨rfl, fun m hm => by rw [List.mem_singleton.mp hm]; decide⟩⟩ (by decide) fun _ => by decide).go fun x4 H21 e21 h4 => ?_)
        refine ⟨by show 4 ≤ sizeLine; decide, fun po hpo => k _ _ ⟨po, _, rfl, upd_same, rfl, fun x hx => ?_, nst_ex Fc s19 ((e20.trans e21).trans (Ex.new hpo)), fz15_19.trans (fz_of ((e20.trans e21).trans (Ex.new hpo)))⟩⟩
        have fzf := fz_of ((e20.trans e21).trans (Ex.new (o := .tup [x1, x2, .ref p3, x4]) hpo))
        rcases List.mem_cons.mp hx with rfl | hx
        · exact ⟨_, h1.mono (((fz_of (e17.trans e18)).trans fz19).trans fzf), jij, by show (mk (q.2.2.filter fun x => !decide (x = r))).length ≤ 29; omega⟩
        rcases List.mem_cons.mp hx with rfl | hx
        · exact ⟨_, h2.mono (((fz_of e18).trans fz19).trans fzf), jij, by show (mk (q.2.2 ++ [r.map fun x => if 0 < x then x - 1 else x + 1])).length ≤ 29; omega⟩
        rcases List.mem_cons.mp hx with rfl | hx
        · exact ⟨(u, lot, q.2.2), ⟨p3, tt, rfl, (e21.trans (Ex.new hpo)) _ _ upd_same, tt15.mono (fz15_19.trans fzf)⟩, all4 u hu, by show q.2.2.length ≤ 29; omega⟩
        · rw [List.mem_singleton.mp hx]
          exact ⟨_, h4.mono (fz_of (Ex.new hpo)), jij, by show (mk [[1]]).length ≤ 29; have := mk_len [[1]]; have h1 : ([[1]] : List Rw).length = 1 := rfl; omega⟩
      obtain ⟨to, xs, rfl, hto, lxs, hxs, s16, fz16⟩ := z
      refine ⟨to, xs, rfl, st_of hto, fun i2 σ' H17 => (∃ r16, σ' = [some (.ref c), some (.ref b), some (.ref t), some (.ref F), some lv, some (.ref fl), some (.int ij), some (.ref tt), r8, r9, some (.int (m : Int)), some (.int (ai : Int)), some (.ref tr), some less, some (.ref tf), some more, r16, none, none]) ∧ NSt C c H F (100 + 10 * m + 6 * i + i2) lv lot H17 ∧ Fz H16 H17,
        ⟨⟨_, rfl⟩, s16, Fz.refl _⟩, fun i2 σ' H17 _ z => st_of (z.2.2 _ _ hto (fun _ z => nomatch z)), fun i2 x σ' H17 hx2 z => ?_, fun σ' H17 z => ?_⟩
      · obtain ⟨⟨r16', rfl⟩, s17, fz17⟩ := z
        obtain ⟨qx, hqx, jx, lx⟩ := hxs x (List.mem_of_getElem? hx2)
        have i24 : i2 < 4 := by have := (List.getElem?_eq_some_iff.mp hx2).1; omega
        obtain ⟨tv17, pv17, tb17⟩ := at_ s17.ec
        refine nst_app hc hF (by omega) rfl s17 (fin (vt_cat (qs := ps.take ai ++ [qx]) (vt_cat (vt_to ai (vt_var (ev_var rfl) tv17 pv17) eo_none (eo_some (ev_var rfl))) (fun H18 e18 => vt_disp (eap_pc (q := qx) (evp_of (ev_var rfl) fun H19 e19 => hqx.mono (fz17.trans (fz_of (e18.trans e19)))) fun H19 e19 => eap_pn) (by show 1 ≤ 1000; decide)) (by rw [List.length_take]; show _ + 1 ≤ 100000; omega)) (fun H18 e18 => vt_from (ai + 1) (vt_var (ev_var rfl) (e18 _ _ tv17) (pv17.mono (fz_of e18))) (eo_some (ev_is (ev_op (ev_var rfl) ev_c rv_I0) (by push_cast; rfl))) eo_none) (by rw [List.length_append, List.length_take, List.length_drop]; show _ + 1 + _ ≤ 100000; omega)) (smk (fun q' hq' => ?_) ?_ ?_)) fun H18 s18 fz18 => ⟨⟨_, rfl⟩, s18, fz17.trans fz18⟩
        · rcases List.mem_append.mp hq' with h | h
          · rcases List.mem_append.mp h with h | h
            · exact psJ q' (List.mem_of_mem_take h)
            · rw [List.mem_singleton.mp h]
              exact jx
          · exact psJ q' (List.mem_of_mem_drop h)
        · rw [totR_cat, totR_app]
          omega
        · rw [List.length_append, List.length_append, List.length_take, List.length_drop]
          show _ + 1 + _ ≤ 1000
          omega
      · obtain ⟨⟨r16', rfl⟩, s17, fz17⟩ := z
        rw [lxs] at s17
        obtain ⟨tv17, pv17, tb17⟩ := at_ s17.ec
        have fz15_17 := fz16.trans fz17
        have hless17 := hless15.mono fz15_17
        have htr17 := fz15_17 _ _ htr15 (fun _ z => nomatch z)
        have l1 := mk_len [r]
        have l1 : (mk [r]).length ≤ 1 := l1
        refine nst_app hc hF (by omega) rfl s17 (fin (vt_cat (qs := ps.take ai ++ [(.int ij, lot, mk (q.2.2.filter fun x => !decide (x = r))), (.int ij, lot, mk [r])]) (vt_cat (vt_to ai (vt_var (ev_var rfl) tv17 pv17) eo_none (eo_some (ev_var rfl))) (fun H18 e18 => vt_disp (eap_pc (evp_pair (evp_of (ev_var rfl) fun _ _ => rfl) fun H19 e19 => evp_of (ev_var rfl) fun H20 e20 => hless17.mono (fz_of ((e18.trans e19).trans e20))) fun H19 e19 => eap_pc (evp_pair (evp_of (ev_var rfl) fun _ _ => rfl) fun H20 e20 => tab_mk (evp_of (ev_var rfl) fun H21 e21 => s17.lt.mono (fz_of (((e18.trans e19).trans e20).trans e21))) (fun H21 e21 => rt_one (evp_of (ev_var rfl) fun H22 e22 => ⟨tr, rfl, e22 _ _ (e21 _ _ (e20 _ _ (e19 _ _ (e18 _ _ htr17))))⟩)) ⟨tok.lo, fun x hx => by rw [List.mem_singleton.mp hx]; exact rok⟩ (by show 1 < 64; decide) fun _ => hl1) fun H20 e20 => eap_pn) (by show 2 ≤ 1000; decide)) (by rw [List.length_take]; show _ + 2 ≤ 100000; omega))
          (fun H18 e18 => vt_from (ai + 1) (vt_var (ev_var rfl) (e18 _ _ tv17) (pv17.mono (fz_of e18))) (eo_some (ev_is (ev_op (ev_var rfl) ev_c rv_I0) (by push_cast; rfl))) eo_none) (by rw [List.length_append, List.length_take, List.length_drop]; show _ + 2 + _ ≤ 100000; omega)) (smk (fun q' hq' => ?_) ?_ ?_)) fun H18 s18 fz18 => ⟨⟨_, _, _, _, _, _, _, _, _, rfl⟩, nst_more s18 (by omega), fz11.trans ((((fz12.trans (fz_of (e13.trans (e14.trans e15)))).trans fz15_17)).trans fz18)⟩
        · rcases List.mem_append.mp hq' with h | h
          · rcases List.mem_append.mp h with h | h
            · exact psJ q' (List.mem_of_mem_take h)
            · rcases List.mem_cons.mp h with rfl | h
              · exact jij
              · rw [List.mem_singleton.mp h]
                exact jij
          · exact psJ q' (List.mem_of_mem_drop h)
        · rw [totR_cat, totR_cat, tot_cons, tot_cons]
          show totR (ps.take ai) + ((mk (q.2.2.filter fun x => !decide (x = r))).length + ((mk [r]).length + 0)) + totR (ps.drop (ai + 1)) < 64
          omega
        · rw [List.length_append, List.length_append, List.length_take, List.length_drop]
          show _ + 2 + _ ≤ 1000
          omega
    · obtain ⟨⟨r6, r7, r8, r9, r12, r13, r14, r15, r16, rfl⟩, s11, fz11⟩ := z
      exact ⟨⟨_, _, _, _, _, _, _, _, _, _, _, rfl⟩, nst_more s11 (by omega)⟩
  · obtain ⟨⟨r6, r7, r8, r9, r10, r11, r12, r13, r14, r15, r16, rfl⟩, s9⟩ := z
    refine s_ret (ev_var rfl) fun H9 e9 => ?_
    have s10 := nst_ex Fc s9 e9
    obtain ⟨us, h1, h2, h3⟩ := s10.fl
    exact k F us H9 s10.ec Fc h1 h3
end
end Q44
namespace Q44
open PySem PySem.Spec PyProof.Rows L2 M44 Evl
section
variable {P : Program} {w : World} {K : PySem.W.Frag} {mg : Str → Option Value} {base : Heap} {C : Addr}
section
variable {K : PySem.W.Frag} {σ : L2.St} {H : Hp} {ta te tl : TE} {tA : TA} {tz tu : TS} {D : Ends} {g : TG} {i : Nat} {P : V → Hp → Prop}
theorem def_raw {sp : Sp} {E : XK} {Q : VK} (h : tA σ H fun vs H1 => sp vs H1 Q E) : tDef sp E tA σ H Q := h
theorem cb_raw {r : List V → Hp → VK → Prop} {Q : VK} (h : tA σ H fun xs H1 => r xs H1 Q) : tCB r tA σ H Q := h
theorem sl_raw {r : V → Option Int → Option Int → Hp → VK → Prop} {tl th : TO} {Q : VK} (h : te σ H fun x H1 => tl σ H1 fun l H2 => th σ H2 fun u H3 => r x l u H3 Q) : L2.tSl r te tl th σ H Q := h
theorem op_raw {r : R2} {tb : TE} {Q : VK} (h : ta σ H fun x H1 => tb σ H1 fun y H2 => r x y H2 Q) : tOp r ta tb σ H Q := h
theorem q_asgGR (h : ∀ Q : VK, (∀ v H1, P v H1 → Q v H1) → te σ H Q) (k : ∀ v H1, P v H1 → g v σ H1 fun σ2 H2 => tz D σ2 H2) : tSeq (tAsg te g) tz D σ H := h _ k
theorem q_forLR (h : ∀ Q : VK, (∀ v H1, P v H1 → Q v H1) → tl σ H Q) (k : ∀ v H1, P v H1 → ∃ a xs, v = .ref a ∧ SqL K H1 a xs ∧ ∃ Pv : Nat → L2.St → Hp → Prop, Pv 0 σ H1 ∧ (∀ i σ' H', i ≤ xs.length → Pv i σ' H' → SqL K H' a xs) ∧
    (∀ i x σ' H', xs[i]? = some x → Pv i σ' H' → g x σ' H' fun σ2 H2 => tu { D with nx := Pv (i + 1), ct := Pv (i + 1), bk := tz D } σ2 H2) ∧ ∀ σ' H', Pv xs.length σ' H' → tz D σ' H') : tSeq (tFor (iList K tl) g tu) tz D σ H := h _ fun v H1 p => by
  obtain ⟨a, xs, ev, hx, Pv, p0, p1, p2, p3⟩ := k v H1 p
  exact ⟨a, ev, ⟨xs, hx⟩, for_list (D := { D with nx := tz D }) Pv p0 p1 p2 p3⟩
theorem oddv_one {C : Addr} (h : EvP ta σ H fun v H2 => Odd K C H2 v) : EvP (tTup (tCons ta tNil)) σ H fun v H2 => OddV K C H2 v := fun H1 e Q q => h H1 e _ fun v H2 e2 z => ⟨by show 1 ≤ sizeLine; decide, fun p hp => q _ _ (e2.trans (Ex.new hp)) (.one upd_same (z.mono (Ex.new hp)))⟩
end
theorem zip_snd {as : List Addr} {rs : List Rw} {L : List (Addr × Rw)} (h : ∀ p ∈ L, p ∈ as.zip rs) : ∀ r ∈ L.map (·.2), r ∈ rs := fun r hr => by
  obtain ⟨p, hp, rfl⟩ := List.mem_map.mp hr
  exact (List.of_mem_zip (h p hp)).2
theorem lot_take {ms : Rw} (ok : LotOk ms) (n : Nat) : LotOk (ms.take n) := ⟨fun x hx => ok.1 x (List.mem_of_mem_take hx), ok.2.sublist (List.take_sublist n ms)⟩
abbrev s__law_right : Stmt := top 55
abbrev N__law_right : List Str := ["_law_cup_here", "_law_lot", "_law_rows", "_law_table", "_law_low", "_law_k", "_law_told", "_law_value", "_law_odd"]
theorem sc__law_right : FnScope N__law_right ["_law_cup_here"] (defScope s__law_right) := ⟨rfl, rfl, rfl, by decide +kernel, rfl, by decide +kernel, by decide +kernel⟩
theorem ok__law_right {f : Addr} {fd : FuncData} (F : Fun K "_law_right" "_law_right" s__law_right f fd) (T : Tx K mg C) {f__law_lot_drawn : Addr} (D__law_lot_drawn : Df P w K mg base "_law_lot_drawn" f__law_lot_drawn 2 (sp__law_lot_drawn K C)) {f__law_rows_drawn : Addr} (D__law_rows_drawn : Df P w K mg base "_law_rows_drawn" f__law_rows_drawn 2 (sp__law_rows_drawn K C)) {f_T_init : Addr} (D_T_init : MkD P w K mg base C f_T_init 5 (sp_T_init K C)) {f__law_lt_least : Addr} (D__law_lt_least : Df P w K mg base "_law_lt_least" f__law_lt_least 1 (sp__law_lt_least K C)) {f__law_one_of : Addr} (D__law_one_of : Df P w K mg base "_law_one_of" f__law_one_of 2 (sp__law_one_of K C)) {f_parted : Addr} (D_parted : Df P w K mg base "parted" f_parted 9 (sp_parted K C)) {f__law_near : Addr} (D__law_near : Df P w K mg base "_law_near" f__law_near 7 (sp__law_near K C)) {f_is_parted : Addr} (D_is_parted : Df P w K mg base "is_parted" f_is_parted 6 (sp_is_parted K C)) {f__law_are_pieces : Addr} (D__law_are_pieces : Df P w K mg base "_law_are_pieces" f__law_are_pieces 3 (sp__law_are_pieces K C)) {f_T_rows p_T_rows : Addr} (D_T_rows : PrD P w K mg base C "rows" p_T_rows f_T_rows 1 (sp_T_rows K C)) : FnOk P w K mg base CX0 10 f fd ["_law_cup_here"] (sp__law_right K C) := by
  refine F.ok sc__law_right (fun vs H Q E h => len_sp1 h) (fun cdv A outer s H vs Q E hr h => ?_)
  obtain ⟨v0, rfl, h⟩ := h
  refine ⟨_, (pss_cons (ps_set (i := 1) sc__law_right.nd rfl (Or.inl rfl) (pe_slice sl_tupF (pe_d D__law_lot_drawn hr (by decide) (pa_cons (pv 0) (pa_cons (pe_tup (pa_cons pe_int (pa_cons pe_int (pa_cons pe_int (pa_cons pe_int (pa_cons pe_int pa_nil)))))) (pa_cons pe_int pa_nil)))) po_none (po_some pe_int)))
      (pss_cons (ps_set (i := 2) sc__law_right.nd rfl (Or.inl rfl) (pe_callB (cr_sortS rfl) (by rfl) T.sorted (by decide +kernel) (pa_cons (pe_callTy (cr_setR rfl hr.units) (by rfl) T.m_set boot_set (pa_cons (pe_d D__law_rows_drawn hr (by decide) (pa_cons (pv 0) (pa_cons (pv 1) (pa_cons pe_int (pa_cons pe_int pa_nil))))) pa_nil)) pa_nil)))
      (pss_cons (ps_asg (pe_tup (pa_cons (k_mk D_T_init hr (by decide) T.mC (pa_cons (pv 1) (pa_cons (pe_callTy (k_tuple (K := K) rfl) (by rfl) T.m_tuple boot_tuple (pa_cons (pv 2) pa_nil)) pa_nil))) (pa_cons (pe_d D__law_lot_drawn hr (by decide) (pa_cons (pv 0) (pa_cons (pv 1) (pa_cons pe_int pa_nil)))) pa_nil))) (k_gt (K := K) (n := 2) rfl rfl (pgs_cons (pg_name (i := 3) sc__law_right.nd rfl (Or.inr rfl)) (pgs_cons (pg_name (i := 4) sc__law_right.nd rfl (Or.inr rfl)) pgs_nil))))
      (pss_cons (ps_set (i := 5) sc__law_right.nd rfl (Or.inr rfl) (pe_op op_add (pe_d D__law_lt_least hr (by decide) (pa_cons (pe_callB (k_len (K := K) rfl) (by rfl) T.len PySem.boot_len (pa_cons (pv 2) pa_nil)) pa_nil)) (pe_d D__law_one_of hr (by decide) (pa_cons (pv 0) (pa_cons (pe_lst (pa_cons pe_int (pa_cons pe_int (pa_cons pe_int (pa_cons pe_int pa_nil))))) pa_nil)))))
      (pss_cons (ps_set (i := 6) sc__law_right.nd rfl (Or.inl rfl) (pe_d D_parted hr (by decide) (pa_cons (pv 3) (pa_cons (pv 4) (pa_cons (pv 5) pa_nil)))))
      (pss_cons (ps_for PassesOwn.never rfl (k_pil (K := K) rfl (pe_d D__law_near hr (by decide) (pa_cons (pv 0) (pa_cons (pv 3) (pa_cons (pv 6) pa_nil))))) (pg_name (i := 7) sc__law_right.nd rfl (Or.inl rfl))
        (pss_one (ps_if (pt_cmpR op_ne (pe_d D_is_parted hr (by decide) (pa_cons (pv 3) (pa_cons (pv 4) (pa_cons (pv 5) (pa_cons (pv 7) pa_nil))))) (pe_d D__law_are_pieces hr (by decide) (pa_cons (k_prop D_T_rows T.is.sc hr (by decide) (pv 3)) (pa_cons (pv 1) (pa_cons (pv 4) (pa_cons (pv 5) (pa_cons (pv 7) pa_nil)))))) (nomark _)) (pss_one (ps_ret pe_bl)) pss_nil)))
      (pss_cons (ps_set (i := 8) sc__law_right.nd rfl (Or.inl rfl) (pe_lst (pa_cons pe_non (pa_cons pe_int (pa_cons (pe_callTy (k_list (K := K) rfl) (by rfl) T.m_list boot_list (pa_cons (pv 6) pa_nil)) (pa_cons pe_str (pa_cons (pe_tup (pa_cons (pv 3) pa_nil)) (pa_cons (pe_tup (pa_cons (pe_tup (pa_cons pe_int pa_nil)) pa_nil)) (pa_cons (pe_tup (pa_cons (pe_tup (pa_cons pe_int (pa_cons (pv 3) (pa_cons pe_int pa_nil)))) pa_nil)) (pa_cons (pe_tup (pa_cons (pe_lst (pa_cons pe_int (pa_cons (pv 3) pa_nil))) pa_nil)) (pa_cons pe_dnewT (pa_cons (pe_tup (pa_cons pe_non pa_nil)) (pa_cons (pe_tup (pa_cons (pe_tup (pa_cons pe_int (pa_cons (k_prop D_T_rows T.is.sc hr (by decide) (pv 3)) pa_nil))) pa_nil)) pa_nil)))))))))))))
      (pss_one (ps_ret (pe_cmpR (k_eqD (K := K) rfl hr.units) (pe_lc (own := [("_law_value", 7)]) rfl sc__law_right.nd (k_pil (K := K) rfl (pv 8)) (blkOk_by (own := [("_law_value", 7)]) (N := N__law_right) (sc := defScope s__law_right) (by decide +kernel)) (fun _ _ _ _ _ => (pg_name (i := 7) sc__law_right.nd rfl (Or.inl rfl))) (fun _ _ _ _ _ => pts_one (pt_val (pe_d D_is_parted hr (by decide) (pa_cons (pv 3) (pa_cons (pv 4) (pa_cons (pv 5) (pa_cons (pv 7) pa_nil))))))) (fun _ _ _ _ _ => (pv 7))) (pe_lst pa_nil) (nomark _))))))))))), ?_⟩
  obtain ⟨c, rfl, hc, k⟩ := h
  -- the lot
  refine q_asgR (P := fun v H1 => ∃ lot, LT H1 v lot ∧ LotOk lot ∧ 1 ≤ lot.length ∧ Ec c H H1) (fun Q q => ?_) fun lv H1 z => ?_
  · refine sl_raw (def_raw (cons_raw ⟨_, rfl, cons_raw ((eu_tup (σ := start N__law_right [.ref c]) (H := H) (vs := [.int 0, .int 1, .int 2, .int 3, .int 4]) (ea_cons ev_c (ea_cons ev_c (ea3 ev_c ev_c ev_c))) (by show 5 ≤ 100000; decide)) H (Ex.refl _) _ fun p H1 hp e1 h1 => ?_)⟩))
    refine ⟨_, _, _, rfl, c, [0, 1, 2, 3, 4], 1, rfl, cup_ex hc e1, ⟨p, rfl, .inl h1⟩, ⟨by decide, by decide⟩, rfl, by decide, fun v ms H2 ec hlt hok hsub hm => ?_⟩
    have ecH := ec_trans (ec_ex hc e1) ec
    obtain ⟨a, ob, rfl, ha, hob⟩ := hlt
    refine ⟨3, rfl, a, ob, ms.map V.int, rfl, ha, fun hw => ?_, fun hw p2 o2 hp2 ho2 => ?_⟩
    · exact q _ H2 ⟨ms, ⟨a, ob, rfl, ha, hob⟩, hok, hm, ecH⟩
    · refine q _ _ ⟨ms.take 3, ⟨p2, o2, rfl, ?_, ho2⟩, lot_take hok 3, by rw [List.length_take]; omega, ec_trans ecH (ec_ex ecH.2 (Ex.new hp2))⟩
      rw [upd_same, show (3 : Int) = ((3 : Nat) : Int) from rfl, cut_to, List.map_take]
  obtain ⟨lot, hlv, lok, hl1, ec1⟩ := z
  have llen := lot_len lok
  -- the rows
  refine q_asgR (P := fun v H2 => ∃ rs, RowsL H2 v rs ∧ rs.length ≤ 28 ∧ (∀ r ∈ rs, RowOk lot.length r) ∧ Ec c H1 H2) (fun Q q => ?_) fun rv H2 z => ?_
  · refine cb_raw (cons_raw (cb_raw (cons_raw (def_raw (cons_raw ⟨_, rfl, cons_raw ⟨_, rfl, ?_⟩⟩)))))
    refine ⟨_, _, _, _, rfl, c, lot, rfl, ec1.2, hlv.it, by omega, rfl, rfl, fun v rs H2 ec hrl h28 hok => ?_⟩
    obtain ⟨l, as, rfl, hl, hra⟩ := hrl
    refine ⟨l, as, rs, rfl, sq_of hl, hra, by omega, fun a L ha hL hLl => ?_⟩
    have ex := Ex.new (o := SetTO P w a L) ha
    refine ⟨a, L, lot.length, rfl, upd_same, fun p hp => ex _ _ (zip_rows hra p (hL p hp)), fun p hp => hok _ (zip_snd hL _ (List.mem_map.mpr ⟨p, hp, rfl⟩)), hl1, fun p as' hp hr' => ?_⟩
    have ex2 := Ex.new (o := .lst (as'.map V.ref)) hp
    refine q _ _ ⟨srt (L.map (·.2)), ⟨p, as', rfl, upd_same, rows_mono (fz_of ex2) hr'⟩, by rw [srt_len, List.length_map]; omega, fun r hr2 => hok r (zip_snd hL r ((srt_perm _).mem_iff.mp hr2)), ec_trans ec (ec_ex ec.2 (ex.trans ex2))⟩
  obtain ⟨rs, hrv, r28, rok, ec2⟩ := z
  have hlv2 := hlv.mono (ec_fz ec1.2 ec2)
  have ecH2 := ec_trans ec1 ec2
  have tok : TOk lot rs := ⟨lok, rok⟩
  obtain ⟨rl, ras, rfl, hrl2, hra2⟩ := hrv
  have rlen := hra2.len
  -- the table, the low lot
  refine q_asgGR (P := fun v H3 => ∃ tp tb lw low, v = .ref tp ∧ H3 tp = some (.tup [tb, lw]) ∧ TabV C H3 tb lot (mk rs) ∧ IT H3 lw low ∧ LotOk low ∧ (∀ x ∈ low, x ∈ lot) ∧ LT H3 lv lot ∧ H3 rl = some (.lst (ras.map V.ref)) ∧ Ec c H H3) (fun Q q => ?_) fun v H3 z => ?_
  · refine tup_raw (cons_raw ((tab_mk (evp_of (ev_var rfl) fun H3 e3 => hlv2.mono (fz_of e3)) (fun H3 e3 => rt_tuple (evp_of (ev_var rfl) fun H4 e4 => ⟨rl, ras, rfl, (e3.trans e4) _ _ hrl2, rows_mono (fz_of (e3.trans e4)) hra2⟩)) tok (by omega) fun _ => hl1).go fun tb H3 e3 htb => cons_raw (def_raw (cons_raw ⟨_, rfl, cons_raw ⟨_, rfl, ?_⟩⟩))))
    have ec3 := ec_trans ecH2 (ec_ex ecH2.2 e3)
    have hlv3 := hlv2.mono (fz_of e3)
    refine ⟨_, _, _, rfl, c, lot, 0, rfl, ec3.2, hlv3.it, lok, rfl, Nat.zero_le _, fun lw low H4 ec4 hlw lwok sub _ => ⟨by show 2 ≤ sizeLine; decide, fun p hp => ?_⟩⟩
    have fz4 := ec_fz ec3.2 ec4
    have ecn := Ex.new (o := .tup [tb, lw]) hp
    have rlc : rl ≠ c := fun z => by
      obtain ⟨x, y, u, hcup⟩ := ec1.2
      obtain ⟨x2, y2, u2, hcup2⟩ := ec2.2
      rw [z, hcup2] at hrl2
      have e := HO.lst.inj (Option.some.inj hrl2)
      match ras, e with
      | [], e => cases e
      | _ :: _, e => cases e
    refine q _ _ ⟨p, tb, lw, low, rfl, upd_same, (htb.mono fz4).mono (fz_of ecn), hlw.it.mono (fz_of ecn), lwok, sub, (hlv3.mono fz4).mono (fz_of ecn), ecn _ _ (ec4.1 _ _ rlc (e3 _ _ hrl2)), ec_trans (ec_trans ec3 ec4) (ec_ex ec4.2 ecn)⟩
  obtain ⟨tp, tb, lw, low, rfl, htp, htb, hlw, lwok, sub, hlv3, hrl3, ec3⟩ := z
  refine ⟨tp, _, rfl, st_of htp, rfl, _, _, rfl, _, _, rfl, rfl, ?_⟩
  have mlen := mk_len rs
  have lowlen := lot_len lwok
  -- the power
  refine q_asgR (P := fun v H4 => ∃ kk : Nat, v = .int ((kk : Nat) : Int) ∧ kk ≤ 8 ∧ rs.length ≤ 2 ^ kk ∧ Ec c H3 H4) (fun Q q => ?_) fun v H4 z => ?_
  · refine op_raw ((evp_def (P := fun v _ => ∃ j : Nat, v = .int (j : Int) ∧ j ≤ 6 ∧ rs.length ≤ 2 ^ j) (ea1 (ev_len (ev_var rfl) (sq_of hrl3))) fun H4 e4 Q q _ => ⟨_, rfl, rs.length, by rw [List.length_map, rlen], by omega, fun j hj hn H5 e5 => q _ H5 e5 ⟨j, rfl, hj, hn⟩⟩).go fun v H4 e4 z => ?_)
    obtain ⟨j, rfl, hj, hn⟩ := z
    refine def_raw (cons_raw ⟨_, rfl, cons_raw ((evp_lstA (n := 4) (P := fun v _ => ∃ x : Nat, v = .int (x : Int) ∧ x ≤ 2) (fun _ _ _ _ z => z) (eap_ac (fun _ _ _ _ z => z) (evp_of ev_c fun _ _ => ⟨0, rfl, by decide⟩) fun H18 e18 => eap_ac (fun _ _ _ _ z => z) (evp_of ev_c fun _ _ => ⟨0, rfl, by decide⟩) fun H19 e19 => eap_ac (fun _ _ _ _ z => z) (evp_of ev_c fun _ _ => ⟨1, rfl, by decide⟩) fun H20 e20 => eap_ac (fun _ _ _ _ z => z) (evp_of ev_c fun _ _ => ⟨2, rfl, by decide⟩) fun H21 e21 => eap_an) (by decide)).go fun lx H5 e5 z => ?_)⟩)
    obtain ⟨l4, us4, rfl, f4, hl4, len4, all4⟩ := z
    have ec5 := ec_ex ec3.2 (e4.trans e5)
    refine ⟨_, _, rfl, c, l4, us4, rfl, rfl, ec5.2, ec_ne (cup_ex ec3.2 e4) f4, hl4, by omega, by omega, fun u H6 hu ec6 => ?_⟩
    obtain ⟨x, rfl, hx⟩ := all4 u hu
    refine ⟨(j : Int), (x : Int), rfl, rfl, q _ H6 ⟨j + x, by push_cast; rfl, by omega, Nat.le_trans hn (Nat.pow_le_pow_right (by decide) (by omega)), ec_trans ec5 ec6⟩⟩
  obtain ⟨kk, rfl, hkk, hk2, ec4⟩ := z
  have fz4 := ec_fz ec3.2 ec4
  have ecH4 := ec_trans ec3 ec4
  have htb4 := htb.mono fz4
  have hlw4 := hlw.mono fz4
  -- the told pieces
  refine q_asgP (P := fun v H5 => ∃ t vs ps, v = .ref t ∧ H5 t = some (.tup vs) ∧ PVals C H5 vs ps ∧ Told lot (mk rs) ps) (evp_def (ea3 (ev_var rfl) (ev_var rfl) (ev_var rfl)) (spp3 fun H5 e5 Q q => ⟨lot, mk rs, low, kk, htb4.mono (fz_of e5), hlw4.mono (fz_of e5), rfl, by omega, lwok, sub, by omega, hl1, by omega, fun t vs ps H6 e6 h1 h2 h3 => q _ H6 e6 ⟨t, vs, ps, rfl, h1, h2, h3⟩⟩)) fun v H5 e5 z => ?_
  obtain ⟨t, vs, ps, rfl, htv, hpv, told⟩ := z
  have ecH5 := ec_trans ecH4 (ec_ex ecH4.2 e5)
  -- the values near them
  refine q_forLR (P := fun v H6 => ∃ l us, v = .ref l ∧ H6 l = some (.lst us) ∧ (∀ u ∈ us, ∃ qs, ValP C H6 u qs) ∧ Ec c H5 H6) (fun Q q => ?_) fun v H6 z => ?_
  · refine def_raw (cons_raw ⟨_, rfl, cons_raw ⟨_, rfl, cons_raw ⟨_, rfl, ?_⟩⟩⟩)
    exact ⟨_, _, _, rfl, c, lot, mk rs, t, vs, ps, rfl, ecH5.2, htb4.mono (fz_of e5), by omega, hl1, rfl, htv, hpv, told, fun l us H6 ec6 _ hl hus => q _ H6 ⟨l, us, rfl, hl, hus, ec6⟩⟩
  obtain ⟨l, us, rfl, hl, hus, ec6⟩ := z
  have fz6 := ec_fz ecH5.2 ec6
  have ecH6 := ec_trans ecH5 ec6
  have fz36 := (fz4.trans (fz_of e5)).trans fz6
  have htb6 := htb.mono fz36
  have hlw6 := hlw.mono fz36
  have hlv6 := hlv3.mono fz36
  obtain ⟨tba, rfl, hta6⟩ := id htb6
  have tok6 : TOk lot (mk rs) := by
    obtain ⟨dx, g⟩ := id hta6
    exact g.1
  refine ⟨l, us, rfl, sq_of hl, fun i σ' H' => (∃ r7, σ' = [some (.ref c), some lv, some (.ref rl), some (.ref tba), some lw, some (.int ((kk : Nat) : Int)), some (.ref t), r7, none]) ∧ Ex H6 H', ⟨⟨_, rfl⟩, Ex.refl _⟩, fun i σ' H' _ z => sq_of (z.2 _ _ hl), fun i x σ' H' hx z => ?_, fun σ' H' z => ?_⟩
  · obtain ⟨⟨r7, rfl⟩, ex⟩ := z
    obtain ⟨qs, hqs⟩ := hus x (List.mem_of_getElem? hx)
    refine s_when (b := false) (et_is (et_test (ev_op (ev_def (ea_cons (ev_var rfl) (ea3 (ev_var rfl) (ev_var rfl) (ev_var rfl))) (spv4 (z := .bl (partedB lot low (mk rs) kk qs)) fun H7 e7 Q k => ⟨lot, mk rs, low, kk, ⟨tba, rfl, hta6.mono (fz_of (ex.trans e7))⟩, hlw6.mono (fz_of (ex.trans e7)), rfl, by omega, lwok, sub, by omega, hl1, by omega, .inl ⟨qs, hqs.mono (fz_of (ex.trans e7)), k⟩⟩))
      (ev_defA (z := .bl (partedB lot low (mk rs) kk qs)) (Pa := fun us H7 => ∃ u, us = [u, lv, lw, .int ((kk : Nat) : Int), x] ∧ RowsT H7 u (mk rs)) (eap_cons (evp_rows (ev_var rfl) (hta6.mono (fz_of ex))) fun u H7 e7 z => eap_cons (evp_of (P := fun v _ => v = lv) (ev_var rfl) fun _ _ => rfl) fun u1 H8 e8 z1 => eap_cons (evp_of (P := fun v _ => v = lw) (ev_var rfl) fun _ _ => rfl) fun u2 H9 e9 z2 => eap_cons (evp_of (P := fun v _ => v = .int ((kk : Nat) : Int)) (ev_var rfl) fun _ _ => rfl) fun u3 H10 e10 z3 => eap_cons (evp_of (P := fun v _ => v = x) (ev_var rfl) fun _ _ => rfl) fun u4 H11 e11 z4 => eap_nil fun H12 e12 => by
        subst z1 z2 z3 z4
        exact ⟨u, rfl, z.mono (fz_of ((((e8.trans e9).trans e10).trans e11).trans e12))⟩) fun us2 H7 e7 z => by
        obtain ⟨u, rfl, hu⟩ := z
        exact spv5 fun H8 e8 Q k => ⟨mk rs, lot, low, kk, qs, hu.mono (fz_of e8), hlv6.mono (fz_of ((ex.trans e7).trans e8)), hlw6.mono (fz_of ((ex.trans e7).trans e8)), rfl, hqs.mono (fz_of ((ex.trans e7).trans e8)), by omega, by omega, hl1, by omega, lok, tok6.ro, sub, k⟩) (rv_ne rfl))) (by rw [decide_eq_true rfl]; rfl)) (fun z => nomatch z) fun _ H7 e7 => ⟨⟨_, rfl⟩, ex.trans e7⟩
  obtain ⟨⟨r7, rfl⟩, ex⟩ := z
  have hta7 := hta6.mono (fz_of ex)
  have slt7 : ∀ {Hx : Hp}, Ex H' Hx → Kd K C Hx (.ref tba) "Table" := fun e => by
    obtain ⟨dx, ok, ws, la, ra, as, hs, _⟩ := hta7.mono (fz_of e)
    exact .tab hs
  have htv7 : ∀ {Hx : Hp}, Ex H' Hx → Hx t = some (.tup vs) := fun e => e _ _ (ex _ _ (fz6 _ _ htv (fun _ z => nomatch z)))
  have oddm : ∀ v H1 H2, Ex H1 H2 → OddV K C H1 v → OddV K C H2 v := fun v H1 H2 e z => z.mono e
  -- the odd values
  refine q_asgP (evp_lstA (n := 11) oddm (eap_ac oddm (evp_of ev_c fun _ _ => .kind .non (by decide)) fun G1 a1 => eap_ac oddm (evp_of ev_c fun _ _ => .kind (.int 0) (by decide)) fun G2 a2 =>
    eap_ac oddm (evp_imp (evp_L (el_listT (ev_var rfl) (.inl (htv7 (a1.trans a2))))) fun v H2 _ z => by
      obtain ⟨p, rfl, _, h2⟩ := z
      exact .kind (.lst h2) (by decide)) fun G3 a3 =>
    eap_ac oddm (evp_of ev_c fun _ _ => .kind (.str _) (by decide)) fun G4 a4 =>
    eap_ac oddm (oddv_one (evp_of (ev_var rfl) fun G e => .kind (slt7 ((((a1.trans a2).trans a3).trans a4).trans e)) (by decide))) fun G5 a5 =>
    eap_ac oddm (oddv_one (evp_imp (evp_U (eu_tup (ea1 ev_c) (by show 1 ≤ 100000; decide))) fun v H2 _ z => by
      obtain ⟨p, rfl, _, h2⟩ := z
      exact .len h2 (by show 1 ≠ 2; decide) (by show 1 ≤ 1000; decide))) fun G6 a6 =>
    eap_ac oddm (oddv_one (evp_imp (evp_U (eu_tup (ea3 ev_c (ev_var rfl) ev_c) (by show 3 ≤ 100000; decide))) fun v H2 _ z => by
      obtain ⟨p, rfl, _, h2⟩ := z
      exact .len h2 (by show 3 ≠ 2; decide) (by show 3 ≤ 1000; decide))) fun G7 a7 =>
    eap_ac oddm (oddv_one (evp_imp (evp_L (el_lst (ea2 ev_c (ev_var rfl)) (by show 2 ≤ 100000; decide))) fun v H2 _ z => by
      obtain ⟨p, rfl, _, h2⟩ := z
      exact .kind (.lst h2) (by decide))) fun G8 a8 =>
    eap_ac oddm (evp_imp evp_dnew fun v H2 _ z => by
      obtain ⟨p, rfl, _, h2⟩ := z
      exact .kind (.dT h2) (by decide)) fun G9 a9 =>
    eap_ac oddm (oddv_one (evp_of ev_c fun _ _ => .kind .non (by decide))) fun G10 a10 =>
    eap_ac oddm (oddv_one (evp_imp (evp_tup (P := fun us H2 => ∃ b ys, us = [.int 0, .ref b] ∧ H2 b = some (.tup ys)) (eap_cons (evp_of (P := fun v _ => v = .int 0) ev_c fun _ _ => rfl) fun u1 B1 b1 z1 => eap_cons (evp_rows (ev_var rfl) (hta7.mono (fz_of ((((((((((a1.trans a2).trans a3).trans a4).trans a5).trans a6).trans a7).trans a8).trans a9).trans a10).trans b1)))) fun u2 B2 b2 z2 => eap_nil fun B3 b3 => by
        subst z1
        obtain ⟨x, xs, rfl, hx, _⟩ := z2
        exact ⟨x, _, rfl, b3 _ _ hx⟩) (fun us B z => by
        obtain ⟨x, xs, rfl, _⟩ := z
        show 2 ≤ 100000
        decide) fun us B B' e z => by
        obtain ⟨x, xs, rfl, hx⟩ := z
        exact ⟨x, xs, rfl, e _ _ hx⟩) fun v H2 _ z => by
      obtain ⟨p, us, rfl, _, h2, x, xs, rfl, hx⟩ := z
      exact .second h2 hx)) fun G11 a11 => eap_an) (by decide)) fun v H8 e8 z => ?_
  obtain ⟨ol, ous, rfl, _, hol, olen, oall⟩ := z
  have ecH8 := ec_trans ecH6 (ec_ex ecH6.2 (ex.trans e8))
  refine s_ret (v := .bl true) (ev_opLL (xs := []) (ys := []) (el_is (el_map (fun _ => false) id (ei_lst (ev_var rfl) hol) (by omega) (fun _ => rfl) (fun v H9 hv e9 => ?_) fun v H9 hv e9 hf => nomatch hf) ?_) (el_lst ea_nil (by decide)) fun p q H9 hp hq e9 => ?_) fun H9 e9 => k H9 (ec_trans ecH8 (ec_ex ecH8.2 e9))
  · exact et_B (ev_def (ea_cons (ev_var rfl) (ea3 (ev_var rfl) (ev_var rfl) (ev_var rfl))) (spv4 fun H10 e10 Q k => ⟨lot, mk rs, low, kk, ⟨tba, rfl, hta7.mono (fz_of ((e8.trans e9).trans e10))⟩, hlw6.mono (fz_of (((ex.trans e8).trans e9).trans e10)), rfl, by omega, lwok, sub, by omega, hl1, by omega, .inr ⟨(oall v hv).mono (e9.trans e10), k⟩⟩))
  · rw [List.filter_eq_nil_iff.mpr (fun a _ => Bool.false_ne_true)]
    rfl
  · exact fun H10 e10 Q q => ⟨.list [], .list [], .lst (sq_of (e10 _ _ hp)) .nil, .lst (sq_of (e10 _ _ hq)) .nil, by decide, by decide, by
      have z : PyData.eqv (.list []) (.list []) = true := by simp [PyData.eqv, PyData.eqvAll]
      rw [z]
      exact q H10 (Ex.refl _)⟩
end
end Q44
namespace Q44
open PySem PySem.Spec PyProof.Rows L2 M44 Evl
section
variable {P : Program} {w : World} {K : PySem.W.Frag} {mg : Str → Option Value} {base : Heap} {C : Addr}
def RowsX (rs : List Rw) (us : List V) (H : Hp) : Prop := ∃ as : List Addr, us = as.map V.ref ∧ RowsA H as rs
section
variable {K : PySem.W.Frag} {mg : Str → Option Value} {C : Addr} {σ : L2.St} {H : Hp} {ta te : TE} {tA : TA} {r : Rw} {rs : List Rw}
theorem eap_rn : EvPA tNil σ H (RowsX []) := eap_nil fun _ _ => ⟨[], rfl, .nil⟩
theorem eap_rc (h : EvP ta σ H fun v H2 => ∃ t, v = .ref t ∧ H2 t = some (.tup (r.map V.int))) (hr : ∀ H1, Ex H H1 → EvPA tA σ H1 (RowsX rs)) : EvPA (tCons ta tA) σ H (RowsX (r :: rs)) := fun H1 e Q k =>
  h H1 e _ fun v H2 e2 z => hr H2 (e.trans e2) H2 (Ex.refl _) _ fun us H3 e3 z2 => k _ H3 (e2.trans e3) (by
    obtain ⟨t, rfl, ht⟩ := z
    obtain ⟨as, rfl, ha⟩ := z2
    exact ⟨t :: as, rfl, .cons (e3 _ _ ht) ha⟩)
theorem rt_disp (h : EvPA tA σ H (RowsX rs)) (hl : rs.length ≤ 1000) : EvP (tTup tA) σ H fun v H2 => RowsT H2 v rs := fun H1 e Q k => h H1 e _ fun us H2 e2 z => by
  obtain ⟨as, rfl, ha⟩ := z
  have l := ha.len
  exact ⟨sz_of (by rw [List.length_map]; omega), fun p hp => k _ _ (e2.trans (Ex.new hp)) ⟨p, as, rfl, upd_same, rows_mono (fz_of (Ex.new hp)) ha⟩⟩
theorem row_lit {vs : List V} (h : EvA tA σ H vs) (e : vs = r.map V.int) (hl : r.length ≤ 1000) : EvP (tTup tA) σ H fun v H2 => ∃ t, v = .ref t ∧ H2 t = some (.tup (r.map V.int)) := by
  refine evp_imp (evp_U (eu_tup h (by rw [e, List.length_map]; omega))) ?_
  intro v H2 _ z
  obtain ⟨p, z1, _, z2⟩ := z
  exact ⟨p, z1, by rw [z2, e]⟩
theorem row2 {a b : Int} : EvP (tTup (tCons (tC (.int a)) (tCons (tC (.int b)) tNil))) σ H fun v H2 => ∃ t, v = .ref t ∧ H2 t = some (.tup (([a, b] : Rw).map V.int)) := row_lit (ea2 ev_c ev_c) rfl (by show 2 ≤ 1000; decide)
theorem lot_lit {vs : List V} {ns : Rw} (h : EvA tA σ H vs) (e : vs = ns.map V.int) (hl : ns.length ≤ 1000) : EvP (tTupF tA) σ H fun v H2 => LT H2 v ns := by
  refine evp_imp (evp_tupF h (by rw [e, List.length_map]; omega)) ?_
  intro v H2 _ z
  obtain ⟨p, ob, rfl, z1, z2⟩ := z
  exact ⟨p, ob, rfl, by rw [z1, e], z2⟩
theorem it_lit {vs : List V} {ns : Rw} (h : EvA tA σ H vs) (e : vs = ns.map V.int) (hl : ns.length ≤ 1000) : EvP (tTup tA) σ H fun v H2 => IT H2 v ns := by
  refine evp_imp (evp_U (eu_tup h (by rw [e, List.length_map]; omega))) ?_
  intro v H2 _ z
  obtain ⟨p, rfl, _, z2⟩ := z
  exact ⟨p, rfl, .inl (by rw [z2, e])⟩
/-- tuples of pieces in a tuple -/
def VTs (C : Addr) (QS : List (List Pc)) (us : List V) (H : Hp) : Prop := Paired (fun x qs => VT C qs x H) us QS
theorem vts_mono {QS : List (List Pc)} {us : List V} {H H' : Hp} (e : Ex H H') (h : VTs C QS us H) : VTs C QS us H' := Paired.mapP h fun a b z => z.mono (fz_of e)
theorem eap_vn : EvPA tNil σ H (VTs C []) := eap_nil fun _ _ => .nil
theorem eap_vc {qs : List Pc} {QS : List (List Pc)} (h : EvP ta σ H (VT C qs)) (hr : ∀ H1, Ex H H1 → EvPA tA σ H1 (VTs C QS)) : EvPA (tCons ta tA) σ H (VTs C (qs :: QS)) := fun H1 e Q k =>
  h H1 e _ fun v H2 e2 z => hr H2 (e.trans e2) H2 (Ex.refl _) _ fun us H3 e3 z2 => k _ H3 (e2.trans e3) (.cons (z.mono (fz_of e3)) z2)
theorem ei_vts {QS : List (List Pc)} (h : EvPA tA σ H (VTs C QS)) (hl : QS.length ≤ 1000) : EvI (iTup K (tTup tA)) σ H QS.length (fun i H3 v H4 => H4 = H3 ∧ ∃ qs, QS[i]? = some qs ∧ VT C qs v H3) := fun H1 e R q => h H1 e _ fun us H2 e2 z => by
  have len : us.length = QS.length := Paired.length z
  refine ⟨sz_of (by omega), fun p hp => ?_⟩
  have ex := Ex.new (o := .tup us) hp
  refine ⟨p, rfl, ⟨_, st_of upd_same⟩, q _ _ (e2.trans ex) fun i H3 e3 => ?_⟩
  have hs := st_of (K := K) (e3 _ _ upd_same)
  refine ⟨fun hi => ⟨us, us[i]'(by omega), hs, List.getElem?_eq_getElem (by omega)⟩, fun hi => ⟨us, hs, by omega⟩, fun v H4 y => ⟨y.1, ?_⟩⟩
  obtain ⟨qs, h1, h2⟩ := L2.paired_get z (y.2 us hs)
  exact ⟨qs, h1, h2.mono (fz_of (ex.trans e3))⟩
theorem rv_own {x y : V} {l1 l2 : Rw} {r1 r2 : List Rw} (T : Tx K mg C) (h1 : TabV C H x l1 r1) (h2 : TabV C H y l2 r2) : RV (SlX.rOwn K C (sp_T_eq K C) E0) x y H (.bl (decide (l1 = l2) && decide (r1 = r2))) := fun H1 e Q q => by
  have g1 := h1.mono (fz_of e)
  have g2 := h2.mono (fz_of e)
  obtain ⟨a, rfl, dx, ok, ws, la, ra, as, hs, _⟩ := id g1
  obtain ⟨b, rfl, dy, ok2, ws2, la2, ra2, as2, hs2, _⟩ := id g2
  exact ⟨a, dx, ws, b, C, dy, ws2, rfl, rfl, hs, hs2, T.nf, _, _, rfl, l1, r1, l2, r2, g1, g2, fun H2 e2 => q H2 e2⟩
end
def rT7 : List Rw := [[1, 1], [1, 2], [1, 3], [2, 1], [3, 1], [4, 5], [4, 6]]
def rO1 : List Rw := [[1, 1], [1, 2], [1, 3], [4, 5]]
def rO2 : List Rw := [[2, 1], [3, 1], [4, 6]]
def r8 : Nat → List Rw := fun i => (List.range i).map fun (n : Nat) => ([(n : Int)] : Rw)
def s8 : Nat → List Pc := fun i => (List.range i).map fun (n : Nat) => ((.int 0, [0], mk [[(n : Int)]]) : Pc)
theorem r8_succ (i : Nat) : r8 (i + 1) = r8 i ++ [[(i : Int)]] := by
  unfold r8
  rw [List.range_succ, List.map_append]
  rfl
theorem s8_succ (i : Nat) : s8 (i + 1) = s8 i ++ [(.int 0, [0], mk [[(i : Int)]])] := by
  unfold s8
  rw [List.range_succ, List.map_append]
  rfl
def q1 : List Pc := [(.int 3, [0, 1], mk rT7)]
def q2 : List Pc := [(.int 2, [0, 1], mk rT7)]
def q3 : List Pc := [(.int 2, [0, 1], mk rO1), (.int 0, [0, 1], mk rO2)]
def q4 : List Pc := [(.int 2, [0, 1], mk rO1), (.int 3, [0, 1], mk rO2)]
def q5 : List Pc := [(.int 0, [0, 1], mk rO1), (.int 20, [0, 1], mk rO1)]
theorem fact_q : [q1, q2, q3, q4].map (partedB [0, 1] [0] (mk rT7) 3) = [false, false, true, false] := by decide +kernel
theorem fact_8 : partedB [0] [0] (mk (r8 8)) 3 (s8 8) = false ∧ partedB [0] [0] (mk (r8 8)) 4 (s8 8) = true := by decide +kernel
theorem fact_put : mk (rowsP q3) = mk rT7 ∧ mk (rowsP q5) = mk rO1 := by decide +kernel
theorem ok_T7 : TOk [0, 1] rT7 := ⟨⟨by decide, by decide⟩, by unfold RowOk rT7; decide⟩
theorem ok_O1 : TOk [0, 1] rO1 := ⟨⟨by decide, by decide⟩, by unfold RowOk rO1; decide⟩
theorem ok_O2 : TOk [0, 1] rO2 := ⟨⟨by decide, by decide⟩, by unfold RowOk rO2; decide⟩
theorem ok_8 : TOk [0] (r8 8) := ⟨⟨by decide, by decide⟩, by unfold RowOk r8; decide⟩
theorem ok_s (n : Nat) (h : n < 1000) : TOk [0] [[(n : Int)]] := ⟨⟨by decide, by decide⟩, fun r hr => by
  rw [List.mem_singleton.mp hr]
  exact ⟨rfl, fun m hm => by
    rw [List.mem_singleton.mp hm]
    omega⟩⟩
theorem mk_tok {lot : Rw} {rs : List Rw} (h : TOk lot rs) : TOk lot (mk rs) := ⟨h.lo, fun r hr => h.ro r (mem_mk.mp hr)⟩
abbrev s_law : Stmt := top 56
abbrev N_law : List Str := ["_law_script", "_law_spot", "_law_cup_here", "_law_turn", "_law_table", "_law_one", "_law_other", "_law_told", "_law_eight", "_law_single", "_law_value", "_law_at"]
theorem sc_law : FnScope N_law ["_law_script"] (defScope s_law) := ⟨rfl, rfl, rfl, by decide +kernel, rfl, by decide +kernel, by decide +kernel⟩
theorem ok_law {f : Addr} {fd : FuncData} (F : Fun K "law" "law" s_law f fd) (T : Tx K mg C) {f__law_cup : Addr} (D__law_cup : Df P w K mg base "_law_cup" f__law_cup 1 (sp__law_cup K C)) {f__law_right : Addr} (D__law_right : Df P w K mg base "_law_right" f__law_right 10 (sp__law_right K C)) {f_T_init : Addr} (D_T_init : MkD P w K mg base C f_T_init 5 (sp_T_init K C)) {f_is_parted : Addr} (D_is_parted : Df P w K mg base "is_parted" f_is_parted 6 (sp_is_parted K C)) {f_T_eq : Addr} (D_T_eq : OwD P w K mg base C "__eq__" f_T_eq 1 (sp_T_eq K C)) {f_put_together : Addr} (D_put_together : Df P w K mg base "put_together" f_put_together 8 (sp_put_together K C)) : FnOk P w K mg base CX0 11 f fd ["_law_script"] (sp_law K C) := by
  refine F.ok sc_law (fun vs H Q E h => len_sp1 h) (fun cdv A outer s H vs Q E hr h => ?_)
  obtain ⟨v0, rfl, h⟩ := h
  refine ⟨_, (pss_cons (ps_for PassesOwn.never rfl (pi_range1 (by rfl) T.range (pa_cons (pe_callB (call_max2 rfl) (by rfl) T.max (by decide +kernel) (pa_cons pe_int (pa_cons (pe_callB (call_min2 rfl) (by rfl) T.min (by decide +kernel) (pa_cons pe_int (pa_cons (pe_callB (k_len (K := K) rfl) (by rfl) T.len PySem.boot_len (pa_cons (pv 0) pa_nil)) pa_nil))) pa_nil))) pa_nil)) (pg_name (i := 1) sc_law.nd rfl (Or.inl rfl))
        (pss_cons (ps_set (i := 2) sc_law.nd rfl (Or.inl rfl) (pe_d D__law_cup hr (by decide) (pa_cons (pv 0) (pa_cons (pv 1) pa_nil))))
      (pss_one (ps_for PassesOwn.never rfl (pi_range1 (by rfl) T.range (pa_cons pe_int pa_nil)) (pg_name (i := 3) sc_law.nd rfl (Or.inl rfl))
        (pss_one (ps_if (pt_not (pt_val (pe_d D__law_right hr (by decide) (pa_cons (pv 2) pa_nil)))) (pss_one (ps_ret pe_bl)) pss_nil))))))
      (pss_cons (ps_set (i := 4) sc_law.nd rfl (Or.inr rfl) (k_mk D_T_init hr (by decide) T.mC (pa_cons (pe_tupF (pa_cons pe_int (pa_cons pe_int pa_nil))) (pa_cons (pe_tup (pa_cons (pe_tup (pa_cons pe_int (pa_cons pe_int pa_nil))) (pa_cons (pe_tup (pa_cons pe_int (pa_cons pe_int pa_nil))) (pa_cons (pe_tup (pa_cons pe_int (pa_cons pe_int pa_nil))) (pa_cons (pe_tup (pa_cons pe_int (pa_cons pe_int pa_nil))) (pa_cons (pe_tup (pa_cons pe_int (pa_cons pe_int pa_nil))) (pa_cons (pe_tup (pa_cons pe_int (pa_cons pe_int pa_nil))) (pa_cons (pe_tup (pa_cons pe_int (pa_cons pe_int pa_nil))) pa_nil)))))))) pa_nil))))
      (pss_cons (ps_par (i := 5) (j := 6) rfl sc_law.nd rfl rfl (by decide) rfl rfl (pa_cons (k_mk D_T_init hr (by decide) T.mC (pa_cons (pe_tupF (pa_cons pe_int (pa_cons pe_int pa_nil))) (pa_cons (pe_tup (pa_cons (pe_tup (pa_cons pe_int (pa_cons pe_int pa_nil))) (pa_cons (pe_tup (pa_cons pe_int (pa_cons pe_int pa_nil))) (pa_cons (pe_tup (pa_cons pe_int (pa_cons pe_int pa_nil))) (pa_cons (pe_tup (pa_cons pe_int (pa_cons pe_int pa_nil))) pa_nil))))) pa_nil))) (pa_cons (k_mk D_T_init hr (by decide) T.mC (pa_cons (pe_tupF (pa_cons pe_int (pa_cons pe_int pa_nil))) (pa_cons (pe_tup (pa_cons (pe_tup (pa_cons pe_int (pa_cons pe_int pa_nil))) (pa_cons (pe_tup (pa_cons pe_int (pa_cons pe_int pa_nil))) (pa_cons (pe_tup (pa_cons pe_int (pa_cons pe_int pa_nil))) pa_nil)))) pa_nil))) pa_nil)) (by rfl))
      (pss_cons (ps_setLc (i := 7) (own := [("_law_value", 10)]) rfl sc_law.nd rfl rfl (sw_true rfl rfl rfl (by decide +kernel)) (k_pit (K := K) rfl (pe_tup (pa_cons (pe_tup (pa_cons (pe_tup (pa_cons pe_int (pa_cons (pv 4) pa_nil))) pa_nil)) (pa_cons (pe_tup (pa_cons (pe_tup (pa_cons pe_int (pa_cons (pv 4) pa_nil))) pa_nil)) (pa_cons (pe_tup (pa_cons (pe_tup (pa_cons pe_int (pa_cons (pv 5) pa_nil))) (pa_cons (pe_tup (pa_cons pe_int (pa_cons (pv 6) pa_nil))) pa_nil))) (pa_cons (pe_tup (pa_cons (pe_tup (pa_cons pe_int (pa_cons (pv 5) pa_nil))) (pa_cons (pe_tup (pa_cons pe_int (pa_cons (pv 6) pa_nil))) pa_nil))) pa_nil)))))) (blkOk_by (own := [("_law_value", 10)]) (N := N_law) (sc := defScope s_law) (by decide +kernel)) (fun _ _ _ _ _ => (pg_name (i := 10) sc_law.nd rfl (Or.inl rfl))) (fun _ _ _ _ _ => pts_nil) (fun _ _ _ _ _ => (pe_d D_is_parted hr (by decide) (pa_cons (pv 4) (pa_cons (pe_tup (pa_cons pe_int pa_nil)) (pa_cons pe_int (pa_cons (pv 10) pa_nil)))))))
      (pss_cons (ps_if (pt_cmpR (k_neD (K := K) rfl hr.units) (pv 7) (pe_lst (pa_cons pe_bl (pa_cons pe_bl (pa_cons pe_bl (pa_cons pe_bl pa_nil))))) (nomark _)) (pss_one (ps_ret pe_bl)) pss_nil)
      (pss_cons (ps_set (i := 8) sc_law.nd rfl (Or.inl rfl) (k_mk D_T_init hr (by decide) T.mC (pa_cons (pe_tupF (pa_cons pe_int pa_nil)) (pa_cons (pe_callTy (k_tuple (K := K) rfl) (by rfl) T.m_tuple boot_tuple (pa_cons (pe_lc (own := [("_law_at", 11)]) rfl sc_law.nd (pi_range1 (by rfl) T.range (pa_cons pe_int pa_nil)) (blkOk_by (own := [("_law_at", 11)]) (N := N_law) (sc := defScope s_law) (by decide +kernel)) (fun _ _ _ _ _ => (pg_name (i := 11) sc_law.nd rfl (Or.inl rfl))) (fun _ _ _ _ _ => pts_nil) (fun _ _ _ _ _ => (pe_tup (pa_cons (pv 11) pa_nil)))) pa_nil)) pa_nil))))
      (pss_cons (ps_set (i := 9) sc_law.nd rfl (Or.inl rfl) (pe_callTy (k_tuple (K := K) rfl) (by rfl) T.m_tuple boot_tuple (pa_cons (pe_lc (own := [("_law_at", 11)]) rfl sc_law.nd (pi_range1 (by rfl) T.range (pa_cons pe_int pa_nil)) (blkOk_by (own := [("_law_at", 11)]) (N := N_law) (sc := defScope s_law) (by decide +kernel)) (fun _ _ _ _ _ => (pg_name (i := 11) sc_law.nd rfl (Or.inl rfl))) (fun _ _ _ _ _ => pts_nil) (fun _ _ _ _ _ => (pe_tup (pa_cons pe_int (pa_cons (k_mk D_T_init hr (by decide) T.mC (pa_cons (pe_tupF (pa_cons pe_int pa_nil)) (pa_cons (pe_tup (pa_cons (pe_tup (pa_cons (pv 11) pa_nil)) pa_nil)) pa_nil))) pa_nil))))) pa_nil)))
      (pss_cons (ps_if ((pw_or (pt_val (pe_d D_is_parted hr (by decide) (pa_cons (pv 8) (pa_cons (pe_tup (pa_cons pe_int pa_nil)) (pa_cons pe_int (pa_cons (pv 9) pa_nil)))))) (pw_or1 (pt_not (pt_val (pe_d D_is_parted hr (by decide) (pa_cons (pv 8) (pa_cons (pe_tup (pa_cons pe_int pa_nil)) (pa_cons pe_int (pa_cons (pv 9) pa_nil))))))))).pt) (pss_one (ps_ret pe_bl)) pss_nil)
      (pss_one (ps_ret (pe_and (pe_cmpR (k_ownEq (K := K) rfl D_T_eq hr (by decide)) (pe_d D_put_together hr (by decide) (pa_cons (pe_tup (pa_cons (pe_tup (pa_cons pe_int (pa_cons (pv 5) pa_nil))) (pa_cons (pe_tup (pa_cons pe_int (pa_cons (pv 6) pa_nil))) pa_nil))) pa_nil)) (pv 4) (nomark _)) (pe_one (pe_cmpR (k_ownEq (K := K) rfl D_T_eq hr (by decide)) (pe_d D_put_together hr (by decide) (pa_cons (pe_tup (pa_cons (pe_tup (pa_cons pe_int (pa_cons (pv 5) pa_nil))) (pa_cons (pe_tup (pa_cons pe_int (pa_cons (pv 5) pa_nil))) pa_nil))) pa_nil)) (pv 5) (nomark _)))))))))))))), ?_⟩
  obtain ⟨s0, ns, rfl, hs, hn, k⟩ := h
  have ql : ∀ {H' : Hp}, Ex H H' → SqL K H' s0 (ns.map V.int) := fun e => ex_l e hs
  -- the drawn values
  refine q_forR1 (ea1 (ev_cb (ea2 ev_c (ev_cb (ea2 ev_c (ev_is (ev_len (ev_var rfl) hs) (by rw [List.length_map]))) fun H1 _ Q q => ⟨3, (ns.length : Int), rfl, q H1 (Ex.refl _)⟩)) fun H1 _ Q q => ⟨1, (if (ns.length : Int) < 3 then (ns.length : Int) else 3), rfl, q H1 (Ex.refl _)⟩)) (by constructor <;> (repeat' split) <;> omega) (fun i σ' H' => (∃ r1 r2 r3, σ' = [some (.ref s0), r1, r2, r3, none, none, none, none, none, none, none, none]) ∧ Ex H H') (fun H1 e1 => ⟨⟨none, none, none, rfl⟩, e1⟩) (fun i σ' H' hi z => ?_) fun σ' H' z => ?_
  · obtain ⟨⟨r1, r2, r3, rfl⟩, ex⟩ := z
    have hi3 : i ≤ 2 := by
      have : (i : Int) < 3 := by
        revert hi
        (repeat' split) <;> omega
      omega
    refine q_asgP (P := fun v H1 => ∃ c, v = .ref c ∧ H c = none ∧ Cup H1 c) (evp_def (ea2 (ev_var rfl) (ev_var rfl)) (spp2 fun H1 e1 Q q => ⟨s0, ns, i, rfl, ql (ex.trans e1), hn, rfl, hi3, fun c H2 e2 hc hcup => q _ H2 e2 ⟨c, rfl, fresh_back (ex.trans e1) hc, hcup⟩⟩)) fun v H1 e1 z => ?_
    obtain ⟨c, rfl, hcn, hcup⟩ := z
    refine s_forR1 (n := 4) (ea1 ev_c) ⟨by decide, by decide⟩ (fun j σ' H' => (∃ r3, σ' = [some (.ref s0), some (.int (i : Int)), some (.ref c), r3, none, none, none, none, none, none, none, none]) ∧ Cup H' c ∧ Ex H H') (fun H2 e2 => ⟨⟨_, rfl⟩, cup_ex hcup e2, (ex.trans e1).trans e2⟩) (fun j σ' H2 hj z => ?_) fun σ' H2 z => ?_
    · obtain ⟨⟨r3', rfl⟩, hc2, ex2⟩ := z
      refine ⟨_, rfl, _, rfl, c, rfl, hc2, fun H3 ec => ⟨true, rfl, ?_⟩⟩
      have ex3 : Ex H H3 := fun a o q => ec.1 a o (ne_of_none q hcn) (ex2 _ _ q)
      exact ⟨⟨_, rfl⟩, ec.2, ex3⟩
    · obtain ⟨⟨r3', rfl⟩, hc2, ex2⟩ := z
      exact ⟨⟨_, _, _, rfl⟩, ex2⟩
  obtain ⟨⟨r1, r2, r3, rfl⟩, ex⟩ := z
  -- the three tables
  refine q_asgP (tab_mk (lot := [0, 1]) (rows := rT7) (lot_lit (ea2 ev_c ev_c) rfl (by decide)) (fun G e => rt_disp (eap_rc row2 fun _ _ => eap_rc row2 fun _ _ => eap_rc row2 fun _ _ => eap_rc row2 fun _ _ => eap_rc row2 fun _ _ => eap_rc row2 fun _ _ => eap_rc row2 fun _ _ => eap_rn) (by decide)) ok_T7 (by decide) fun _ => by decide) fun tb H1 e1 htb => ?_
  refine q_par (P := fun us H2 => ∃ u1 u2, us = [u1, u2] ∧ TabV C H2 u1 [0, 1] (mk rO1) ∧ TabV C H2 u2 [0, 1] (mk rO2)) (eap_cons (tab_mk (lot := [0, 1]) (rows := rO1) (lot_lit (ea2 ev_c ev_c) rfl (by decide)) (fun G e => rt_disp (eap_rc row2 fun _ _ => eap_rc row2 fun _ _ => eap_rc row2 fun _ _ => eap_rc row2 fun _ _ => eap_rn) (by decide)) ok_O1 (by decide) fun _ => by decide) fun u1 H2 e2 z1 => eap_cons (tab_mk (lot := [0, 1]) (rows := rO2) (lot_lit (ea2 ev_c ev_c) rfl (by decide)) (fun G e => rt_disp (eap_rc row2 fun _ _ => eap_rc row2 fun _ _ => eap_rc row2 fun _ _ => eap_rn) (by decide)) ok_O2 (by decide) fun _ => by decide) fun u2 H3 e3 z2 => eap_nil fun H4 e4 => ⟨u1, u2, rfl, z1.mono (fz_of (e3.trans e4)), z2.mono (fz_of e4)⟩) fun us H2 e2 z => ?_
  obtain ⟨one, other, rfl, hone, hother⟩ := z
  refine ⟨_, _, rfl, ?_⟩
  have htb2 := htb.mono (fz_of e2)
  have pr : ∀ {i : Nat} {v : V} {n : Int} {rows : List Rw} {G : Hp} {τ : L2.St}, τ[i]? = some (some v) → TabV C G v [0, 1] rows → EvP (tTup (tCons (tC (.int n)) (tCons (tVar i) tNil))) τ G fun v H2 => PairAt C H2 v (.int n, [0, 1], rows) := fun hσ ht => evp_pair (evp_of ev_c fun _ _ => rfl) fun G1 e => evp_of (ev_var hσ) fun G2 e2 => ht.mono (fz_of (e.trans e2))
  -- the four values
  refine q_asgL (el_is (ys := [.bl false, .bl false, .bl true, .bl false]) (fun G0 g0 Q q => (lc_gen (H := G0) (fun i ys _ => ys = ([q1, q2, q3, q4].take i).map fun qs => V.bl (partedB [0, 1] [0] (mk rT7) 3 qs)) (ei_vts (QS := [q1, q2, q3, q4]) (eap_vc (vt_disp (eap_pc (pr rfl (htb2.mono (fz_of g0))) fun _ _ => eap_pn) (by decide)) fun G1 g1 => eap_vc (vt_disp (eap_pc (pr rfl (htb2.mono (fz_of (g0.trans g1)))) fun _ _ => eap_pn) (by decide)) fun G2 g2 =>
      eap_vc (vt_disp (eap_pc (pr rfl (hone.mono (fz_of ((g0.trans g1).trans g2)))) fun G3 g3 => eap_pc (pr rfl (hother.mono (fz_of (((g0.trans g1).trans g2).trans g3)))) fun _ _ => eap_pn) (by decide)) fun G3 g3 => eap_vc (vt_disp (eap_pc (pr rfl (hone.mono (fz_of (((g0.trans g1).trans g2).trans g3)))) fun G4 g4 => eap_pc (pr rfl (hother.mono (fz_of ((((g0.trans g1).trans g2).trans g3).trans g4)))) fun _ _ => eap_pn) (by decide)) fun G4 g4 => eap_vn) (by decide)) (by decide) (fun _ _ => rfl) (fun _ _ _ _ _ p => p) (fun i v ys G1 G2 lt a1 p y => ?_) gn_mono) G0 (Ex.refl _) _ fun v G1 a1 z => ?_) rfl) fun p H3 hp e3 htold => ?_
  · obtain ⟨rfl, qs, hqs, ⟨us, ⟨t, rfl, ht⟩, hpv⟩⟩ := y
    subst p
    have sm : Sm qs := by
      have : ∀ q ∈ ([q1, q2, q3, q4] : List (List Pc)), (q.all fun x => isI x.1) = true ∧ totR q < 64 ∧ q.length ≤ 1000 := by decide +kernel
      obtain ⟨g1, g2, g3⟩ := this qs (List.mem_of_getElem? hqs)
      refine ⟨fun x hx => ?_, g2, g3⟩
      have z := List.all_eq_true.mp g1 x hx
      cases hx1 : x.1 with
      | int i => exact .inl ⟨i, rfl⟩
      | _ =>
        rw [hx1] at z
        cases z
    refine ⟨rfl, Ex.refl _, true, et_yes, fun z => (nomatch z), fun _ => ?_⟩
    refine evp_of (ev_defA (z := .bl (partedB [0, 1] [0] (mk rT7) 3 qs)) (Pa := fun us H7 => ∃ lw, us = [tb, lw, .int 3, .ref t] ∧ IT H7 lw [0]) (eap_cons (evp_of (P := fun v _ => v = tb) (ev_var rfl) fun _ _ => rfl) fun u1 B1 b1 z1 => eap_cons (it_lit (ns := [0]) (ea1 ev_c) rfl (by decide)) fun u2 B2 b2 z2 => eap_cons (evp_of (P := fun v _ => v = .int 3) ev_c fun _ _ => rfl) fun u3 B3 b3 z3 => eap_cons (evp_of (P := fun v _ => v = .ref t) (ev_var rfl) fun _ _ => rfl) fun u4 B4 b4 z4 => eap_nil fun B5 b5 => by
        subst z1 z3 z4
        exact ⟨u2, rfl, z2.mono (fz_of ((b3.trans b4).trans b5))⟩) fun us2 B b z => by
        obtain ⟨lw, rfl, hlw⟩ := z
        exact spv4 fun B2 b2 Q k => ⟨[0, 1], mk rT7, [0], 3, htb2.mono (fz_of (((g0.trans a1).trans b).trans b2)), hlw.mono (fz_of b2), rfl, by decide, ⟨by decide, by decide⟩, by decide, by decide +kernel, by decide, by decide +kernel, .inl ⟨qs, ⟨t, us, rfl, b2 _ _ (b _ _ ht), hpv.mono (fz_of (b.trans b2)), sm.1, sm.2.1, sm.2.2⟩, k⟩⟩) fun B b => ?_
    rw [List.take_add_one, hqs, List.map_append]
    rfl
  · obtain ⟨p, ys, rfl, hp0, hpl, rfl⟩ := z
    refine q p G1 hp0 a1 ?_
    have e : ([q1, q2, q3, q4].take ([q1, q2, q3, q4] : List (List Pc)).length).map (fun qs => V.bl (partedB [0, 1] [0] (mk rT7) 3 qs)) = [.bl false, .bl false, .bl true, .bl false] := by
      rw [List.take_length]
      have z := congrArg (List.map V.bl) fact_q
      rw [List.map_map] at z
      exact z
    rw [← e]
    exact hpl
  refine q_when (b := false) (et_test (ev_opL (ev_var rfl) (el_lst (ea_cons ev_c (ea3 ev_c ev_c ev_c)) (by show 4 ≤ 100000; decide)) fun q G h g => fun G2 g2 Q k => ⟨.list [.bool false, .bool false, .bool true, .bool false], .list [.bool false, .bool false, .bool true, .bool false], .lst (sq_of (g2 _ _ (g _ _ htold))) (.cons (.bl _) (.cons (.bl _) (.cons (.bl _) (.cons (.bl _) .nil)))), .lst (sq_of (g2 _ _ h)) (.cons (.bl _) (.cons (.bl _) (.cons (.bl _) (.cons (.bl _) .nil)))), by decide, by decide, by
    have z : PyData.eqv (.list [.bool false, .bool false, .bool true, .bool false]) (.list [.bool false, .bool false, .bool true, .bool false]) = true := by simp [PyData.eqv, PyData.eqvAll]
    rw [z]
    exact k G2 (Ex.refl _)⟩)) (fun z => nomatch z) fun _ H4 e4 => ?_
  -- eight rows
  refine q_asgP (tab_mk (lot := [0]) (rows := r8 8) (lot_lit (ea1 ev_c) rfl (by decide)) (fun G g => rt_tuple (evp_imp (lc_gen (fun i ys G1 => RowsX (r8 i) ys G1) (ei_rng1 (n := 8) (ea1 ev_c) (by decide)) (by decide) (fun _ _ => ⟨[], rfl, .nil⟩) (fun _ _ _ _ e z => by
      obtain ⟨as, rfl, ha⟩ := z
      exact ⟨as, rfl, rows_mono e ha⟩) (fun i v ys G1 G2 lt a1 p y => ?_) gn_mono) fun v G1 a1 z => ?_)) ok_8 (by decide) fun _ => by decide) fun e8 H5 e5 he8 => ?_
  · obtain ⟨rfl, rfl⟩ := y
    refine ⟨rfl, Ex.refl _, true, et_yes, fun z => (nomatch z), fun _ => evp_imp (row_lit (r := [(i : Int)]) (ea1 (ev_var rfl)) rfl (by show 1 ≤ 1000; decide)) fun v G3 a3 z => ?_⟩
    obtain ⟨t, rfl, ht⟩ := z
    obtain ⟨as, rfl, ha⟩ := p
    rw [r8_succ]
    exact ⟨as ++ [t], by rw [List.map_append]; rfl, paired_app (rows_mono (fz_of a3) ha) (.cons ht .nil)⟩
  · obtain ⟨p, ys, rfl, _, h1, as, rfl, ha⟩ := z
    exact ⟨p, as, rfl, h1, ha⟩
  -- eight pieces
  refine q_asgP (vt_tuple (C := C) (qs := s8 8) (evp_imp (lc_gen (fun i ys G1 => PVals C G1 ys (s8 i)) (ei_rng1 (n := 8) (ea1 ev_c) (by decide)) (by decide) (fun _ _ => .nil) (fun _ _ _ _ e z => PVals.mono e z) (fun i v ys G1 G2 lt a1 p y => ?_) gn_mono) fun v G1 a1 z => ?_)) fun s8v H6 e6 hs8 => ?_
  · obtain ⟨rfl, rfl⟩ := y
    refine ⟨rfl, Ex.refl _, true, et_yes, fun z => (nomatch z), fun _ => evp_imp (evp_pair (j := .int 0) (lot := [0]) (rows := mk [[(i : Int)]]) (C := C) (evp_of ev_c fun _ _ => rfl) fun G3 a3 => tab_mk (lot_lit (ea1 ev_c) rfl (by decide)) (fun G4 a4 => rt_one (row_lit (r := [(i : Int)]) (ea1 (ev_var rfl)) rfl (by show 1 ≤ 1000; decide))) (ok_s i (by omega)) (by show 1 < 64; decide) fun _ => by decide) fun v G3 a3 z => ?_⟩
    rw [s8_succ]
    exact paired_app (p.mono (fz_of a3)) (.cons z .nil)
  · obtain ⟨p, ys, rfl, _, h1, h2⟩ := z
    exact ⟨p, ys, rfl, h1, h2⟩
  obtain ⟨us8, ⟨t8, rfl, ht8⟩, hpv8⟩ := hs8
  have he86 := he8.mono (fz_of e6)
  have sm8 : (∀ q ∈ s8 8, IsJ q.1) ∧ totR (s8 8) < 64 ∧ (s8 8).length ≤ 1000 := ⟨fun q hq => by
    obtain ⟨n, _, rfl⟩ := List.mem_map.mp hq
    exact .inl ⟨0, rfl⟩, by decide +kernel, by decide +kernel⟩
  have ask : ∀ (kk : Nat) {G : Hp} {τ : L2.St}, kk ≤ 20 → (mk (r8 8)).length ≤ 2 ^ kk → Ex H6 G → τ[8]? = some (some e8) → τ[9]? = some (some (.ref t8)) → Ev (tDef (sp_is_parted K C) E0 (tCons (tVar 8) (tCons (tTup (tCons (tC (.int 0)) tNil)) (tCons (tC (.int (kk : Int))) (tCons (tVar 9) tNil))))) τ G (.bl (partedB [0] [0] (mk (r8 8)) kk (s8 8))) := fun kk G τ hk h2 g h8 h9 =>
    ev_defA (Pa := fun us H7 => ∃ lw, us = [e8, lw, .int (kk : Int), .ref t8] ∧ IT H7 lw [0]) (eap_cons (evp_of (P := fun v _ => v = e8) (ev_var h8) fun _ _ => rfl) fun u1 B1 b1 z1 => eap_cons (it_lit (ns := [0]) (ea1 ev_c) rfl (by decide)) fun u2 B2 b2 z2 => eap_cons (evp_of (P := fun v _ => v = .int (kk : Int)) ev_c fun _ _ => rfl) fun u3 B3 b3 z3 => eap_cons (evp_of (P := fun v _ => v = .ref t8) (ev_var h9) fun _ _ => rfl) fun u4 B4 b4 z4 => eap_nil fun B5 b5 => by
      subst z1 z3 z4
      exact ⟨u2, rfl, z2.mono (fz_of ((b3.trans b4).trans b5))⟩) fun us2 B b z => by
      obtain ⟨lw, rfl, hlw⟩ := z
      exact spv4 fun B2 b2 Q k => ⟨[0], mk (r8 8), [0], kk, he86.mono (fz_of ((g.trans b).trans b2)), hlw.mono (fz_of b2), rfl, hk, ⟨by decide, by decide⟩, by decide, h2, by decide, by decide +kernel, .inl ⟨s8 8, ⟨t8, us8, rfl, ((g.trans b).trans b2) _ _ ht8, hpv8.mono (fz_of ((g.trans b).trans b2)), sm8.1, sm8.2.1, sm8.2.2⟩, k⟩⟩
  refine q_when (b := false) (et_is (et_or (et_B (ask 3 (by decide) (by decide +kernel) (Ex.refl _) rfl rfl)) fun _ => et_not (et_B (ask 4 (by decide) (by decide +kernel) (Ex.refl _) rfl rfl))) (by rw [fact_8.1, fact_8.2]; rfl)) (fun z => nomatch z) fun _ H7 e7 => ?_
  -- put together again
  have hone7 := hone.mono (fz_of ((((e3.trans e4).trans e5).trans e6).trans e7))
  have hother7 := hother.mono (fz_of ((((e3.trans e4).trans e5).trans e6).trans e7))
  have htb7 := htb2.mono (fz_of ((((e3.trans e4).trans e5).trans e6).trans e7))
  have put : ∀ (qs : List Pc) {tA : TA} {G : Hp} {τ : L2.St}, (∀ q ∈ qs, jB q.1 20 = true ∧ q.2.1 = [0, 1]) → 1 ≤ qs.length → qs.length ≤ 50 → totR qs < 64 → EvPA tA τ G (fun us H2 => PVals C H2 us qs) → EvP (tDef (sp_put_together K C) E0 (tCons (tTup tA) tNil)) τ G fun v H2 => TabV C H2 v [0, 1] (mk (rowsP qs)) := fun qs {tA G τ} h1 h2 h3 h4 h =>
    evp_defA (Pa := fun us H2 => ∃ v, us = [v] ∧ VT C qs v H2) (eap_cons (vt_disp h (by omega)) fun v B b z => eap_nil fun B2 b2 => ⟨v, rfl, z.mono (fz_of b2)⟩) fun us B b z => by
      obtain ⟨v, rfl, xs, ⟨t, rfl, ht⟩, hp⟩ := z
      exact fun B1 b1 Q q E => ⟨_, rfl, t, xs, qs, [0, 1], rfl, b1 _ _ ht, hp.mono (fz_of b1), h2, h3, h1, by decide, h4, fun v B2 b2 g => q v B2 b2 g⟩
  refine s_ret (v := .bl true) (ev_is (ev_andV (ev_opPP (P2 := fun v H2 => TabV C H2 v [0, 1] (mk rT7)) (put q3 (by decide +kernel) (by decide) (by decide) (by decide +kernel) (eap_pc (pr rfl hone7) fun G g => eap_pc (pr rfl (hother7.mono (fz_of g))) fun _ _ => eap_pn)) (fun G g => evp_of (ev_var rfl) fun G2 g2 => htb7.mono (fz_of (g.trans g2))) (fun v G1 G2 e z => z.mono (fz_of e)) fun x y G h1 h2 => rv_own T h1 h2) fun _ =>
    ev_opPP (P2 := fun v H2 => TabV C H2 v [0, 1] (mk rO1)) (put q5 (by decide +kernel) (by decide) (by decide) (by decide +kernel) (eap_pc (pr rfl hone7) fun G g => eap_pc (pr rfl (hone7.mono (fz_of g))) fun _ _ => eap_pn)) (fun G g => evp_of (ev_var rfl) fun G2 g2 => hone7.mono (fz_of (g.trans g2))) (fun v G1 G2 e z => z.mono (fz_of e)) fun x y G h1 h2 => rv_own T h1 h2) ?_) fun H8 _ => k H8
  rw [fact_put.1, fact_put.2, decide_eq_true rfl, decide_eq_true rfl, decide_eq_true rfl]
  rfl
end
end Q44
namespace Q44
open PySem PySem.Spec PyProof.Rows L2 M44 Evl
theorem raw0 {P : Program} {w : World} {K : PySem.W.Frag} {mg : Str → Option Value} {base : Heap} {k : Nat} {f : Addr} {fd : FuncData} {ps : List Str} {sp : Sp} (F : FnOk P w K mg base CX0 k f fd ps sp) (hb : Binds K fd ps []) : FnR P w K mg base CX0 k f sp :=
  (F.raw hb .nil).imp fun vs H Q E h => by
    rw [List.append_nil]
    exact h
theorem all_mk {P : Program} {w : World} {K : PySem.W.Frag} {h : Heap} {mg : Str → Option Value} {fa C q0 q1 q2 q3 p15 p16 f1 f2 f3 f4 f5 f6 f7 f8 f9 f10 f11 f12 f13 f14 f15 f16 f17 f18 f19 f20 f21 f22 f23 f24 f25 f26 f27 f28 f29 f30 f31 f32 f33 f34 f35 f36 f37 f38 f39 f40 f41 f42 f43 f44 f45 : Addr} {rs15 rs16 : List Value} (X : K.In h) (G : h.Ns mainGlobals mg) (hfa : mg "law" = some (.ref fa))
    {od1 an1 od2 an2 od3 an3 od4 an4 od5 an5 od6 an6 od7 an7 od8 an8 od9 an9 od10 an10 od11 an11 od12 an12 od13 an13 od14 an14 od15 an15 od16 an16 od17 an17 od18 an18 od19 an19 od20 an20 od21 an21 od22 an22 od23 an23 od24 an24 od25 an25 od26 an26 od27 an27 od28 an28 od29 an29 od30 an30 od31 an31 od32 an32 od33 an33 od34 an34 od35 an35 od36 an36 od37 an37 od38 an38 od39 an39 od40 an40 od41 an41 od42 an42 od43 an43 od44 an44 od45 an45 : Option Addr} {sl1 sl2 sl3 sl4 sl5 sl6 sl7 sl8 sl9 sl10 sl11 sl12 sl13 sl14 sl15 sl16 sl17 sl18 sl19 sl20 sl21 sl22 sl23 sl24 sl25 sl26 sl27 sl28 sl29 sl30 sl31 sl32 sl33 sl34 sl35 sl36 sl37 sl38 sl39 sl40 sl41 sl42 sl43 sl44 sl45 : Array (Option Value)}
    {oc1 kV1 dc1 pm1 cd1 ct1 oc2 kV2 dc2 pm2 cd2 ct2 oc3 kV3 dc3 pm3 cd3 ct3 oc4 kV4 dc4 pm4 cd4 ct4 oc5 kV5 dc5 pm5 cd5 ct5 oc6 kV6 dc6 pm6 cd6 ct6 oc7 kV7 dc7 pm7 cd7 ct7 oc8 kV8 dc8 pm8 cd8 ct8 oc9 kV9 dc9 pm9 cd9 ct9 oc10 kV10 dc10 pm10 cd10 ct10 oc11 kV11 dc11 pm11 cd11 ct11 oc12 kV12 dc12 pm12 cd12 ct12 oc13 kV13 dc13 pm13 cd13 ct13 oc14 kV14 dc14 pm14 cd14 ct14 oc15 kV15 dc15 pm15 cd15 ct15 oc16 kV16 dc16 pm16 cd16 ct16 oc17 kV17 dc17 pm17 cd17 ct17 oc18 kV18 dc18 pm18 cd18 ct18 oc19 kV19 dc19 pm19 cd19 ct19 oc20 kV20 dc20 pm20 cd20 ct20 oc21 kV21 dc21 pm21 cd21 ct21 oc22 kV22 dc22 pm22 cd22 ct22 oc23 kV23 dc23 pm23 cd23 ct23 oc24 kV24 dc24 pm24 cd24 ct24 oc25 kV25 dc25 pm25 cd25 ct25 oc26 kV26 dc26 pm26 cd26 ct26 oc27 kV27 dc27 pm27 cd27 ct27 oc28 kV28 dc28 pm28 cd28 ct28 oc29 kV29 dc29 pm29 cd29 ct29 oc30 kV30 dc30 pm30 cd30 ct30 oc31 kV31 dc31 pm31 cd31 ct31 oc32 kV32 dc32 pm32 cd32 ct32 oc33 kV33 dc33 pm33 cd33 ct33 oc34 kV34 dc34 pm34 cd34 ct34 oc35 kV35 dc35 pm35 cd35 ct35 oc36 kV36 dc36 pm36 cd36 ct36 oc37 kV37 dc37 pm37 cd37 ct37 oc38 kV38 dc38 pm38 cd38 ct38 oc39 kV39 dc39 pm39 cd39 ct39 oc40 kV40 dc40 pm40 cd40 ct40 oc41 kV41 dc41 pm41 cd41 ct41 oc42 kV42 dc42 pm42 cd42 ct42 oc43 kV43 dc43 pm43 cd43 ct43 oc44 kV44 dc44 pm44 cd44 ct44 oc45 kV45 dc45 pm45 cd45 ct45 : Value}
    {tLETTERS tMOST_ROWS tBOUND tMOST_POWER tMOST_PIECES tPAIR : Tok}
    (aC : PySem.W.nsIn K mainGlobals "Table" = some (some (.ref C)))
    (a1 : PySem.W.nsIn K mainGlobals "is_letter" = some (some (.ref f1)))
    (l1 : K.lookup f1 = some ⟨oc1, od1, .func (PySem.W.fnOf "is_letter" "is_letter" (defArgs s_is_letter) (defBody s_is_letter) (defScope s_is_letter) .none kV1 dc1 pm1 an1 cd1 ct1), sl1⟩)
    (c1 : PySem.W.codeIn K cd1 "is_letter" = true)
    (k1 : PySem.W.keepIn K (.ref f1) = true)
    (a2 : PySem.W.nsIn K mainGlobals "is_lot" = some (some (.ref f2)))
    (l2 : K.lookup f2 = some ⟨oc2, od2, .func (PySem.W.fnOf "is_lot" "is_lot" (defArgs s_is_lot) (defBody s_is_lot) (defScope s_is_lot) .none kV2 dc2 pm2 an2 cd2 ct2), sl2⟩)
    (c2 : PySem.W.codeIn K cd2 "is_lot" = true)
    (k2 : PySem.W.keepIn K (.ref f2) = true)
    (a3 : PySem.W.nsIn K mainGlobals "within_in" = some (some (.ref f3)))
    (l3 : K.lookup f3 = some ⟨oc3, od3, .func (PySem.W.fnOf "within_in" "within_in" (defArgs s_within_in) (defBody s_within_in) (defScope s_within_in) .none kV3 dc3 pm3 an3 cd3 ct3), sl3⟩)
    (c3 : PySem.W.codeIn K cd3 "within_in" = true)
    (k3 : PySem.W.keepIn K (.ref f3) = true)
    (a4 : PySem.W.nsIn K mainGlobals "require_lot" = some (some (.ref f4)))
    (l4 : K.lookup f4 = some ⟨oc4, od4, .func (PySem.W.fnOf "require_lot" "require_lot" (defArgs s_require_lot) (defBody s_require_lot) (defScope s_require_lot) .none kV4 dc4 pm4 an4 cd4 ct4), sl4⟩)
    (c4 : PySem.W.codeIn K cd4 "require_lot" = true)
    (k4 : PySem.W.keepIn K (.ref f4) = true)
    (a5 : PySem.W.nsIn K mainGlobals "is_whole" = some (some (.ref f5)))
    (l5 : K.lookup f5 = some ⟨oc5, od5, .func (PySem.W.fnOf "is_whole" "is_whole" (defArgs s_is_whole) (defBody s_is_whole) (defScope s_is_whole) .none kV5 dc5 pm5 an5 cd5 ct5), sl5⟩)
    (c5 : PySem.W.codeIn K cd5 "is_whole" = true)
    (k5 : PySem.W.keepIn K (.ref f5) = true)
    (a6 : PySem.W.nsIn K mainGlobals "is_within" = some (some (.ref f6)))
    (l6 : K.lookup f6 = some ⟨oc6, od6, .func (PySem.W.fnOf "is_within" "is_within" (defArgs s_is_within) (defBody s_is_within) (defScope s_is_within) .none kV6 dc6 pm6 an6 cd6 ct6), sl6⟩)
    (c6 : PySem.W.codeIn K cd6 "is_within" = true)
    (k6 : PySem.W.keepIn K (.ref f6) = true)
    (a7 : PySem.W.nsIn K mainGlobals "power_in" = some (some (.ref f7)))
    (l7 : K.lookup f7 = some ⟨oc7, od7, .func (PySem.W.fnOf "power_in" "power_in" (defArgs s_power_in) (defBody s_power_in) (defScope s_power_in) .none kV7 dc7 pm7 an7 cd7 ct7), sl7⟩)
    (c7 : PySem.W.codeIn K cd7 "power_in" = true)
    (k7 : PySem.W.keepIn K (.ref f7) = true)
    (a8 : PySem.W.nsIn K mainGlobals "require_within" = some (some (.ref f8)))
    (l8 : K.lookup f8 = some ⟨oc8, od8, .func (PySem.W.fnOf "require_within" "require_within" (defArgs s_require_within) (defBody s_require_within) (defScope s_require_within) .none kV8 dc8 pm8 an8 cd8 ct8), sl8⟩)
    (c8 : PySem.W.codeIn K cd8 "require_within" = true)
    (k8 : PySem.W.keepIn K (.ref f8) = true)
    (a9 : PySem.W.nsIn K mainGlobals "is_small" = some (some (.ref f9)))
    (l9 : K.lookup f9 = some ⟨oc9, od9, .func (PySem.W.fnOf "is_small" "is_small" (defArgs s_is_small) (defBody s_is_small) (defScope s_is_small) .none kV9 dc9 pm9 an9 cd9 ct9), sl9⟩)
    (c9 : PySem.W.codeIn K cd9 "is_small" = true)
    (k9 : PySem.W.keepIn K (.ref f9) = true)
    (a10 : PySem.W.nsIn K mainGlobals "is_row_in" = some (some (.ref f10)))
    (l10 : K.lookup f10 = some ⟨oc10, od10, .func (PySem.W.fnOf "is_row_in" "is_row_in" (defArgs s_is_row_in) (defBody s_is_row_in) (defScope s_is_row_in) .none kV10 dc10 pm10 an10 cd10 ct10), sl10⟩)
    (c10 : PySem.W.codeIn K cd10 "is_row_in" = true)
    (k10 : PySem.W.keepIn K (.ref f10) = true)
    (a11 : PySem.W.nsIn K mainGlobals "are_rows" = some (some (.ref f11)))
    (l11 : K.lookup f11 = some ⟨oc11, od11, .func (PySem.W.fnOf "are_rows" "are_rows" (defArgs s_are_rows) (defBody s_are_rows) (defScope s_are_rows) .none kV11 dc11 pm11 an11 cd11 ct11), sl11⟩)
    (c11 : PySem.W.codeIn K cd11 "are_rows" = true)
    (k11 : PySem.W.keepIn K (.ref f11) = true)
    (a12 : PySem.W.nsIn K mainGlobals "lot_told" = some (some (.ref f12)))
    (l12 : K.lookup f12 = some ⟨oc12, od12, .func (PySem.W.fnOf "lot_told" "lot_told" (defArgs s_lot_told) (defBody s_lot_told) (defScope s_lot_told) .none kV12 dc12 pm12 an12 cd12 ct12), sl12⟩)
    (c12 : PySem.W.codeIn K cd12 "lot_told" = true)
    (k12 : PySem.W.keepIn K (.ref f12) = true)
    (a13 : PySem.W.findIn K (.ref C) "keep" = some (some (.ref f13)))
    (i13 : PySem.W.isFn K (.ref f13) = true)
    (l13 : K.lookup f13 = some ⟨oc13, od13, .func (PySem.W.fnOf "keep" "Table.keep" (defArgs s_T_keep) (defBody s_T_keep) (defScope s_T_keep) .none kV13 dc13 pm13 an13 cd13 ct13), sl13⟩)
    (c13 : PySem.W.codeIn K cd13 "Table.keep" = true)
    (k13 : PySem.W.keepIn K (.ref f13) = true)
    (a14 : PySem.W.findIn K (.ref C) "__init__" = some (some (.ref f14)))
    (i14 : PySem.W.isFn K (.ref f14) = true)
    (l14 : K.lookup f14 = some ⟨oc14, od14, .func (PySem.W.fnOf "__init__" "Table.__init__" (defArgs s_T_init) (defBody s_T_init) (defScope s_T_init) .none kV14 dc14 pm14 an14 cd14 ct14), sl14⟩)
    (c14 : PySem.W.codeIn K cd14 "Table.__init__" = true)
    (k14 : PySem.W.keepIn K (.ref f14) = true)
    (a15 : PySem.W.findIn K (.ref C) "lot" = some (some (.ref p15)))
    (g15 : PySem.W.specialIn K (.ref p15) "__get__" = some (some (.builtin "property.__get__")))
    (t15 : PySem.W.takesIn K (.ref p15) = some true)
    (r15 : PySem.W.recIn K p15 "property" = some (.ref f15 :: rs15))
    (l15 : K.lookup f15 = some ⟨oc15, od15, .func (PySem.W.fnOf "lot" "Table.lot" (defArgs s_T_lot) (defBody s_T_lot) (defScope s_T_lot) .none kV15 dc15 pm15 an15 cd15 ct15), sl15⟩)
    (c15 : PySem.W.codeIn K cd15 "Table.lot" = true)
    (k15 : PySem.W.keepIn K (.ref f15) = true)
    (a16 : PySem.W.findIn K (.ref C) "rows" = some (some (.ref p16)))
    (g16 : PySem.W.specialIn K (.ref p16) "__get__" = some (some (.builtin "property.__get__")))
    (t16 : PySem.W.takesIn K (.ref p16) = some true)
    (r16 : PySem.W.recIn K p16 "property" = some (.ref f16 :: rs16))
    (l16 : K.lookup f16 = some ⟨oc16, od16, .func (PySem.W.fnOf "rows" "Table.rows" (defArgs s_T_rows) (defBody s_T_rows) (defScope s_T_rows) .none kV16 dc16 pm16 an16 cd16 ct16), sl16⟩)
    (c16 : PySem.W.codeIn K cd16 "Table.rows" = true)
    (k16 : PySem.W.keepIn K (.ref f16) = true)
    (a17 : PySem.W.findIn K (.ref C) "__len__" = some (some (.ref f17)))
    (i17 : PySem.W.isFn K (.ref f17) = true)
    (l17 : K.lookup f17 = some ⟨oc17, od17, .func (PySem.W.fnOf "__len__" "Table.__len__" (defArgs s_T_len) (defBody s_T_len) (defScope s_T_len) .none kV17 dc17 pm17 an17 cd17 ct17), sl17⟩)
    (c17 : PySem.W.codeIn K cd17 "Table.__len__" = true)
    (k17 : PySem.W.keepIn K (.ref f17) = true)
    (a18 : PySem.W.findIn K (.ref C) "__eq__" = some (some (.ref f18)))
    (i18 : PySem.W.isFn K (.ref f18) = true)
    (l18 : K.lookup f18 = some ⟨oc18, od18, .func (PySem.W.fnOf "__eq__" "Table.__eq__" (defArgs s_T_eq) (defBody s_T_eq) (defScope s_T_eq) .none kV18 dc18 pm18 an18 cd18 ct18), sl18⟩)
    (c18 : PySem.W.codeIn K cd18 "Table.__eq__" = true)
    (k18 : PySem.W.keepIn K (.ref f18) = true)
    (a19 : PySem.W.nsIn K mainGlobals "made_table" = some (some (.ref f19)))
    (l19 : K.lookup f19 = some ⟨oc19, od19, .func (PySem.W.fnOf "made_table" "made_table" (defArgs s_made_table) (defBody s_made_table) (defScope s_made_table) .none kV19 dc19 pm19 an19 cd19 ct19), sl19⟩)
    (c19 : PySem.W.codeIn K cd19 "made_table" = true)
    (k19 : PySem.W.keepIn K (.ref f19) = true)
    (a20 : PySem.W.nsIn K mainGlobals "is_table" = some (some (.ref f20)))
    (l20 : K.lookup f20 = some ⟨oc20, od20, .func (PySem.W.fnOf "is_table" "is_table" (defArgs s_is_table) (defBody s_is_table) (defScope s_is_table) .none kV20 dc20 pm20 an20 cd20 ct20), sl20⟩)
    (c20 : PySem.W.codeIn K cd20 "is_table" = true)
    (k20 : PySem.W.keepIn K (.ref f20) = true)
    (a21 : PySem.W.nsIn K mainGlobals "require_table" = some (some (.ref f21)))
    (l21 : K.lookup f21 = some ⟨oc21, od21, .func (PySem.W.fnOf "require_table" "require_table" (defArgs s_require_table) (defBody s_require_table) (defScope s_require_table) .none kV21 dc21 pm21 an21 cd21 ct21), sl21⟩)
    (c21 : PySem.W.codeIn K cd21 "require_table" = true)
    (k21 : PySem.W.keepIn K (.ref f21) = true)
    (a22 : PySem.W.nsIn K mainGlobals "groups_in" = some (some (.ref f22)))
    (l22 : K.lookup f22 = some ⟨oc22, od22, .func (PySem.W.fnOf "groups_in" "groups_in" (defArgs s_groups_in) (defBody s_groups_in) (defScope s_groups_in) .none kV22 dc22 pm22 an22 cd22 ct22), sl22⟩)
    (c22 : PySem.W.codeIn K cd22 "groups_in" = true)
    (k22 : PySem.W.keepIn K (.ref f22) = true)
    (a23 : PySem.W.nsIn K mainGlobals "parted_in" = some (some (.ref f23)))
    (l23 : K.lookup f23 = some ⟨oc23, od23, .func (PySem.W.fnOf "parted_in" "parted_in" (defArgs s_parted_in) (defBody s_parted_in) (defScope s_parted_in) .none kV23 dc23 pm23 an23 cd23 ct23), sl23⟩)
    (c23 : PySem.W.codeIn K cd23 "parted_in" = true)
    (k23 : PySem.W.keepIn K (.ref f23) = true)
    (a24 : PySem.W.nsIn K mainGlobals "does_fit" = some (some (.ref f24)))
    (l24 : K.lookup f24 = some ⟨oc24, od24, .func (PySem.W.fnOf "does_fit" "does_fit" (defArgs s_does_fit) (defBody s_does_fit) (defScope s_does_fit) .none kV24 dc24 pm24 an24 cd24 ct24), sl24⟩)
    (c24 : PySem.W.codeIn K cd24 "does_fit" = true)
    (k24 : PySem.W.keepIn K (.ref f24) = true)
    (a25 : PySem.W.nsIn K mainGlobals "is_piece" = some (some (.ref f25)))
    (l25 : K.lookup f25 = some ⟨oc25, od25, .func (PySem.W.fnOf "is_piece" "is_piece" (defArgs s_is_piece) (defBody s_is_piece) (defScope s_is_piece) .none kV25 dc25 pm25 an25 cd25 ct25), sl25⟩)
    (c25 : PySem.W.codeIn K cd25 "is_piece" = true)
    (k25 : PySem.W.keepIn K (.ref f25) = true)
    (a26 : PySem.W.nsIn K mainGlobals "require_cut" = some (some (.ref f26)))
    (l26 : K.lookup f26 = some ⟨oc26, od26, .func (PySem.W.fnOf "require_cut" "require_cut" (defArgs s_require_cut) (defBody s_require_cut) (defScope s_require_cut) .none kV26 dc26 pm26 an26 cd26 ct26), sl26⟩)
    (c26 : PySem.W.codeIn K cd26 "require_cut" = true)
    (k26 : PySem.W.keepIn K (.ref f26) = true)
    (a27 : PySem.W.nsIn K mainGlobals "need_within" = some (some (.ref f27)))
    (l27 : K.lookup f27 = some ⟨oc27, od27, .func (PySem.W.fnOf "need_within" "need_within" (defArgs s_need_within) (defBody s_need_within) (defScope s_need_within) .none kV27 dc27 pm27 an27 cd27 ct27), sl27⟩)
    (c27 : PySem.W.codeIn K cd27 "need_within" = true)
    (k27 : PySem.W.keepIn K (.ref f27) = true)
    (a28 : PySem.W.nsIn K mainGlobals "require_cut_and_power" = some (some (.ref f28)))
    (l28 : K.lookup f28 = some ⟨oc28, od28, .func (PySem.W.fnOf "require_cut_and_power" "require_cut_and_power" (defArgs s_require_cut_and_power) (defBody s_require_cut_and_power) (defScope s_require_cut_and_power) .none kV28 dc28 pm28 an28 cd28 ct28), sl28⟩)
    (c28 : PySem.W.codeIn K cd28 "require_cut_and_power" = true)
    (k28 : PySem.W.keepIn K (.ref f28) = true)
    (a29 : PySem.W.nsIn K mainGlobals "require_pieces" = some (some (.ref f29)))
    (l29 : K.lookup f29 = some ⟨oc29, od29, .func (PySem.W.fnOf "require_pieces" "require_pieces" (defArgs s_require_pieces) (defBody s_require_pieces) (defScope s_require_pieces) .none kV29 dc29 pm29 an29 cd29 ct29), sl29⟩)
    (c29 : PySem.W.codeIn K cd29 "require_pieces" = true)
    (k29 : PySem.W.keepIn K (.ref f29) = true)
    (a30 : PySem.W.nsIn K mainGlobals "parted" = some (some (.ref f30)))
    (l30 : K.lookup f30 = some ⟨oc30, od30, .func (PySem.W.fnOf "parted" "parted" (defArgs s_parted) (defBody s_parted) (defScope s_parted) .none kV30 dc30 pm30 an30 cd30 ct30), sl30⟩)
    (c30 : PySem.W.codeIn K cd30 "parted" = true)
    (k30 : PySem.W.keepIn K (.ref f30) = true)
    (a31 : PySem.W.nsIn K mainGlobals "is_parted" = some (some (.ref f31)))
    (l31 : K.lookup f31 = some ⟨oc31, od31, .func (PySem.W.fnOf "is_parted" "is_parted" (defArgs s_is_parted) (defBody s_is_parted) (defScope s_is_parted) .none kV31 dc31 pm31 an31 cd31 ct31), sl31⟩)
    (c31 : PySem.W.codeIn K cd31 "is_parted" = true)
    (k31 : PySem.W.keepIn K (.ref f31) = true)
    (a32 : PySem.W.nsIn K mainGlobals "put_together" = some (some (.ref f32)))
    (l32 : K.lookup f32 = some ⟨oc32, od32, .func (PySem.W.fnOf "put_together" "put_together" (defArgs s_put_together) (defBody s_put_together) (defScope s_put_together) .none kV32 dc32 pm32 an32 cd32 ct32), sl32⟩)
    (c32 : PySem.W.codeIn K cd32 "put_together" = true)
    (k32 : PySem.W.keepIn K (.ref f32) = true)
    (a33 : PySem.W.nsIn K mainGlobals "_law_cup" = some (some (.ref f33)))
    (l33 : K.lookup f33 = some ⟨oc33, od33, .func (PySem.W.fnOf "_law_cup" "_law_cup" (defArgs s__law_cup) (defBody s__law_cup) (defScope s__law_cup) .none kV33 dc33 pm33 an33 cd33 ct33), sl33⟩)
    (c33 : PySem.W.codeIn K cd33 "_law_cup" = true)
    (k33 : PySem.W.keepIn K (.ref f33) = true)
    (a34 : PySem.W.nsIn K mainGlobals "_law_tossed" = some (some (.ref f34)))
    (l34 : K.lookup f34 = some ⟨oc34, od34, .func (PySem.W.fnOf "_law_tossed" "_law_tossed" (defArgs s__law_tossed) (defBody s__law_tossed) (defScope s__law_tossed) .none kV34 dc34 pm34 an34 cd34 ct34), sl34⟩)
    (c34 : PySem.W.codeIn K cd34 "_law_tossed" = true)
    (k34 : PySem.W.keepIn K (.ref f34) = true)
    (a35 : PySem.W.nsIn K mainGlobals "_law_one_of" = some (some (.ref f35)))
    (l35 : K.lookup f35 = some ⟨oc35, od35, .func (PySem.W.fnOf "_law_one_of" "_law_one_of" (defArgs s__law_one_of) (defBody s__law_one_of) (defScope s__law_one_of) .none kV35 dc35 pm35 an35 cd35 ct35), sl35⟩)
    (c35 : PySem.W.codeIn K cd35 "_law_one_of" = true)
    (k35 : PySem.W.keepIn K (.ref f35) = true)
    (a36 : PySem.W.nsIn K mainGlobals "_law_lot_drawn" = some (some (.ref f36)))
    (l36 : K.lookup f36 = some ⟨oc36, od36, .func (PySem.W.fnOf "_law_lot_drawn" "_law_lot_drawn" (defArgs s__law_lot_drawn) (defBody s__law_lot_drawn) (defScope s__law_lot_drawn) .none kV36 dc36 pm36 an36 cd36 ct36), sl36⟩)
    (c36 : PySem.W.codeIn K cd36 "_law_lot_drawn" = true)
    (k36 : PySem.W.keepIn K (.ref f36) = true)
    (a37 : PySem.W.nsIn K mainGlobals "_law_rows_drawn" = some (some (.ref f37)))
    (l37 : K.lookup f37 = some ⟨oc37, od37, .func (PySem.W.fnOf "_law_rows_drawn" "_law_rows_drawn" (defArgs s__law_rows_drawn) (defBody s__law_rows_drawn) (defScope s__law_rows_drawn) .none kV37 dc37 pm37 an37 cd37 ct37), sl37⟩)
    (c37 : PySem.W.codeIn K cd37 "_law_rows_drawn" = true)
    (k37 : PySem.W.keepIn K (.ref f37) = true)
    (a38 : PySem.W.nsIn K mainGlobals "_law_part" = some (some (.ref f38)))
    (l38 : K.lookup f38 = some ⟨oc38, od38, .func (PySem.W.fnOf "_law_part" "_law_part" (defArgs s__law_part) (defBody s__law_part) (defScope s__law_part) .none kV38 dc38 pm38 an38 cd38 ct38), sl38⟩)
    (c38 : PySem.W.codeIn K cd38 "_law_part" = true)
    (k38 : PySem.W.keepIn K (.ref f38) = true)
    (a39 : PySem.W.nsIn K mainGlobals "_law_lt_power" = some (some (.ref f39)))
    (l39 : K.lookup f39 = some ⟨oc39, od39, .func (PySem.W.fnOf "_law_lt_power" "_law_lt_power" (defArgs s__law_lt_power) (defBody s__law_lt_power) (defScope s__law_lt_power) .none kV39 dc39 pm39 an39 cd39 ct39), sl39⟩)
    (c39 : PySem.W.codeIn K cd39 "_law_lt_power" = true)
    (k39 : PySem.W.keepIn K (.ref f39) = true)
    (a40 : PySem.W.nsIn K mainGlobals "_law_lt_least" = some (some (.ref f40)))
    (l40 : K.lookup f40 = some ⟨oc40, od40, .func (PySem.W.fnOf "_law_lt_least" "_law_lt_least" (defArgs s__law_lt_least) (defBody s__law_lt_least) (defScope s__law_lt_least) .none kV40 dc40 pm40 an40 cd40 ct40), sl40⟩)
    (c40 : PySem.W.codeIn K cd40 "_law_lt_least" = true)
    (k40 : PySem.W.keepIn K (.ref f40) = true)
    (a41 : PySem.W.nsIn K mainGlobals "_law_is_few" = some (some (.ref f41)))
    (l41 : K.lookup f41 = some ⟨oc41, od41, .func (PySem.W.fnOf "_law_is_few" "_law_is_few" (defArgs s__law_is_few) (defBody s__law_is_few) (defScope s__law_is_few) .none kV41 dc41 pm41 an41 cd41 ct41), sl41⟩)
    (c41 : PySem.W.codeIn K cd41 "_law_is_few" = true)
    (k41 : PySem.W.keepIn K (.ref f41) = true)
    (a42 : PySem.W.nsIn K mainGlobals "_law_are_pieces" = some (some (.ref f42)))
    (l42 : K.lookup f42 = some ⟨oc42, od42, .func (PySem.W.fnOf "_law_are_pieces" "_law_are_pieces" (defArgs s__law_are_pieces) (defBody s__law_are_pieces) (defScope s__law_are_pieces) .none kV42 dc42 pm42 an42 cd42 ct42), sl42⟩)
    (c42 : PySem.W.codeIn K cd42 "_law_are_pieces" = true)
    (k42 : PySem.W.keepIn K (.ref f42) = true)
    (a43 : PySem.W.nsIn K mainGlobals "_law_near" = some (some (.ref f43)))
    (l43 : K.lookup f43 = some ⟨oc43, od43, .func (PySem.W.fnOf "_law_near" "_law_near" (defArgs s__law_near) (defBody s__law_near) (defScope s__law_near) .none kV43 dc43 pm43 an43 cd43 ct43), sl43⟩)
    (c43 : PySem.W.codeIn K cd43 "_law_near" = true)
    (k43 : PySem.W.keepIn K (.ref f43) = true)
    (a44 : PySem.W.nsIn K mainGlobals "_law_right" = some (some (.ref f44)))
    (l44 : K.lookup f44 = some ⟨oc44, od44, .func (PySem.W.fnOf "_law_right" "_law_right" (defArgs s__law_right) (defBody s__law_right) (defScope s__law_right) .none kV44 dc44 pm44 an44 cd44 ct44), sl44⟩)
    (c44 : PySem.W.codeIn K cd44 "_law_right" = true)
    (k44 : PySem.W.keepIn K (.ref f44) = true)
    (a45 : PySem.W.nsIn K mainGlobals "law" = some (some (.ref f45)))
    (l45 : K.lookup f45 = some ⟨oc45, od45, .func (PySem.W.fnOf "law" "law" (defArgs s_law) (defBody s_law) (defScope s_law) .none kV45 dc45 pm45 an45 cd45 ct45), sl45⟩)
    (c45 : PySem.W.codeIn K cd45 "law" = true)
    (k45 : PySem.W.keepIn K (.ref f45) = true)
    (pg : PySem.W.plainGet K C Str.empty = true)
    (ic : PySem.W.isClsIn K C = true)
    (po : PySem.W.plainOver K C = true)
    (sa : PySem.W.findIn K (.ref C) "__setattr__" = some (some (.builtin "object.__setattr__")))
    (wa : PySem.W.findIn K (.ref C) "__class__" = some (some (.builtin "object.__class__")))
    (wn : PySem.W.specialIn K (.builtin "object.__class__") "__get__" = some (some (.builtin "getset_descriptor.__get__")))
    (wt : PySem.W.takesIn K (.builtin "object.__class__") = some true)
    (wm : PySem.W.mroIn K C (.type "object") = some true)
    (o1 : PySem.W.kitOne K (.ref C) (.ref C) = some true)
    (o2 : PySem.W.kitOne K (.type "tuple") (.ref C) = some false)
    (o3 : PySem.W.kitOne K (.ref C) (.type "tuple") = some false)
    (nf : PySem.W.notFirst K C (.ref C) = true)
    (mk : PySem.W.makesIn K C = true)
    (kc : PySem.W.keepIn K (.ref C) = true)
    (sA0 : PySem.W.findIn K (.ref C) "own_lot" = some (some (.ref q0)))
    (sB0 : PySem.W.specialIn K (.ref q0) "__get__" = some (some (.builtin "member_descriptor.__get__")))
    (sC0 : PySem.W.takesIn K (.ref q0) = some true)
    (sD0 : PySem.W.typeIn K (.ref q0) = some (.type "member_descriptor"))
    (sE0 : PySem.W.slotIn K q0 C = some 0)
    (sA1 : PySem.W.findIn K (.ref C) "own_rows" = some (some (.ref q1)))
    (sB1 : PySem.W.specialIn K (.ref q1) "__get__" = some (some (.builtin "member_descriptor.__get__")))
    (sC1 : PySem.W.takesIn K (.ref q1) = some true)
    (sD1 : PySem.W.typeIn K (.ref q1) = some (.type "member_descriptor"))
    (sE1 : PySem.W.slotIn K q1 C = some 1)
    (sA2 : PySem.W.findIn K (.ref C) "own_there" = some (some (.ref q2)))
    (sB2 : PySem.W.specialIn K (.ref q2) "__get__" = some (some (.builtin "member_descriptor.__get__")))
    (sC2 : PySem.W.takesIn K (.ref q2) = some true)
    (sD2 : PySem.W.typeIn K (.ref q2) = some (.type "member_descriptor"))
    (sE2 : PySem.W.slotIn K q2 C = some 2)
    (sA3 : PySem.W.findIn K (.ref C) "own_told" = some (some (.ref q3)))
    (sB3 : PySem.W.specialIn K (.ref q3) "__get__" = some (some (.builtin "member_descriptor.__get__")))
    (sC3 : PySem.W.takesIn K (.ref q3) = some true)
    (sD3 : PySem.W.typeIn K (.ref q3) = some (.type "member_descriptor"))
    (sE3 : PySem.W.slotIn K q3 C = some 3)
    (nLETTERS : PySem.W.nsIn K mainGlobals "LETTERS" = some (some (.int 6 tLETTERS)))
    (nMOST_ROWS : PySem.W.nsIn K mainGlobals "MOST_ROWS" = some (some (.int 1000 tMOST_ROWS)))
    (nBOUND : PySem.W.nsIn K mainGlobals "BOUND" = some (some (.int 1000000000 tBOUND)))
    (nMOST_POWER : PySem.W.nsIn K mainGlobals "MOST_POWER" = some (some (.int 20 tMOST_POWER)))
    (nMOST_PIECES : PySem.W.nsIn K mainGlobals "MOST_PIECES" = some (some (.int 50 tMOST_PIECES)))
    (nPAIR : PySem.W.nsIn K mainGlobals "PAIR" = some (some (.int 2 tPAIR)))
    (z_len : PySem.W.nsIn K mainGlobals "len" = some none)
    (z_isinstance : PySem.W.nsIn K mainGlobals "isinstance" = some none)
    (z_all : PySem.W.nsIn K mainGlobals "all" = some none)
    (z_zip : PySem.W.nsIn K mainGlobals "zip" = some none)
    (z_range : PySem.W.nsIn K mainGlobals "range" = some none)
    (z_sorted : PySem.W.nsIn K mainGlobals "sorted" = some none)
    (z_max : PySem.W.nsIn K mainGlobals "max" = some none)
    (z_min : PySem.W.nsIn K mainGlobals "min" = some none)
    (z_abs : PySem.W.nsIn K mainGlobals "abs" = some none)
    (z_tuple : PySem.W.nsIn K mainGlobals "tuple" = some none)
    (z_list : PySem.W.nsIn K mainGlobals "list" = some none)
    (z_int : PySem.W.nsIn K mainGlobals "int" = some none)
    (z_bool : PySem.W.nsIn K mainGlobals "bool" = some none)
    (z_set : PySem.W.nsIn K mainGlobals "set" = some none)
    (z_str : PySem.W.nsIn K mainGlobals "str" = some none) :
    ∃ fd : FuncData, (∀ (s : Shared) (v : Value), BindsTo s fd ⟨[v], []⟩ [("_law_script", v)]) ∧ ∀ base : Heap, K.In base → base.Ns mainGlobals mg → FnOk P w K mg base CX0 11 fa fd ["_law_script"] (sp1 (R_law K)) := by
  have e := hfa.symm.trans (PySem.W.mg_of X G a45)
  cases e
  have T : Tx K mg C := {
    is := ⟨⟨pg, ic, po, sa⟩, ⟨wa, wn, wt, wm⟩, o1, o2, o3⟩
    mC := PySem.W.mg_of X G aC
    sl0 := ⟨q0, sA0, sB0, sC0, sD0, sE0, by decide⟩
    sl1 := ⟨q1, sA1, sB1, sC1, sD1, sE1, by decide⟩
    sl2 := ⟨q2, sA2, sB2, sC2, sD2, sE2, by decide⟩
    sl3 := ⟨q3, sA3, sB3, sC3, sD3, sE3, by decide⟩
    nf := nf
    LETTERS := ⟨_, PySem.W.mg_of X G nLETTERS⟩
    MOST_ROWS := ⟨_, PySem.W.mg_of X G nMOST_ROWS⟩
    BOUND := ⟨_, PySem.W.mg_of X G nBOUND⟩
    MOST_POWER := ⟨_, PySem.W.mg_of X G nMOST_POWER⟩
    MOST_PIECES := ⟨_, PySem.W.mg_of X G nMOST_PIECES⟩
    PAIR := ⟨_, PySem.W.mg_of X G nPAIR⟩
    len := PySem.W.mg_none_of X G z_len
    isinstance := PySem.W.mg_none_of X G z_isinstance
    all := PySem.W.mg_none_of X G z_all
    zip := PySem.W.mg_none_of X G z_zip
    range := PySem.W.mg_none_of X G z_range
    sorted := PySem.W.mg_none_of X G z_sorted
    max := PySem.W.mg_none_of X G z_max
    min := PySem.W.mg_none_of X G z_min
    abs := PySem.W.mg_none_of X G z_abs
    m_tuple := PySem.W.mg_none_of X G z_tuple
    m_list := PySem.W.mg_none_of X G z_list
    m_int := PySem.W.mg_none_of X G z_int
    m_bool := PySem.W.mg_none_of X G z_bool
    m_set := PySem.W.mg_none_of X G z_set
    m_str := PySem.W.mg_none_of X G z_str
    list := PySem.W.mg_none_of X G z_list }
  have F1 := fun_mk (st := s_is_letter) l1 c1 k1
  have F2 := fun_mk (st := s_is_lot) l2 c2 k2
  have F3 := fun_mk (st := s_within_in) l3 c3 k3
  have F4 := fun_mk (st := s_require_lot) l4 c4 k4
  have F5 := fun_mk (st := s_is_whole) l5 c5 k5
  have F6 := fun_mk (st := s_is_within) l6 c6 k6
  have F7 := fun_mk (st := s_power_in) l7 c7 k7
  have F8 := fun_mk (st := s_require_within) l8 c8 k8
  have F9 := fun_mk (st := s_is_small) l9 c9 k9
  have F10 := fun_mk (st := s_is_row_in) l10 c10 k10
  have F11 := fun_mk (st := s_are_rows) l11 c11 k11
  have F12 := fun_mk (st := s_lot_told) l12 c12 k12
  have F13 := fun_mk (st := s_T_keep) l13 c13 k13
  have F14 := fun_mk (st := s_T_init) l14 c14 k14
  have F15 := fun_mk (st := s_T_lot) l15 c15 k15
  have F16 := fun_mk (st := s_T_rows) l16 c16 k16
  have F17 := fun_mk (st := s_T_len) l17 c17 k17
  have F18 := fun_mk (st := s_T_eq) l18 c18 k18
  have F19 := fun_mk (st := s_made_table) l19 c19 k19
  have F20 := fun_mk (st := s_is_table) l20 c20 k20
  have F21 := fun_mk (st := s_require_table) l21 c21 k21
  have F22 := fun_mk (st := s_groups_in) l22 c22 k22
  have F23 := fun_mk (st := s_parted_in) l23 c23 k23
  have F24 := fun_mk (st := s_does_fit) l24 c24 k24
  have F25 := fun_mk (st := s_is_piece) l25 c25 k25
  have F26 := fun_mk (st := s_require_cut) l26 c26 k26
  have F27 := fun_mk (st := s_need_within) l27 c27 k27
  have F28 := fun_mk (st := s_require_cut_and_power) l28 c28 k28
  have F29 := fun_mk (st := s_require_pieces) l29 c29 k29
  have F30 := fun_mk (st := s_parted) l30 c30 k30
  have F31 := fun_mk (st := s_is_parted) l31 c31 k31
  have F32 := fun_mk (st := s_put_together) l32 c32 k32
  have F33 := fun_mk (st := s__law_cup) l33 c33 k33
  have F34 := fun_mk (st := s__law_tossed) l34 c34 k34
  have F35 := fun_mk (st := s__law_one_of) l35 c35 k35
  have F36 := fun_mk (st := s__law_lot_drawn) l36 c36 k36
  have F37 := fun_mk (st := s__law_rows_drawn) l37 c37 k37
  have F38 := fun_mk (st := s__law_part) l38 c38 k38
  have F39 := fun_mk (st := s__law_lt_power) l39 c39 k39
  have F40 := fun_mk (st := s__law_lt_least) l40 c40 k40
  have F41 := fun_mk (st := s__law_is_few) l41 c41 k41
  have F42 := fun_mk (st := s__law_are_pieces) l42 c42 k42
  have F43 := fun_mk (st := s__law_near) l43 c43 k43
  have F44 := fun_mk (st := s__law_right) l44 c44 k44
  have F45 := fun_mk (st := s_law) l45 c45 k45
  have b1 := F1.binds (ps := ["value"]) fun _ _ _ _ _ _ us hl => match us, hl with | [_], _ => rfl
  have b2 := F2.binds (ps := ["value"]) fun _ _ _ _ _ _ us hl => match us, hl with | [_], _ => rfl
  have b3 := F3.binds (ps := ["one", "other"]) fun _ _ _ _ _ _ us hl => match us, hl with | [_, _], _ => rfl
  have b4 := F4.binds (ps := ["value"]) fun _ _ _ _ _ _ us hl => match us, hl with | [_], _ => rfl
  have b5 := F5.binds (ps := ["value"]) fun _ _ _ _ _ _ us hl => match us, hl with | [_], _ => rfl
  have b6 := F6.binds (ps := ["value", "least", "most"]) fun _ _ _ _ _ _ us hl => match us, hl with | [_, _, _], _ => rfl
  have b7 := F7.binds (ps := ["number"]) fun _ _ _ _ _ _ us hl => match us, hl with | [_], _ => rfl
  have b8 := F8.binds (ps := ["value", "least", "most"]) fun _ _ _ _ _ _ us hl => match us, hl with | [_, _, _], _ => rfl
  have b9 := F9.binds (ps := ["value"]) fun _ _ _ _ _ _ us hl => match us, hl with | [_], _ => rfl
  have b10 := F10.binds (ps := ["lot", "value"]) fun _ _ _ _ _ _ us hl => match us, hl with | [_, _], _ => rfl
  have b11 := F11.binds (ps := ["lot", "value"]) fun _ _ _ _ _ _ us hl => match us, hl with | [_, _], _ => rfl
  have b12 := F12.binds (ps := ["lot"]) fun _ _ _ _ _ _ us hl => match us, hl with | [_], _ => rfl
  have b13 := F13.binds (ps := ["self", "lot", "rows"]) fun _ _ _ _ _ _ us hl => match us, hl with | [_, _, _], _ => rfl
  have b14 := F14.binds (ps := ["self", "lot", "rows"]) fun _ _ _ _ _ _ us hl => match us, hl with | [_, _, _], _ => rfl
  have b15 := F15.binds (ps := ["self"]) fun _ _ _ _ _ _ us hl => match us, hl with | [_], _ => rfl
  have b16 := F16.binds (ps := ["self"]) fun _ _ _ _ _ _ us hl => match us, hl with | [_], _ => rfl
  have b17 := F17.binds (ps := ["self"]) fun _ _ _ _ _ _ us hl => match us, hl with | [_], _ => rfl
  have b18 := F18.binds (ps := ["self", "value"]) fun _ _ _ _ _ _ us hl => match us, hl with | [_, _], _ => rfl
  have b19 := F19.binds (ps := ["lot", "rows"]) fun _ _ _ _ _ _ us hl => match us, hl with | [_, _], _ => rfl
  have b20 := F20.binds (ps := ["value"]) fun _ _ _ _ _ _ us hl => match us, hl with | [_], _ => rfl
  have b21 := F21.binds (ps := ["value"]) fun _ _ _ _ _ _ us hl => match us, hl with | [_], _ => rfl
  have b22 := F22.binds (ps := ["table", "low"]) fun _ _ _ _ _ _ us hl => match us, hl with | [_, _], _ => rfl
  have b23 := F23.binds (ps := ["table", "low", "k"]) fun _ _ _ _ _ _ us hl => match us, hl with | [_, _, _], _ => rfl
  have b24 := F24.binds (ps := ["piece", "low", "k", "j"]) fun _ _ _ _ _ _ us hl => match us, hl with | [_, _, _, _], _ => rfl
  have b25 := F25.binds (ps := ["table", "low", "k", "value"]) fun _ _ _ _ _ _ us hl => match us, hl with | [_, _, _, _], _ => rfl
  have b26 := F26.binds (ps := ["table", "low"]) fun _ _ _ _ _ _ us hl => match us, hl with | [_, _], _ => rfl
  have b27 := F27.binds (ps := ["table", "low"]) fun _ _ _ _ _ _ us hl => match us, hl with | [_, _], _ => rfl
  have b28 := F28.binds (ps := ["table", "low", "k"]) fun _ _ _ _ _ _ us hl => match us, hl with | [_, _, _], _ => rfl
  have b29 := F29.binds (ps := ["value"]) fun _ _ _ _ _ _ us hl => match us, hl with | [_], _ => rfl
  have b30 := F30.binds (ps := ["table", "low", "k"]) fun _ _ _ _ _ _ us hl => match us, hl with | [_, _, _], _ => rfl
  have b31 := F31.binds (ps := ["table", "low", "k", "value"]) fun _ _ _ _ _ _ us hl => match us, hl with | [_, _, _, _], _ => rfl
  have b32 := F32.binds (ps := ["pieces"]) fun _ _ _ _ _ _ us hl => match us, hl with | [_], _ => rfl
  have b33 := F33.binds (ps := ["_law_script", "_law_spot"]) fun _ _ _ _ _ _ us hl => match us, hl with | [_, _], _ => rfl
  have b34 := F34.binds (ps := ["_law_cup_here", "_law_total"]) fun _ _ _ _ _ _ us hl => match us, hl with | [_, _], _ => rfl
  have b35 := F35.binds (ps := ["_law_cup_here", "_law_items"]) fun _ _ _ _ _ _ us hl => match us, hl with | [_, _], _ => rfl
  have b36 := F36.binds (ps := ["_law_cup_here", "_law_lot", "_law_least"]) fun _ _ _ _ _ _ us hl => match us, hl with | [_, _, _], _ => rfl
  have b37 := F37.binds (ps := ["_law_cup_here", "_law_lot", "_law_most", "_law_wide"]) fun _ _ _ _ _ _ us hl => match us, hl with | [_, _, _, _], _ => rfl
  have b38 := F38.binds (ps := ["_law_row", "_law_lot", "_law_some"]) fun _ _ _ _ _ _ us hl => match us, hl with | [_, _, _], _ => rfl
  have b39 := F39.binds (ps := ["_law_number", "_law_many"]) fun _ _ _ _ _ _ us hl => match us, hl with | [_, _], _ => rfl
  have b40 := F40.binds (ps := ["_law_number"]) fun _ _ _ _ _ _ us hl => match us, hl with | [_], _ => rfl
  have b41 := F41.binds (ps := ["_law_rows", "_law_lot", "_law_low", "_law_k", "_law_j"]) fun _ _ _ _ _ _ us hl => match us, hl with | [_, _, _, _, _], _ => rfl
  have b42 := F42.binds (ps := ["_law_rows", "_law_lot", "_law_low", "_law_k", "_law_value"]) fun _ _ _ _ _ _ us hl => match us, hl with | [_, _, _, _, _], _ => rfl
  have b43 := F43.binds (ps := ["_law_cup_here", "_law_table", "_law_told"]) fun _ _ _ _ _ _ us hl => match us, hl with | [_, _, _], _ => rfl
  have b44 := F44.binds (ps := ["_law_cup_here"]) fun _ _ _ _ _ _ us hl => match us, hl with | [_], _ => rfl
  refine ⟨PySem.W.fnOf "law" "law" (defArgs s_law) (defBody s_law) (defScope s_law) .none kV45 dc45 pm45 an45 cd45 ct45, fun s v => .of_eq rfl, fun base _ _ => ?_⟩
  have D1 : Df P w K mg base "is_letter" f1 1 (sp_is_letter K C) := ⟨raw0 (ok_is_letter (P := P) (w := w) (base := base) F1 T) b1, PySem.W.mg_of X G a1, k1⟩
  have D2 : Df P w K mg base "is_lot" f2 2 (sp_is_lot K C) := ⟨raw0 (ok_is_lot (P := P) (w := w) (base := base) F2 T D1) b2, PySem.W.mg_of X G a2, k2⟩
  have D3 : Df P w K mg base "within_in" f3 1 (sp_within_in K C) := ⟨raw0 (ok_within_in (P := P) (w := w) (base := base) F3 T) b3, PySem.W.mg_of X G a3, k3⟩
  have D4 : Df P w K mg base "require_lot" f4 3 (sp_require_lot K C) := ⟨raw0 (ok_require_lot (P := P) (w := w) (base := base) F4 T D2) b4, PySem.W.mg_of X G a4, k4⟩
  have D5 : Df P w K mg base "is_whole" f5 1 (sp_is_whole K C) := ⟨raw0 (ok_is_whole (P := P) (w := w) (base := base) F5 T) b5, PySem.W.mg_of X G a5, k5⟩
  have D6 : Df P w K mg base "is_within" f6 2 (sp_is_within K C) := ⟨raw0 (ok_is_within (P := P) (w := w) (base := base) F6 T D5) b6, PySem.W.mg_of X G a6, k6⟩
  have D7 : Df P w K mg base "power_in" f7 1 (sp_power_in K C) := ⟨raw0 (ok_power_in (P := P) (w := w) (base := base) F7 T) b7, PySem.W.mg_of X G a7, k7⟩
  have D8 : Df P w K mg base "require_within" f8 3 (sp_require_within K C) := ⟨raw0 (ok_require_within (P := P) (w := w) (base := base) F8 T D6) b8, PySem.W.mg_of X G a8, k8⟩
  have D9 : Df P w K mg base "is_small" f9 2 (sp_is_small K C) := ⟨raw0 (ok_is_small (P := P) (w := w) (base := base) F9 T D5) b9, PySem.W.mg_of X G a9, k9⟩
  have D10 : Df P w K mg base "is_row_in" f10 3 (sp_is_row_in K C) := ⟨raw0 (ok_is_row_in (P := P) (w := w) (base := base) F10 T D9) b10, PySem.W.mg_of X G a10, k10⟩
  have D11 : Df P w K mg base "are_rows" f11 4 (sp_are_rows K C) := ⟨raw0 (ok_are_rows (P := P) (w := w) (base := base) F11 T D10) b11, PySem.W.mg_of X G a11, k11⟩
  have D12 : Df P w K mg base "lot_told" f12 1 (sp_lot_told K C) := ⟨raw0 (ok_lot_told (P := P) (w := w) (base := base) F12 T) b12, PySem.W.mg_of X G a12, k12⟩
  have D13 : MeD P w K mg base C "keep" f13 2 (sp_T_keep K C) := ⟨⟨a13, i13, k13⟩, raw0 (ok_T_keep (P := P) (w := w) (base := base) F13 T D12) b13⟩
  have D14 : MkD P w K mg base C f14 5 (sp_T_init K C) := ⟨⟨mk, a14, i14, kc⟩, raw0 (ok_T_init (P := P) (w := w) (base := base) F14 T D4 D11 D13) b14⟩
  have D15 : PrD P w K mg base C "lot" p15 f15 1 (sp_T_lot K C) := ⟨a15, g15, t15, ⟨_, r15⟩, raw0 (ok_T_lot (P := P) (w := w) (base := base) F15 T) b15⟩
  have D16 : PrD P w K mg base C "rows" p16 f16 1 (sp_T_rows K C) := ⟨a16, g16, t16, ⟨_, r16⟩, raw0 (ok_T_rows (P := P) (w := w) (base := base) F16 T) b16⟩
  have D17 : OwD P w K mg base C "__len__" f17 1 (sp_T_len K C) := ⟨a17, i17, raw0 (ok_T_len (P := P) (w := w) (base := base) F17 T) b17⟩
  have D18 : OwD P w K mg base C "__eq__" f18 1 (sp_T_eq K C) := ⟨a18, i18, raw0 (ok_T_eq (P := P) (w := w) (base := base) F18 T) b18⟩
  have D19 : Df P w K mg base "made_table" f19 7 (sp_made_table K C) := ⟨raw0 (ok_made_table (P := P) (w := w) (base := base) F19 T D14 D13) b19, PySem.W.mg_of X G a19, k19⟩
  have D20 : Df P w K mg base "is_table" f20 1 (sp_is_table K C) := ⟨raw0 (ok_is_table (P := P) (w := w) (base := base) F20 T) b20, PySem.W.mg_of X G a20, k20⟩
  have D21 : Df P w K mg base "require_table" f21 2 (sp_require_table K C) := ⟨raw0 (ok_require_table (P := P) (w := w) (base := base) F21 T D20) b21, PySem.W.mg_of X G a21, k21⟩
  have D22 : Df P w K mg base "groups_in" f22 1 (sp_groups_in K C) := ⟨raw0 (ok_groups_in (P := P) (w := w) (base := base) F22 T) b22, PySem.W.mg_of X G a22, k22⟩
  have D23 : Df P w K mg base "parted_in" f23 8 (sp_parted_in K C) := ⟨raw0 (ok_parted_in (P := P) (w := w) (base := base) F23 T D22 D7 D19) b23, PySem.W.mg_of X G a23, k23⟩
  have D24 : Df P w K mg base "does_fit" f24 2 (sp_does_fit K C) := ⟨raw0 (ok_does_fit (P := P) (w := w) (base := base) F24 T D22) b24, PySem.W.mg_of X G a24, k24⟩
  have D25 : Df P w K mg base "is_piece" f25 3 (sp_is_piece K C) := ⟨raw0 (ok_is_piece (P := P) (w := w) (base := base) F25 T D20 D6 D24) b25, PySem.W.mg_of X G a25, k25⟩
  have D26 : Df P w K mg base "require_cut" f26 4 (sp_require_cut K C) := ⟨raw0 (ok_require_cut (P := P) (w := w) (base := base) F26 T D21 D4) b26, PySem.W.mg_of X G a26, k26⟩
  have D27 : Df P w K mg base "need_within" f27 2 (sp_need_within K C) := ⟨raw0 (ok_need_within (P := P) (w := w) (base := base) F27 T D3) b27, PySem.W.mg_of X G a27, k27⟩
  have D28 : Df P w K mg base "require_cut_and_power" f28 5 (sp_require_cut_and_power K C) := ⟨raw0 (ok_require_cut_and_power (P := P) (w := w) (base := base) F28 T D26 D8 D27) b28, PySem.W.mg_of X G a28, k28⟩
  have D29 : Df P w K mg base "require_pieces" f29 3 (sp_require_pieces K C) := ⟨raw0 (ok_require_pieces (P := P) (w := w) (base := base) F29 T D6 D20) b29, PySem.W.mg_of X G a29, k29⟩
  have D30 : Df P w K mg base "parted" f30 9 (sp_parted K C) := ⟨raw0 (ok_parted (P := P) (w := w) (base := base) F30 T D28 D23) b30, PySem.W.mg_of X G a30, k30⟩
  have D31 : Df P w K mg base "is_parted" f31 6 (sp_is_parted K C) := ⟨raw0 (ok_is_parted (P := P) (w := w) (base := base) F31 T D28 D25) b31, PySem.W.mg_of X G a31, k31⟩
  have D32 : Df P w K mg base "put_together" f32 8 (sp_put_together K C) := ⟨raw0 (ok_put_together (P := P) (w := w) (base := base) F32 T D29 D19) b32, PySem.W.mg_of X G a32, k32⟩
  have D33 : Df P w K mg base "_law_cup" f33 1 (sp__law_cup K C) := ⟨raw0 (ok__law_cup (P := P) (w := w) (base := base) F33 T) b33, PySem.W.mg_of X G a33, k33⟩
  have D34 : Df P w K mg base "_law_tossed" f34 1 (sp__law_tossed K C) := ⟨raw0 (ok__law_tossed (P := P) (w := w) (base := base) F34 T) b34, PySem.W.mg_of X G a34, k34⟩
  have D35 : Df P w K mg base "_law_one_of" f35 2 (sp__law_one_of K C) := ⟨raw0 (ok__law_one_of (P := P) (w := w) (base := base) F35 T D34) b35, PySem.W.mg_of X G a35, k35⟩
  have D36 : Df P w K mg base "_law_lot_drawn" f36 2 (sp__law_lot_drawn K C) := ⟨raw0 (ok__law_lot_drawn (P := P) (w := w) (base := base) F36 T D34) b36, PySem.W.mg_of X G a36, k36⟩
  have D37 : Df P w K mg base "_law_rows_drawn" f37 2 (sp__law_rows_drawn K C) := ⟨raw0 (ok__law_rows_drawn (P := P) (w := w) (base := base) F37 T D34) b37, PySem.W.mg_of X G a37, k37⟩
  have D38 : Df P w K mg base "_law_part" f38 1 (sp__law_part K C) := ⟨raw0 (ok__law_part (P := P) (w := w) (base := base) F38 T) b38, PySem.W.mg_of X G a38, k38⟩
  have D39 : Df P w K mg base "_law_lt_power" f39 1 (sp__law_lt_power K C) := ⟨raw0 (ok__law_lt_power (P := P) (w := w) (base := base) F39 T) b39, PySem.W.mg_of X G a39, k39⟩
  have D40 : Df P w K mg base "_law_lt_least" f40 1 (sp__law_lt_least K C) := ⟨raw0 (ok__law_lt_least (P := P) (w := w) (base := base) F40 T) b40, PySem.W.mg_of X G a40, k40⟩
  have D41 : Df P w K mg base "_law_is_few" f41 2 (sp__law_is_few K C) := ⟨raw0 (ok__law_is_few (P := P) (w := w) (base := base) F41 T D38 D39) b41, PySem.W.mg_of X G a41, k41⟩
  have D42 : Df P w K mg base "_law_are_pieces" f42 3 (sp__law_are_pieces K C) := ⟨raw0 (ok__law_are_pieces (P := P) (w := w) (base := base) F42 T D17 D15 D41 D16) b42, PySem.W.mg_of X G a42, k42⟩
  have D43 : Df P w K mg base "_law_near" f43 7 (sp__law_near K C) := ⟨raw0 (ok__law_near (P := P) (w := w) (base := base) F43 T D15 D14 D16 D17 D34 D35) b43, PySem.W.mg_of X G a43, k43⟩
  have D44 : Df P w K mg base "_law_right" f44 10 (sp__law_right K C) := ⟨raw0 (ok__law_right (P := P) (w := w) (base := base) F44 T D36 D37 D14 D40 D35 D30 D43 D31 D42 D16) b44, PySem.W.mg_of X G a44, k44⟩
  exact (ok_law (P := P) (w := w) (base := base) F45 T D33 D44 D14 D31 D18 D32)
theorem walk {l : PySem.W.OpenLaw} {q : Program} {loose : List Str} {XP : (Str → Option Value) → Heap → Prop} {YP : World → Heap → Prop} {d : DefRec} {K : Params → PySem.W.Frag} (hn : l.most = some 63) (hdf : d.params.defaults = [])
    (hY : ∀ (w : World) (h : Heap), YP w h → (K w.params).In h)
    (F : ∀ (w : World) (mg : Str → Option Value) (fa : Addr) (h : Heap), (K w.params).In h → h.Ns mainGlobals mg → mg d.name = some (.ref fa) →
      ∃ fd : FuncData, (∀ (s : Shared) (u : Value), BindsTo s fd ⟨[u], []⟩ [("_law_script", u)]) ∧ ∀ base : Heap, (K w.params).In base → base.Ns mainGlobals mg → FnOk l.prog w (K w.params) mg base CX0 11 fa fd ["_law_script"] (sp1 (R_law (K w.params)))) :
    PySem.W.WalkO q loose XP YP l.row.toRowW d [] (fun f vs => PySem.call f vs) :=
  L2.walk_of (n := 63) (k := 11) (x := "_law_script") (CX := fun _ => CX0) (sp := fun w => sp1 (R_law (K w.params))) hn (by decide) hdf ⟨rfl, by decide, by decide⟩ hY F (fun _ _ a ns hl _ hS => ⟨.ref a, rfl, a, ns, rfl, hS, hl, fun _ => rfl⟩) fun _ _ _ _ _ z => z
end Q44
open PySem PySem.W PyProof.Rows
set_option maxHeartbeats 0 in
open_top hd44 for PySem.Challenge.rw_crestjoin_k44_whole_pieces_judged
open PySem PySem.W PyProof.Rows
set_option maxHeartbeats 0 in
theorem PySem.Challenge.cw_crestjoin_k44_whole_pieces_judged_holds : PySem.Challenge.rw_crestjoin_k44_whole_pieces_judged.Holds := by
  refine hd44 ?_
  k_fill
  refine Q44.walk (l := PySem.Challenge.rw_crestjoin_k44_whole_pieces_judged) rfl rfl (fun w h Y => PySem.W.kIn_of Y) ?F
  case F =>
    intro w mg fa h KX G hmg
    refine' Q44.all_mk KX G hmg ?aC ?a1 ?l1 ?c1 ?k1 ?a2 ?l2 ?c2 ?k2 ?a3 ?l3 ?c3 ?k3 ?a4 ?l4 ?c4 ?k4 ?a5 ?l5 ?c5 ?k5 ?a6 ?l6 ?c6 ?k6 ?a7 ?l7 ?c7 ?k7 ?a8 ?l8 ?c8 ?k8 ?a9 ?l9 ?c9 ?k9 ?a10 ?l10 ?c10 ?k10 ?a11 ?l11 ?c11 ?k11 ?a12 ?l12 ?c12 ?k12 ?a13 ?i13 ?l13 ?c13 ?k13 ?a14 ?i14 ?l14 ?c14 ?k14 ?a15 ?g15 ?t15 ?r15 ?l15 ?c15 ?k15 ?a16 ?g16 ?t16 ?r16 ?l16 ?c16 ?k16 ?a17 ?i17 ?l17 ?c17 ?k17 ?a18 ?i18 ?l18 ?c18 ?k18 ?a19 ?l19 ?c19 ?k19 ?a20 ?l20 ?c20 ?k20 ?a21 ?l21 ?c21 ?k21 ?a22 ?l22 ?c22 ?k22 ?a23 ?l23 ?c23 ?k23 ?a24 ?l24 ?c24 ?k24 ?a25 ?l25 ?c25 ?k25 ?a26 ?l26 ?c26 ?k26 ?a27 ?l27 ?c27 ?k27 ?a28 ?l28 ?c28 ?k28 ?a29 ?l29 ?c29 ?k29 ?a30 ?l30 ?c30 ?k30 ?a31 ?l31 ?c31 ?k31 ?a32 ?l32 ?c32 ?k32 ?a33 ?l33 ?c33 ?k33 ?a34 ?l34 ?c34 ?k34 ?a35 ?l35 ?c35 ?k35 ?a36 ?l36 ?c36 ?k36 ?a37 ?l37 ?c37 ?k37 ?a38 ?l38 ?c38 ?k38 ?a39 ?l39 ?c39 ?k39 ?a40 ?l40 ?c40 ?k40 ?a41 ?l41 ?c41 ?k41 ?a42 ?l42 ?c42 ?k42 ?a43 ?l43 ?c43 ?k43 ?a44 ?l44 ?c44 ?k44 ?a45 ?l45 ?c45 ?k45 ?pg ?ic ?po ?sa ?wa ?wn ?wt ?wm ?o1 ?o2 ?o3 ?nf ?mk ?kc ?sA0 ?sB0 ?sC0 ?sD0 ?sE0 ?sA1 ?sB1 ?sC1 ?sD1 ?sE1 ?sA2 ?sB2 ?sC2 ?sD2 ?sE2 ?sA3 ?sB3 ?sC3 ?sD3 ?sE3 ?nLETTERS ?nMOST_ROWS ?nBOUND ?nMOST_POWER ?nMOST_PIECES ?nPAIR ?z_len ?z_isinstance ?z_all ?z_zip ?z_range ?z_sorted ?z_max ?z_min ?z_abs ?z_tuple ?z_list ?z_int ?z_bool ?z_set ?z_str
    (case aC => k_is)
    (case a1 => k_is)
    (case l1 => k_is)
    (case c1 => k_is)
    (case k1 => k_is)
    (case a2 => k_is)
    (case l2 => k_is)
    (case c2 => k_is)
    (case k2 => k_is)
    (case a3 => k_is)
    (case l3 => k_is)
    (case c3 => k_is)
    (case k3 => k_is)
    (case a4 => k_is)
    (case l4 => k_is)
    (case c4 => k_is)
    (case k4 => k_is)
    (case a5 => k_is)
    (case l5 => k_is)
    (case c5 => k_is)
    (case k5 => k_is)
    (case a6 => k_is)
    (case l6 => k_is)
    (case c6 => k_is)
    (case k6 => k_is)
    (case a7 => k_is)
    (case l7 => k_is)
    (case c7 => k_is)
    (case k7 => k_is)
    (case a8 => k_is)
    (case l8 => k_is)
    (case c8 => k_is)
    (case k8 => k_is)
    (case a9 => k_is)
    (case l9 => k_is)
    (case c9 => k_is)
    (case k9 => k_is)
    (case a10 => k_is)
    (case l10 => k_is)
    (case c10 => k_is)
    (case k10 => k_is)
    (case a11 => k_is)
    (case l11 => k_is)
    (case c11 => k_is)
    (case k11 => k_is)
    (case a12 => k_is)
    (case l12 => k_is)
    (case c12 => k_is)
    (case k12 => k_is)
    (case a13 => k_is)
    (case i13 => k_is)
    (case l13 => k_is)
    (case c13 => k_is)
    (case k13 => k_is)
    (case a14 => k_is)
    (case i14 => k_is)
    (case l14 => k_is)
    (case c14 => k_is)
    (case k14 => k_is)
    (case a15 => k_is)
    (case g15 => k_is)
    (case t15 => k_is)
    (case r15 => k_is)
    (case l15 => k_is)
    (case c15 => k_is)
    (case k15 => k_is)
    (case a16 => k_is)
    (case g16 => k_is)
    (case t16 => k_is)
    (case r16 => k_is)
    (case l16 => k_is)
    (case c16 => k_is)
    (case k16 => k_is)
    (case a17 => k_is)
    (case i17 => k_is)
    (case l17 => k_is)
    (case c17 => k_is)
    (case k17 => k_is)
    (case a18 => k_is)
    (case i18 => k_is)
    (case l18 => k_is)
    (case c18 => k_is)
    (case k18 => k_is)
    (case a19 => k_is)
    (case l19 => k_is)
    (case c19 => k_is)
    (case k19 => k_is)
    (case a20 => k_is)
    (case l20 => k_is)
    (case c20 => k_is)
    (case k20 => k_is)
    (case a21 => k_is)
    (case l21 => k_is)
    (case c21 => k_is)
    (case k21 => k_is)
    (case a22 => k_is)
    (case l22 => k_is)
    (case c22 => k_is)
    (case k22 => k_is)
    (case a23 => k_is)
    (case l23 => k_is)
    (case c23 => k_is)
    (case k23 => k_is)
    (case a24 => k_is)
    (case l24 => k_is)
    (case c24 => k_is)
    (case k24 => k_is)
    (case a25 => k_is)
    (case l25 => k_is)
    (case c25 => k_is)
    (case k25 => k_is)
    (case a26 => k_is)
    (case l26 => k_is)
    (case c26 => k_is)
    (case k26 => k_is)
    (case a27 => k_is)
    (case l27 => k_is)
    (case c27 => k_is)
    (case k27 => k_is)
    (case a28 => k_is)
    (case l28 => k_is)
    (case c28 => k_is)
    (case k28 => k_is)
    (case a29 => k_is)
    (case l29 => k_is)
    (case c29 => k_is)
    (case k29 => k_is)
    (case a30 => k_is)
    (case l30 => k_is)
    (case c30 => k_is)
    (case k30 => k_is)
    (case a31 => k_is)
    (case l31 => k_is)
    (case c31 => k_is)
    (case k31 => k_is)
    (case a32 => k_is)
    (case l32 => k_is)
    (case c32 => k_is)
    (case k32 => k_is)
    (case a33 => k_is)
    (case l33 => k_is)
    (case c33 => k_is)
    (case k33 => k_is)
    (case a34 => k_is)
    (case l34 => k_is)
    (case c34 => k_is)
    (case k34 => k_is)
    (case a35 => k_is)
    (case l35 => k_is)
    (case c35 => k_is)
    (case k35 => k_is)
    (case a36 => k_is)
    (case l36 => k_is)
    (case c36 => k_is)
    (case k36 => k_is)
    (case a37 => k_is)
    (case l37 => k_is)
    (case c37 => k_is)
    (case k37 => k_is)
    (case a38 => k_is)
    (case l38 => k_is)
    (case c38 => k_is)
    (case k38 => k_is)
    (case a39 => k_is)
    (case l39 => k_is)
    (case c39 => k_is)
    (case k39 => k_is)
    (case a40 => k_is)
    (case l40 => k_is)
    (case c40 => k_is)
    (case k40 => k_is)
    (case a41 => k_is)
    (case l41 => k_is)
    (case c41 => k_is)
    (case k41 => k_is)
    (case a42 => k_is)
    (case l42 => k_is)
    (case c42 => k_is)
    (case k42 => k_is)
    (case a43 => k_is)
    (case l43 => k_is)
    (case c43 => k_is)
    (case k43 => k_is)
    (case a44 => k_is)
    (case l44 => k_is)
    (case c44 => k_is)
    (case k44 => k_is)
    (case a45 => k_is)
    (case l45 => k_is)
    (case c45 => k_is)
    (case k45 => k_is)
    (case pg => k_is)
    (case ic => k_is)
    (case po => k_is)
    (case sa => k_is)
    (case wa => k_is)
    (case wn => k_is)
    (case wt => k_is)
    (case wm => k_is)
    (case o1 => kit_is)
    (case o2 => kit_is)
    (case o3 => kit_is)
    (case nf => k_is)
    (case mk => k_is)
    (case kc => k_is)
    (case sA0 => k_is)
    (case sB0 => k_is)
    (case sC0 => k_is)
    (case sD0 => k_is)
    (case sE0 => k_is)
    (case sA1 => k_is)
    (case sB1 => k_is)
    (case sC1 => k_is)
    (case sD1 => k_is)
    (case sE1 => k_is)
    (case sA2 => k_is)
    (case sB2 => k_is)
    (case sC2 => k_is)
    (case sD2 => k_is)
    (case sE2 => k_is)
    (case sA3 => k_is)
    (case sB3 => k_is)
    (case sC3 => k_is)
    (case sD3 => k_is)
    (case sE3 => k_is)
    (case nLETTERS => k_is)
    (case nMOST_ROWS => k_is)
    (case nBOUND => k_is)
    (case nMOST_POWER => k_is)
    (case nMOST_PIECES => k_is)
    (case nPAIR => k_is)
    (case z_len => k_is)
    (case z_isinstance => k_is)
    (case z_all => k_is)
    (case z_zip => k_is)
    (case z_range => k_is)
    (case z_sorted => k_is)
    (case z_max => k_is)
    (case z_min => k_is)
    (case z_abs => k_is)
    (case z_tuple => k_is)
    (case z_list => k_is)
    (case z_int => k_is)
    (case z_bool => k_is)
    (case z_set => k_is)
    (case z_str => k_is)
