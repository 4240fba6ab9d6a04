import PyProof.Rows.All
import Wide.All
import OpenK.AllK
import Wide.FinOn
import HandS.ForMost
import HandS.IsInst
import HandS.StrMore
import HandS.Walk
import HandS.Style
import HandS.Codes
import HandS.Conv
import HandS.More
import HandS.Evl
import PyProof.StrBlock2
import KE.KDictZip
import HandS.ListItems
import KE.GoesEnum
import KE.GoesMore
import HandS.ExcIs
import HandS.ExcValue
import HandS.ExcBuiltin
import HandS.WordsExc
import KE.KExcIs
import HandS.SetFor
import HandS.Strs
import PyProof.Rows.SortShellAny
import PyProof.StrWalks
import KE.LtSeq
import PyProof.StrLawsFirst
import HandS.Replace
import HandS.Wide
import HandS.SortInts
import PyProof.Rows.StrBetween
import PyProof.Rows.StrLast
import PyProof.ListStr
import PyProof.ReprRoads
import PyProof.ReprLen
import PyProof.Rows.RegStrFacts
import KE.DataMinMax
import KE.GoesZip
import HandS.DictTup
import HandS.Deep
import PyProof.Rows.TupDisplay
import KE.SortData
import HandS.NoneIn
import HandS.TryOnly
import HandS.SuiteRaise
import HandS.RaiseFrom
import PyProof.P3Eq
import PyProof.TupleOfStr
import KE.GoesComp
import PySem.Challenge.RW_leavings_k50_texts_of_no_list
set_option Elab.async false
set_option linter.all false
set_option maxRecDepth 100000
set_option maxHeartbeats 2000000
namespace Lv
open PySem PySem.Spec PyProof.Rows L2 SX

/-! texts as lists of codes -/
theorem pe_strS {X : Cx} {x : Str} {j : Nat} {pos : Pos} {l : List Nat} (h : x = S l) : PE X (.Constant (.str x) j pos) (tC (.str (S l))) := by
  subst h
  exact pe_str
/-- s[::-1] of a text -/
def tRevS (te : TE) : TE := fun σ H Q => te σ H fun x H1 => ∃ l : List Nat, x = .str (S l) ∧ l.length ≤ sizeLine ∧ Q (.str (S l.reverse)) H1
theorem fm_some {α β : Type} {f : α → Option β} {g : α → β} : ∀ {l : List α}, (∀ k ∈ l, f k = some (g k)) → l.filterMap f = l.map g
  | [], _ => rfl
  | a :: l, h => by
    rw [List.filterMap_cons, h a List.mem_cons_self, List.map_cons, fm_some fun k hk => h k (List.mem_cons_of_mem _ hk)]
theorem range_getD {α : Type} (l : List α) (d : α) : (List.range l.length).map (fun k => l.getD k d) = l := by
  apply List.ext_getElem
  · simp
  · intro i h1 h2
    simp [List.getD_eq_getElem?_getD, h2]
theorem idx_rev (n : Nat) : Builtin.Str.strSliceIndices none none (-1) n = (List.range n).map (fun k => n - 1 - k) := by
  unfold Builtin.Str.strSliceIndices PySem.sliceRange
  simp only [show ¬ ((-1 : Int) > 0) by decide, if_false]
  by_cases h : (n : Int) - 1 > -1
  · rw [if_pos h]
    have e : (((n : Int) - 1 - -1 - -1 - 1) / - -1).toNat = n := by
      rw [show (- -1 : Int) = 1 by decide, Int.ediv_one]; omega
    rw [e]
    refine List.map_congr_left fun k hk => ?_
    have := List.mem_range.mp hk
    omega
  · have : n = 0 := by omega
    subst this
    rfl
theorem pick_rev (l : List Nat) : (((List.range l.length).map (fun k => l.length - 1 - k)).filterMap (fun i => l.toArray[i]?)) = l.reverse := by
  rw [List.filterMap_map, fm_some (g := fun k => l.reverse.getD k 0)]
  · have := range_getD l.reverse 0
    rw [List.length_reverse] at this
    exact this
  · intro k hk
    have hk := List.mem_range.mp hk
    have h1 : l.length - 1 - k < l.length := by omega
    show l.toArray[l.length - 1 - k]? = _
    rw [List.getElem?_toArray, List.getD_eq_getElem?_getD, List.getElem?_reverse hk, List.getElem?_eq_getElem h1]
    rfl
theorem pe_revS {X : Cx} {e : Expr} {te : TE} {k : Nat} {p1 p2 p3 pos : Pos} (he : PE X e te) : PE X (.Subscript e (.Slice none none (some (.UnaryOp .USub (.Constant (.int 1) k p1) p2)) p3) pos) (tRevS te) := by
  refine ⟨fun pins s σ H Q I h => ?_⟩
  refine Subscript_ (thn (he.run pins s σ H _ I h) fun v s1 ⟨x, H1, I1, r1, q1⟩ => ?_)
  obtain ⟨l, rfl, hz, q⟩ := q1
  obtain ⟨t, rfl⟩ := r1
  have hst : PO X (some (.UnaryOp .USub (.Constant (.int 1) k p1) p2)) (tPart (tUn (rU fun i => .int (-i)) (tC (.int 1)))) := po_some (pe_un un_neg pe_int)
  refine wpAny_Slice (thn (po_none.run pins s1 σ H1 (fun o H2 => o = none ∧ H2 = H1) I1 ⟨rfl, rfl⟩) fun vl s2 ⟨lo, H2, I2, pl, el, e2⟩ => ?_)
  subst el e2
  refine thn (po_none.run pins s2 σ H2 (fun o H3 => o = none ∧ H3 = H2) I2 ⟨rfl, rfl⟩) fun vu s3 ⟨u, H3, I3, pu, eu, e3⟩ => ?_
  subst eu e3
  refine thn (hst.run pins s3 σ H3 (fun o H4 => o = some (-1) ∧ H4 = H3) I3 ⟨1, rfl, -1, rfl, rfl, rfl⟩) fun vs s4 ⟨o, H4, I4, ps, eo, e4⟩ => ?_
  subst eo e4
  have I5 : Inv X pins σ H4 { s4 with heap := s4.heap.push { cls := .type "slice", data := .fields #[vl, vu, vs] } } := I4.kept (t' := s4.toks) fun b ob q => Heap.get?_push_of_some _ q
  obtain ⟨a1, rfl, e1⟩ := IsPart.raw pl
  obtain ⟨a2, rfl, e2⟩ := IsPart.raw pu
  obtain ⟨a3, rfl, e3⟩ := IsPart.raw ps
  show wpAny (model X.prog X.w) X.A (subscriptTail e (.Slice none none (some (.UnaryOp .USub (.Constant (.int 1) k p1) p2)) p3) (.str (S l) t) (.ref s4.heap.objs.size)) (EP X pins σ Q) X.xe { s4 with heap := s4.heap.push { cls := .type "slice", data := .fields #[partValue a1, partValue a2, partValue a3] } }
  refine tail_any (ops := [.str (S l) t, .ref s4.heap.objs.size]) (typeIs_str _ _ _) (F.slot_str_getitem.lookup) ?_ (by with_unfolding_all rfl)
  have e3' : (a3.map (·.1)).getD 1 = -1 := by rw [e3]; rfl
  refine wpAny_getItem_str_slice (l := a1) (u := a2) (st := a3) ⟨_, Heap.get?_push_size _ rfl, rfl, rfl⟩ (by rw [e3']; decide) ?_
  unfold sliceMade
  rw [if_neg (by rw [e3']; simp)]
  have ep : ((slicePicked (S l) a1 a2 a3).filterMap ((S l).cps[·]?)) = l.reverse := by
    unfold slicePicked
    rw [e3', e1, e2, S_len, idx_rev]
    exact pick_rev l
  rw [ep]
  refine ⟨?_, .str (S l.reverse), H4, I5.tok _, ⟨_, rfl⟩, q⟩
  show (S l.reverse).length ≤ sizeLine
  rw [S_len, List.length_reverse]
  exact hz
theorem foldl_app {α : Type} (n : Nat) (l : List α) : ∀ acc : Array α, ((List.replicate n l.toArray).foldl (· ++ ·) acc).toList = acc.toList ++ (List.replicate n l).flatten := by
  induction n with
  | zero => intro acc; simp
  | succ n ih =>
    intro acc
    rw [List.replicate_succ, List.foldl_cons, ih, List.replicate_succ, List.flatten_cons]
    simp
theorem mul_S (l : List Nat) (n : Int) : Txt.mul (S l) n = S (List.replicate n.toNat l).flatten := by
  unfold Txt.mul
  by_cases h : n < 1
  · rw [if_pos h, show n.toNat = 0 by omega]
    rfl
  · rw [if_neg h]
    by_cases h2 : (n == 1 || (S l).length == 0) = true
    · rw [if_pos h2]
      rw [Bool.or_eq_true] at h2
      rcases h2 with h2 | h2
      · have := eq_of_beq h2
        subst this
        simp
      · rw [S_len] at h2
        have : l = [] := List.length_eq_zero_iff.mp (eq_of_beq h2)
        subst this
        simp
    · rw [if_neg h2]
      refine TL.ext_tl ?_
      show ((List.replicate n.toNat l.toArray).foldl (· ++ ·) #[]).toList = _
      rw [foldl_app]
      simp [TL.tl]
theorem op_mulS {X : Cx} : OpR X (binaryOp .Mult) (fun x y H Q => ∃ (l : List Nat) (n : Int), x = .str (S l) ∧ y = .int n ∧ -(2 ^ 38) < n ∧ n < 2 ^ 38 ∧ l.length * n.toNat ≤ sizeLine ∧ Q (.str (S (List.replicate n.toNat l).flatten)) H) := by
  intro pins s σ H x y v u Q I rx ry h
  obtain ⟨l, n, rfl, rfl, h0, h1, hz, q⟩ := h
  obtain ⟨t, rfl⟩ := rx
  obtain ⟨t', rfl⟩ := ry
  refine SB.mul ⟨?_, ?_, ?_⟩ fun t2 k => ?_
  · rw [decide_eq_false (show ¬ n < -(2 ^ 63 : Int) by omega), decide_eq_false (show ¬ n ≥ (2 ^ 63 : Int) by omega)]; rfl
  · intro h2 h3 h4
    rw [S_len] at h4
    have h5 : (l.length : Int) ≤ 16777216 := by
      have : l.length * 1 ≤ l.length * n.toNat := Nat.mul_le_mul_left _ (by omega)
      have : sizeLine = 16777216 := by decide
      omega
    have h6 : (2 ^ 63 - 1 : Int) / n ≥ 16777216 := by
      have := Int.le_ediv_of_mul_le (show 0 < n by omega) (show 16777216 * n ≤ 2 ^ 63 - 1 by omega)
      exact this
    omega
  · intro _ _
    unfold Builtin.Str.tooLong
    rw [S_len]
    exact decide_eq_false (by omega)
  · rw [mul_S]
    exact ⟨.str _, H, I.tok _, ⟨_, rfl⟩, q⟩
end Lv

set_option Elab.async false
set_option linter.all false
set_option maxRecDepth 100000
set_option maxHeartbeats 2000000
namespace Lv
open PySem PySem.Spec PyProof.Rows L2 SX
/-! list(enumerate(list)) -/
theorem en_no_len : typeLookup (.type "enumerate") "__len__" = pure none := by rw [typeLookup_type, builtinLookup_eq_fast]; kernel_rfl
theorem en_no_hint : typeLookup (.type "enumerate") "__length_hint__" = pure none := by rw [typeLookup_type, builtinLookup_eq_fast]; kernel_rfl
def EnSt (h : Heap) (e it l S : Addr) (i : Nat) (items : Array Value) : Prop :=
  h.IsListIter it l i ∧ h.IsList l items ∧ ((∃ old, IsEnum h e it i old) ∨ ∃ old T f oT, IsEnumHeld h e it i old T f ∧ h.get? T = some oT ∧ T ≠ e ∧ T ≠ it ∧ T ≠ S)
structure EnG (items : Array Value) (lo : Addr) (h : Heap) (ts : List Addr) : Prop where
  rise : ts.Pairwise (· < ·)
  above : ∀ a ∈ ts, lo < a
  pairs : ∀ (j : Nat) (a : Addr), ts[j]? = some a → ∃ t x, items[j]? = some x ∧ h.get? a = some { cls := .type "tuple", data := .seq #[.int j t, x] }
theorem EnG.there {items : Array Value} {lo : Addr} {h : Heap} {ts : List Addr} (g : EnG items lo h ts) {a : Addr} (ha : a ∈ ts) : a < h.objs.size := by
  obtain ⟨j, hj⟩ := List.mem_iff_getElem?.mp ha
  obtain ⟨_, _, _, e⟩ := g.pairs j a hj
  exact Heap.lt_size e
theorem EnSt.keep {h h' : Heap} {e it l S : Addr} {i : Nat} {items : Array Value} (x : EnSt h e it l S i items) (hk : ∀ b o, b ≠ S → h.get? b = some o → h'.get? b = some o) (he : e ≠ S) (hi : it ≠ S) (hl : l ≠ S) : EnSt h' e it l S i items := by
  obtain ⟨a, b, c⟩ := x
  refine ⟨a.at fun o y => hk _ o hi y, b.at fun o y => hk _ o hl y, ?_⟩
  rcases c with ⟨old, c⟩ | ⟨old, T, f, oT, c, c1, c2, c3, c4⟩
  · exact .inl ⟨old, hk _ _ he c⟩
  · exact .inr ⟨old, T, f, oT, hk _ _ he c, hk _ _ c4 c1, c2, c3, c4⟩
section
variable {prog : Program} {w : World} {A : Around} {s : Shared} {R : Result → Shared → Prop} {E : Value → Shared → Prop} {e it l S : Addr} {items : Array Value}
theorem en_item {i : Nat} {x : Value} {Q : Option Value → Shared → Prop} (hst : EnSt s.heap e it l S i items) (hei : e ≠ it) (hle : l ≠ e) (hli : l ≠ it) (hS : S < s.heap.objs.size) (hx : items[i]? = some x)
    (hQ : ∀ h', EnSt h' e it l S (i + 1) items → h'.get? s.heap.objs.size = some { cls := .type "tuple", data := .seq #[.int i s.toks, x] } → h'.objs.size = s.heap.objs.size + 1 →
      (∀ b o, b ≠ e → b ≠ it → s.heap.get? b = some o → h'.get? b = some o) → Q (some (.ref s.heap.objs.size)) { s with heap := h', toks := s.toks + 1 }) :
    wpAny (model prog w) A (pyNext (.ref e)) Q E s := by
  obtain ⟨hit, hl, he⟩ := hst
  have ec : ((i + 1 : Nat) : Int) = (i : Int) + 1 := by omega
  have nit : s.heap.objs.size ≠ it := let ⟨_, x, _⟩ := hit; Nat.ne_of_gt (Heap.lt_size x)
  rcases he with ⟨old, he⟩ | ⟨old, T, f, oT, he, hT, r1, r2, r3⟩
  · refine wpAny_pyNext_enum_item he hit hl hx hei fun h' ho hit' hT hsz hk => ?_
    exact hQ h' ⟨hit', hl.at fun o x => hk l o hle hli x, .inr ⟨_, s.heap.objs.size, false, _, (by rw [ec]; exact ho), hT, Nat.ne_of_gt (Heap.lt_size he), nit, Nat.ne_of_gt hS⟩⟩ hT hsz hk
  · refine wpAny_pyNext_enum_item_held he hT r1 r2 hit hl hx hei fun h' ho hit' hT' hsz hk => ?_
    exact hQ h' ⟨hit', hl.at fun o x => hk l o hle hli x, .inr ⟨old, T, true, oT, (by rw [ec]; exact ho), hk _ _ r1 r2 hT, r1, r2, r3⟩⟩ hT' hsz hk
theorem en_done {i : Nat} {Q : Option Value → Shared → Prop} (hh : A.handled = none) (hst : EnSt s.heap e it l S i items) (hx : items[i]? = none)
    (hQ : ∀ h', Heap.ExtBut it s.heap h' → Q none { s with heap := h' }) : wpAny (model prog w) A (pyNext (.ref e)) Q E s := by
  obtain ⟨hit, hl, he⟩ := hst
  rcases he with ⟨old, he⟩ | ⟨old, T, f, oT, he, hT, r1, r2, r3⟩
  · exact wpAny_pyNext_enum_end hh he hit hl hx hQ
  · exact wpAny_pyNext_enum_end_held hh he hit hl hx hQ
theorem en_loop (hh : A.handled = none) (hei : e ≠ it) (hle : l ≠ e) (hli : l ≠ it) (hSe : e < S) (hSi : it < S) (hSl : l ≠ S) (hn : items.size ≤ sizeLine) (res : Value) {h₁ : Heap}
    (hR : ∀ h' tk acc c ts, (∀ b o, b ≠ S → b ≠ e → b ≠ it → h₁.get? b = some o → h'.get? b = some o) → h'.get? S = some { cls := .type "list", dict := none, data := .seq acc c, slots := #[] } → ts.length = items.size → EnG items S h' ts →
      acc.toList = ts.map Value.ref → R (.ok (.ret res)) { s with heap := h', toks := tk }) :
    ∀ (k i : Nat) (h : Heap) (tk c : Nat) (acc : Array Value) (ts : List Addr), items.size - i = k → i ≤ items.size → EnSt h e it l S i items → (∀ b o, b ≠ S → b ≠ e → b ≠ it → h₁.get? b = some o → h.get? b = some o) →
      h.get? S = some { cls := .type "list", dict := none, data := .seq acc c, slots := #[] } → acc.toList = ts.map Value.ref → ts.length = i → EnG items S h ts → S < h.objs.size →
      codeAny (model prog w) A (.builtin "list.extend.loop" ⟨[.ref S, .ref e, res], []⟩) R { s with heap := h, toks := tk } := by
  have nSe : S ≠ e := Nat.ne_of_gt hSe
  have nSi : S ≠ it := Nat.ne_of_gt hSi
  intro k
  induction k with
  | zero =>
    intro i h tk c acc ts hk hi hst hkeep hS hacc hal hG hIs
    have hin : i = items.size := by omega
    refine codeAny_builtin PySem.F.entry_extend_loop ?_
    rw [Around.under_plainId PySem.F.plain_extend_loop _]
    show wpAny _ A.in1 (pyNext (.ref e) >>= _) _ _ _
    refine wpAny_bind (en_done (s := { s with heap := h, toks := tk }) (A := A.in1) hh hst (Array.getElem?_eq_none (by omega)) fun h' he => ?_)
    refine wpAny_pure (hR h' tk acc c ts (fun b o h1 h2 h3 e => he b o h3 (hkeep b o h1 h2 h3 e)) (he S _ nSi hS) (by omega) ⟨hG.rise, hG.above, fun j a hj => ?_⟩ hacc)
    obtain ⟨t, x, e1, e3⟩ := hG.pairs j a hj
    exact ⟨t, x, e1, he a _ (Nat.ne_of_gt (Nat.lt_trans hSi (hG.above a (List.mem_of_getElem? hj)))) e3⟩
  | succ k ih =>
    intro i h tk c acc ts hk hi hst hkeep hS hacc hal hG hIs
    have hlt : i < items.size := by omega
    refine codeAny_builtin PySem.F.entry_extend_loop ?_
    rw [Around.under_plainId PySem.F.plain_extend_loop _]
    show wpAny _ A.in1 (pyNext (.ref e) >>= _) _ _ _
    refine wpAny_bind (en_item (s := { s with heap := h, toks := tk }) (A := A.in1) (x := items[i]) hst hei hle hli hIs (Array.getElem?_eq_getElem hlt) fun h' hst' hT hsz hk' => ?_)
    replace hT : h'.get? h.objs.size = some { cls := .type "tuple", data := .seq #[.int i tk, items[i]] } := hT
    replace hsz : h'.objs.size = h.objs.size + 1 := hsz
    replace hk' : ∀ b o, b ≠ e → b ≠ it → h.get? b = some o → h'.get? b = some o := hk'
    have hS' := hk' S _ nSe nSi hS
    have nSn : h.objs.size ≠ S := Nat.ne_of_gt hIs
    have hasz : acc.size = i := by rw [← hal, ← List.length_map (f := Value.ref), ← hacc, Array.length_toList]
    show wpAny _ A.in1 (updateSeq S (·.push (.ref h.objs.size)) >>= _) _ _ _
    refine wpAny_bind ?_
    have oth : ∀ b o, b ≠ S → h'.get? b = some o → (h'.update S (Obj.mapSeq (·.push (Value.ref h.objs.size)))).get? b = some o := fun b o hb e => (Heap.get?_update_other _ _ (Ne.symm hb)).trans e
    refine wpAny_updateSeq hS' rfl (wpAny_pure ⟨plainId_quiet PySem.F.plain_extend_loop _, ?_⟩) (by rw [hasz]; omega) (by show (acc.push _).size ≤ sizeLine + 1; rw [Array.size_push, hasz]; omega)
    refine ih (i + 1) (h'.update S (Obj.mapSeq (·.push (Value.ref h.objs.size)))) (tk + 1) _ (acc.push (.ref h.objs.size)) (ts ++ [h.objs.size]) (by omega) hlt (hst'.keep oth nSe.symm nSi.symm hSl) (fun b o h1 h2 h3 e1 => oth b o h1 (hk' b o h2 h3 (hkeep b o h1 h2 h3 e1))) (Heap.get?_update_self _ hS' rfl) ?_ ?_ ?_ ?_
    · rw [Array.toList_push, hacc, List.map_append]; rfl
    · rw [List.length_append, hal]; rfl
    · refine ⟨?_, ?_, ?_⟩
      · rw [List.pairwise_append]
        refine ⟨hG.rise, by simp, fun a ha b hb => ?_⟩
        rw [List.mem_singleton.mp hb]
        exact hG.there ha
      · intro a ha
        rcases List.mem_append.mp ha with ha | ha
        · exact hG.above a ha
        · rw [List.mem_singleton.mp ha]; exact hIs
      · intro j a hj
        by_cases hjl : j < ts.length
        · rw [List.getElem?_append_left hjl] at hj
          obtain ⟨t, x, e1, e3⟩ := hG.pairs j a hj
          have am := hG.above a (List.mem_of_getElem? hj)
          exact ⟨t, x, e1, oth a _ (Nat.ne_of_gt am) (hk' a _ (Nat.ne_of_gt (Nat.lt_trans hSe am)) (Nat.ne_of_gt (Nat.lt_trans hSi am)) e3)⟩
        · rw [List.getElem?_append_right (by omega)] at hj
          have hj0 : j - ts.length = 0 := by
            rcases Nat.eq_zero_or_pos (j - ts.length) with z | z
            · exact z
            · rw [List.getElem?_eq_none (by simp; omega)] at hj; cases hj
          rw [hj0] at hj
          have ea : h.objs.size = a := Option.some.inj hj
          have ej : j = i := by omega
          subst ej
          rw [← ea]
          exact ⟨tk, items[j], Array.getElem?_eq_getElem hlt, oth _ _ nSn hT⟩
    · have : (h'.update S (Obj.mapSeq (·.push (Value.ref h.objs.size)))).objs.size = h'.objs.size := by simp [Heap.update]
      rw [this, hsz]; exact Nat.lt_succ_of_lt hIs
theorem en_extend (hh : A.handled = none) (hei : e ≠ it) (hle : l ≠ e) (hli : l ≠ it) (hSe : e < S) (hSi : it < S) (hSl : l ≠ S) (hn : items.size ≤ sizeLine) (res : Value) (c₀ : Nat)
    (he : IsEnum s.heap e it 0 .none) (hit : s.heap.IsListIter it l 0) (hl : s.heap.IsList l items) (hS : s.heap.get? S = some { cls := .type "list", data := .seq #[] c₀ })
    (hR : ∀ h' tk acc c ts, (∀ b o, b ≠ S → b ≠ e → b ≠ it → s.heap.get? b = some o → h'.get? b = some o) → h'.get? S = some { cls := .type "list", dict := none, data := .seq acc c, slots := #[] } → ts.length = items.size → EnG items S h' ts →
      acc.toList = ts.map Value.ref → R (.ok (.ret res)) { s with heap := h', toks := tk }) :
    wpAny (model prog w) A.in1 (Builtin.List.listExtendWith (.ref S) (.ref e) res)
      (fun fin s' => match fin with | .done f => R (.ok f) s' | .again c' => c'.quiet = true ∧ codeAny (model prog w) A c' R s') (fun e s' => R (.error e) s') s := by
  have nSe : S ≠ e := Nat.ne_of_gt hSe
  have hTy : s.TypeIs (.ref e) "enumerate" := ⟨_, he, rfl⟩
  have hst : EnSt s.heap e it l S 0 items := ⟨hit, hl, .inl ⟨_, he⟩⟩
  unfold Builtin.List.listExtendWith
  refine wpAny_bind (wpAny_typeOf hTy ?_)
  have h1 : Builtin.List.listSameRef (.ref S) (.ref e) = false := by simp [Builtin.List.listSameRef, nSe]
  have h2 : (Value.type "enumerate" == Value.type "list") = false := by decide
  have h3 : (Value.type "enumerate" == Value.type "tuple") = false := by decide
  simp only [h1, h2, h3, Bool.or_false, Bool.false_eq_true, if_false]
  refine wpAny_bind (wpAny_pyIter_enum he ?_)
  refine wpAny_bind (wpAny_holding ?_)
  unfold Builtin.List.listLengthHint
  refine wpAny_bind (wpAny_specialOf hTy en_no_len ?_)
  show wpAny _ A.in1 (specialOf (Value.ref e) (Str.ofString "__length_hint__") >>= _) _ _ _
  refine wpAny_bind (wpAny_specialOf hTy en_no_hint ?_)
  refine wpAny_pure ?_
  show wpAny _ A.in1 (rule "list.extend.makes-room" >>= fun _ => Builtin.List.listTouch (.ref S) >>= fun _ =>
    again (.builtin "list.extend.loop" ⟨[.ref S, .ref e, res], []⟩)) _ _ _
  refine wpAny_bind (wpAny_rule ?_)
  refine wpAny_bind ?_
  show wpAny _ A.in1 (updateSeq S (·.push .none) >>= fun _ => updateSeq S (·.pop)) _ _ _
  refine wpAny_bind (wpAny_updateSeq hS rfl ?_)
  have hS₂ := Heap.get?_update_self (Obj.mapSeq (·.push Value.none)) hS rfl
  refine wpAny_updateSeq (hz := by seq_fits) hS₂ rfl ?_
  have hS₃ := Heap.get?_update_self (Obj.mapSeq (·.pop)) hS₂ rfl
  have oth : ∀ b o, b ≠ S → s.heap.get? b = some o → ((s.heap.update S (Obj.mapSeq (·.push Value.none))).update S (Obj.mapSeq (·.pop))).get? b = some o :=
    fun b o hb e => (Heap.get?_update_other _ _ (Ne.symm hb)).trans ((Heap.get?_update_other _ _ (Ne.symm hb)).trans e)
  have sz : ((s.heap.update S (Obj.mapSeq (·.push Value.none))).update S (Obj.mapSeq (·.pop))).objs.size = s.heap.objs.size := by simp [Heap.update]
  refine wpAny_pure ⟨plainId_quiet PySem.F.plain_extend_loop _, en_loop (s := s) hh hei hle hli hSe hSi hSl hn res (h₁ := s.heap) hR _ 0 _ s.toks _ _ [] rfl (Nat.zero_le _) (hst.keep oth nSe.symm (Nat.ne_of_lt hSi) hSl) (fun b o h1 _ _ e => oth b o h1 e) hS₃ rfl rfl ⟨by simp, by simp, by simp⟩ ?_⟩
  rw [sz]
  exact Heap.lt_size hS
theorem en_init (hh : A.handled = none) (hei : e ≠ it) (hle : l ≠ e) (hli : l ≠ it) (hSe : e < S) (hSi : it < S) (hSl : l ≠ S) (hn : items.size ≤ sizeLine)
    (he : IsEnum s.heap e it 0 .none) (hit : s.heap.IsListIter it l 0) (hl : s.heap.IsList l items) (hS : s.heap.get? S = some { cls := .type "list", data := .seq #[] })
    (hR : ∀ h' tk acc c ts, (∀ b o, b ≠ S → b ≠ e → b ≠ it → s.heap.get? b = some o → h'.get? b = some o) → h'.get? S = some { cls := .type "list", dict := none, data := .seq acc c, slots := #[] } → ts.length = items.size → EnG items S h' ts →
      acc.toList = ts.map Value.ref → R (.ok (.ret .none)) { s with heap := h', toks := tk }) :
    wpAny (model prog w) A.in1 (Builtin.«list.__init__» ⟨[.ref S, .ref e], []⟩)
      (fun fin s' => match fin with | .done f => R (.ok f) s' | .again c' => c'.quiet = true ∧ codeAny (model prog w) A c' R s') (fun e s' => R (.error e) s') s := by
  show wpAny _ _ (do let old ← Builtin.List.listItems (.ref S); Builtin.List.listUpdate (.ref S) (fun _ => #[]); letGo old.toList.reverse; Builtin.List.listExtendWith (.ref S) (.ref e) .none) _ _ s
  refine wpAny_bind ?_
  unfold Builtin.List.listItems
  refine wpAny_bind (wpAny_seqItems hS rfl (wpAny_pure ?_))
  show wpAny _ _ (updateSeq S (fun _ => #[]) >>= fun _ => letGo (#[] : Array Value).toList.reverse >>= fun _ => Builtin.List.listExtendWith (.ref S) (.ref e) .none) _ _ s
  refine wpAny_bind (wpAny_updateSeq hS rfl ?_)
  have hS₂ := Heap.get?_update_self (Obj.mapSeq (fun _ => (#[] : Array Value))) hS rfl
  have oth : ∀ b o, b ≠ S → s.heap.get? b = some o → (s.heap.update S (Obj.mapSeq (fun _ => (#[] : Array Value)))).get? b = some o :=
    fun b o hb e => (Heap.get?_update_other _ _ (Ne.symm hb)).trans e
  refine wpAny_bind (wpAny_letGo ?_)
  refine en_extend hh hei hle hli hSe hSi hSl hn .none _ (oth _ _ (Nat.ne_of_lt hSe) he) (hit.at fun o x => oth _ o (Nat.ne_of_lt hSi) x) (hl.at fun o x => oth _ o hSl x) hS₂ fun h' tk acc c ts hk hS' h1 h2 h3 => ?_
  exact hR h' tk acc c ts (fun b o a1 a2 a3 x => hk b o a1 a2 a3 (oth b o a1 x)) hS' h1 h2 h3
theorem call_list_enum {Q : Value → Shared → Prop} (hh : A.handled = none) (hei : e ≠ it) (hle : l ≠ e) (hli : l ≠ it) (hn : items.size ≤ sizeLine)
    (he : IsEnum s.heap e it 0 .none) (hit : s.heap.IsListIter it l 0) (hl : s.heap.IsList l items)
    (hQ : ∀ h' tk acc c ts, (∀ b o, b ≠ e → b ≠ it → s.heap.get? b = some o → h'.get? b = some o) → h'.get? s.heap.objs.size = some { cls := .type "list", dict := none, data := .seq acc c, slots := #[] } → ts.length = items.size → EnG items s.heap.objs.size h' ts →
      acc.toList = ts.map Value.ref → Q (.ref s.heap.objs.size) { s with heap := h', toks := tk }) :
    wpAny (model prog w) A (call (.type "list") [.ref e]) Q E s := by
  refine callType_codes (Q₁ := fun obj s₁ => obj = .ref s.heap.objs.size ∧ s₁ = { s with heap := s.heap.push { cls := .type "list", data := .seq #[] } }) F.called_list (F.typeCall_list_1 _) F.entry_list_init
    (code_list_new _ ⟨rfl, rfl⟩) fun obj s₁ h₁ => ?_
  obtain ⟨rfl, rfl⟩ := h₁
  have hS : (s.heap.push { cls := .type "list", data := .seq #[] }).get? s.heap.objs.size = some { cls := .type "list", data := .seq #[] } := Heap.get?_push_size _ rfl
  have kp : ∀ b o, s.heap.get? b = some o → (s.heap.push { cls := .type "list", data := .seq #[] }).get? b = some o := fun b o x => Heap.get?_push_of_some _ x
  have li : it < s.heap.objs.size := by obtain ⟨_, x, _⟩ := hit; exact Heap.lt_size x
  have ll : l < s.heap.objs.size := by obtain ⟨_, x, _⟩ := hl; exact Heap.lt_size x
  refine ⟨⟨_, hS, rfl⟩, F.args_list_init_2 _ _, en_init (A := A.in1) (S := s.heap.objs.size) hh hei hle hli (Heap.lt_size he) li (Nat.ne_of_lt ll) hn (kp _ _ he) (hit.at fun o x => kp _ o x) (hl.at fun o x => kp _ o x) hS fun h' tk acc c ts hk hS' h1 h2 h3 => ?_⟩
  exact ⟨rfl, hQ h' tk acc c ts (fun b o a2 a3 x => hk b o (Nat.ne_of_lt (Heap.lt_size x)) a2 a3 (kp b o x)) hS' h1 h2 h3⟩
end
/-- the tuples tracked at their addresses, numbered from k on -/
def putE : Hp → List Addr → Nat → List V → Hp
  | H, a :: as, k, x :: xs => putE (upd H a (.tup [.int (k : Nat), x])) as (k + 1) xs
  | H, _, _, _ => H
theorem putE_off {b : Addr} : ∀ (as : List Addr) (k : Nat) (xs : List V) (H : Hp), b ∉ as → putE H as k xs b = H b
  | [], _, _, _, _ => rfl
  | _ :: _, _, [], _, _ => rfl
  | a :: as, k, x :: xs, H, h => by
    show putE (upd H a (.tup [.int (k : Nat), x])) as (k + 1) xs b = H b
    rw [putE_off as (k + 1) xs _ (fun z => h (List.mem_cons_of_mem _ z)), upd_ne (fun z => h (by rw [z]; exact List.mem_cons_self))]
theorem putE_at : ∀ (as : List Addr) (k : Nat) (xs : List V) (H : Hp), as.length = xs.length → as.Nodup → ∀ (j : Nat) (a : Addr) (x : V), as[j]? = some a → xs[j]? = some x → putE H as k xs a = some (.tup [.int ((k + j : Nat) : Int), x])
  | [], _, [], _, _, _ => by simp
  | [], _, _ :: _, _, h, _ => by cases h
  | _ :: _, _, [], _, h, _ => by cases h
  | a :: as, k, x :: xs, H, h, hn => by
    have hn' := List.nodup_cons.mp hn
    intro j a' x' ha hx
    show putE (upd H a (.tup [.int (k : Nat), x])) as (k + 1) xs a' = _
    cases j with
    | zero =>
      have e1 : a = a' := Option.some.inj ha
      have e2 : x = x' := Option.some.inj hx
      subst e1 e2
      rw [putE_off as _ xs _ hn'.1, upd_same]
      rfl
    | succ j =>
      have ih := putE_at as (k + 1) xs (upd H a (.tup [.int (k : Nat), x])) (Nat.succ.inj h) hn'.2 j a' x' ha hx
      rw [ih]
      have : k + 1 + j = k + (j + 1) := by omega
      rw [this]
def rListEn (K : PySem.W.Frag) : V → Hp → VK → Prop := fun v H Q => ∃ (a : Addr) (xs : List V), v = .ref a ∧ SqL K H a xs ∧
  ∀ (H' : Hp) (p : Addr) (ts : List Addr), Same H H' → H p = none → ts.length = xs.length → H' p = some (.lst (ts.map V.ref)) → (∀ (j : Nat) (t : Addr) (x : V), ts[j]? = some t → xs[j]? = some x → H' t = some (.tup [.int (j : Int), x])) → Q (.ref p) H'
def tListEn (K : PySem.W.Frag) (te : TE) : TE := fun σ H Q => te σ H fun x H1 => rListEn K x H1 Q
section
variable {X : Cx} {e : Expr} {te : TE} {p p2 pos pos2 : Pos}
theorem pe_listEn (hc : X.calm = true) (he : PE X e te) (hg : Gl X "list") (hm : X.mg "list" = none) (hg2 : Gl X "enumerate") (hm2 : X.mg "enumerate" = none)
    (hs : starEach [.Call (.Name "enumerate" p2) [e] [] pos2] X.env = (false, eval (.Call (.Name "enumerate" p2) [e] [] pos2) X.env) :: starEach [] X.env := by rfl)
    (hs2 : starEach [e] X.env = (false, eval e X.env) :: starEach [] X.env := by rfl) :
    PE X (.Call (.Name "list" p) [.Call (.Name "enumerate" p2) [e] [] pos2] [] pos) (tListEn X.K te) := by
  refine ⟨fun pins s σ H Q I hq => ?_⟩
  refine wpAny_Call_Name_kw (ld_blt I hg hm (by decide +kernel : bootBuiltins "list" = some (.type "list")) ?_)
  refine PyProof.Rows.callWith_type1 ?_ hs rfl
  rw [hs]
  show wpAny _ _ (spliced ((false, eval (.Call (.Name "enumerate" p2) [e] [] pos2) X.env) :: backTo pos (starEach [] X.env))) _ _ s
  refine Calls.spliced_cons ?_
  refine wpAny_Call_Name_kw (ld_blt I hg2 hm2 (by decide +kernel : bootBuiltins "enumerate" = some (.type "enumerate")) ?_)
  refine PyProof.Rows.callWith_type1 ?_ hs2 rfl
  rw [hs2]
  show wpAny _ _ (spliced ((false, eval e X.env) :: backTo pos2 (starEach [] X.env))) _ _ s
  refine Calls.spliced_cons (thn (he.run pins s σ H _ I hq) fun u s1 ⟨x, H1, I1, rx, q1⟩ => ?_)
  obtain ⟨a, xs, rfl, hL, q⟩ := q1
  obtain rfl : u = Value.ref a := rx
  obtain ⟨its, r, ht, hz⟩ := I1.list hL
  refine Calls.spliced_nil ?_
  refine call_enumerate_list ht.isList fun h' hE hI hsz hk => ?_
  refine Calls.spliced_nil ?_
  have I2 : Inv X pins σ H1 { s1 with heap := h' } := I1.kept (t' := s1.toks) hk
  have hL2 : h'.IsList a its.toArray := ht.isList.at fun o y => hk _ o y
  have la : a < s1.heap.objs.size := by obtain ⟨_, y, _⟩ := ht.isList; exact Heap.lt_size y
  have hlen := r.length
  refine call_list_enum (s := { s1 with heap := h' }) (A := X.A) (I1.ok.hd hc) (Nat.succ_ne_self _) (Nat.ne_of_lt (Nat.lt_succ_of_lt la)) (Nat.ne_of_lt la) (by rw [List.size_toArray]; omega) hE hI hL2 fun h2 tk acc c ts hk2 hS h1 hG hacc => ?_
  replace hk2 : ∀ b o, b ≠ s1.heap.objs.size + 1 → b ≠ s1.heap.objs.size → h'.get? b = some o → h2.get? b = some o := hk2
  replace hG : EnG its.toArray h'.objs.size h2 ts := hG
  replace hS : h2.get? h'.objs.size = some { cls := .type "list", dict := none, data := .seq acc c, slots := #[] } := hS
  show EP X pins σ Q (.ref h'.objs.size) { s1 with heap := h2, toks := tk }
  have hk3 : ∀ b o, s1.heap.get? b = some o → h2.get? b = some o := fun b o y => hk2 b o (Nat.ne_of_lt (Nat.lt_succ_of_lt (Heap.lt_size y))) (Nat.ne_of_lt (Heap.lt_size y)) (hk b o y)
  have lowS : s1.heap.objs.size ≤ h'.objs.size := by rw [hsz]; exact Nat.le_add_right _ _
  rw [List.size_toArray] at h1
  have hSn : h'.objs.size ∉ ts := fun z => Nat.lt_irrefl _ (hG.above _ z)
  have nd : ts.Nodup := List.Pairwise.imp (fun {a b} (h : a < b) => Nat.ne_of_lt h) hG.rise
  have new : ∀ t ∈ ts, H1 t = none := fun t ht => I1.hok.fresh (Nat.le_trans lowS (Nat.le_of_lt (hG.above t ht)))
  have newS : H1 h'.objs.size = none := I1.hok.fresh lowS
  have hl : ts.length = xs.length := by omega
  have atP := putE_at ts 0 xs (upd H1 h'.objs.size (.lst (ts.map V.ref))) hl nd
  have off : ∀ b, b ∉ ts → b ≠ h'.objs.size → putE (upd H1 h'.objs.size (.lst (ts.map V.ref))) ts 0 xs b = H1 b := fun b h1 h2 => by rw [putE_off ts 0 xs _ h1, upd_ne h2]
  have low : ∀ b o, s1.heap.get? b = some o → b ∉ ts ∧ b ≠ h'.objs.size := fun b o e => ⟨fun z => absurd (Heap.lt_size e) (Nat.not_lt.mpr (Nat.le_trans lowS (Nat.le_of_lt (hG.above b z)))), Nat.ne_of_lt (Nat.lt_of_lt_of_le (Heap.lt_size e) lowS)⟩
  have kp : ∀ b u, H1 b = some u → (putE (upd H1 h'.objs.size (.lst (ts.map V.ref))) ts 0 xs) b = some u := fun b u e => by
    rw [off b (fun z => by rw [new b z] at e; cases e) (fun z => by rw [z, newS] at e; cases e)]
    exact e
  have eS : putE (upd H1 h'.objs.size (.lst (ts.map V.ref))) ts 0 xs h'.objs.size = some (.lst (ts.map V.ref)) := by rw [putE_off ts 0 xs _ hSn, upd_same]
  refine ⟨.ref h'.objs.size, putE (upd H1 h'.objs.size (.lst (ts.map V.ref))) ts 0 xs, ?_, rfl, q _ _ ts kp newS hl eS fun j t x e1 e2 => by rw [atP j t x e1 e2, Nat.zero_add]⟩
  refine I1.call' (ch := []) rfl ⟨fun b o q _ _ _ => hk3 b o q, fun b o q _ _ _ => ⟨o.slots, hk3 b o q⟩, fun b o q n _ => ?_, fun b o q _ => ⟨o, hk3 b o q⟩, fun b xs q => kp b _ q, fun b o u q => kp b _ q, fun b ps q => ⟨#[], by rw [kp b _ q]; simp⟩⟩ (fun b u q => ?_) I1.bare fun b z => by simp at z
  · obtain ⟨z1, z2⟩ := low b o q
    rw [off b z1 z2]
    exact n
  · by_cases hb : b ∈ ts
    · obtain ⟨j, hj⟩ := List.mem_iff_getElem?.mp hb
      obtain ⟨t, x, f1, f2⟩ := hG.pairs j b hj
      rw [List.getElem?_toArray] at f1
      have hjl : j < xs.length := by
        have := (List.getElem?_eq_some_iff.mp hj).1
        omega
      have ex : xs[j]? = some xs[j] := List.getElem?_eq_getElem hjl
      obtain ⟨x', g1, g2⟩ := r.get ex
      rw [f1] at g1
      cases g1
      rw [atP j b _ hj ex, Nat.zero_add] at q
      cases q
      exact ⟨by show 2 ≤ sizeLine; decide, [.int j t, x], .cons ⟨t, rfl⟩ (.cons g2 .nil), ⟨_, f2, rfl, _, rfl⟩⟩
    · by_cases hb2 : b = h'.objs.size
      · rw [hb2] at q ⊢
        rw [eS] at q
        cases q
        refine ⟨by rw [List.length_map]; omega, acc.toList, c, by rw [hacc]; exact LiI.vals_refs ts, ?_⟩
        rw [Array.toArray_toList]
        exact hS
      · rw [off b hb hb2] at q
        exact (I1.hok b u q).stay (fun d v _ y => hk3 d v y) (fun d y => kp d _ y) fun d xs y => kp d _ y
end
end Lv

set_option Elab.async false
set_option linter.all false
set_option maxRecDepth 100000
set_option maxHeartbeats 2000000
namespace Lv
open PySem PySem.Spec PyProof.Rows L2 SX
/-! for i, c in enumerate(text) -/
/-- turn i: a new tuple whose items are told by Y -/
def ItT (n : Nat) (Y : Nat → List V → Prop) : It :=
  ⟨fun i _ => i < n, fun i H v H' => ∃ T xs, v = .ref T ∧ H T = none ∧ H' = upd H T (.tup xs) ∧ Y i xs, fun i _ => n ≤ i⟩
theorem turn_walksT {P : Program} {w : World} {K : PySem.W.Frag} {elts : List Expr} {kk : Nat} {tpos : Pos} {I : Addr} {fp wr : List Addr} {n : Nat} {Pt : Nat → Array Value → Prop} {St : Nat → Heap → Prop} {Mid : Nat → Addr → Heap → Prop} {Y : Nat → List V → Prop}
    (W : ∀ A : Around, A.handled = none → WalksT P w A I fp wr n Pt St Mid) (hI : I ∈ fp) (hobj : ∀ i h, St i h → ∀ b ∈ fp, ∃ o, h.get? b = some o ∧ ∀ v, o.data ≠ .cell v)
    (hY : ∀ i vals, i < n → Pt i vals → ∃ xs, Vals xs vals.toList ∧ xs.length ≤ sizeLine ∧ Y i xs) (hself : ∀ (A : Around) (i : Nat) (s : Shared) (Q : Value → Shared → Prop) (E : Value → Shared → Prop), St i s.heap → Q (.ref I) s → wpAny (model P w) A (pyIter (.ref I)) Q E s) :
    Turn P w K (.Tuple elts kk tpos) (ItT n Y) fp I (fun i h => St i h ∧ i ≤ n) where
  mem := hI
  obj := fun i h st b hb => hobj i h st.1 b hb
  keep := fun i h h' st k => ⟨(W {} rfl).frame i h h' st.1 k, st.2⟩
  item := by
    intro X hP hw hK hc i pins s σ H E I1 hf st hg
    subst hP hw hK
    have WA := W X.A (I1.ok.hd hc)
    refine WA.item i s _ _ hg st.1 fun T vals h' tk hp hT hTup hm hk => ?_
    refine ⟨_, rfl, WA.go elts kk tpos i T { s with heap := h', toks := tk } _ _ hm fun h2 st2 hk2 => ?_⟩
    replace hk2 : ∀ b o, b ∉ wr → h'.get? b = some o → h2.get? b = some o := hk2
    obtain ⟨xs, rv, hz, y⟩ := hY i vals hg hp
    have hTup2 : h2.IsTuple T vals := hTup.at fun o q => hk2 T o (WA.apart i T h' hm) q
    have new : ObjOk X.prog X.w (upd H T (.tup xs)) h2 T (.tup xs) := by
      refine ⟨hz, vals.toList, rv, ?_⟩
      rw [Array.toArray_toList]
      exact hTup2
    have I2 : Inv X pins σ (upd H T (.tup xs)) { s with heap := h2, toks := tk } :=
      I1.turnedNew (ch := fp) (fun b ob hb q => hk2 b ob (fun z => hb (WA.sub b z)) (hk b ob (fun z => hb (WA.sub b z)) q)) hf hT new
    refine ⟨.ref T, _, I2, rfl, ⟨T, xs, rfl, I1.hok.fresh hT, rfl, y⟩, ⟨st2, hg⟩, fun b hb => ?_⟩
    obtain ⟨o, ho, _⟩ := hobj i s.heap st.1 b hb
    rw [upd_ne (Nat.ne_of_lt (Nat.lt_of_lt_of_le (Heap.lt_size ho) hT))]
    exact (hf b hb).1
  done := by
    intro X hP hw hK hc i pins s σ H E I1 hf st hg
    subst hP hw hK
    have hin : i = n := Nat.le_antisymm st.2 hg
    subst hin
    have WA := W X.A (I1.ok.hd hc)
    refine WA.done s _ _ st.1 fun h' tk hk => ⟨rfl, ?_⟩
    have off : ∀ b o, H b = some o → b ∉ fp := fun b o q z => by rw [(hf b z).1] at q; cases q
    have hk' : ∀ b o, b ∉ fp → s.heap.get? b = some o → h'.get? b = some o := fun b o hb q => hk b o (fun z => hb (WA.sub b z)) q
    refine I1.call' (ch := fp) rfl ⟨fun b o q _ _ z => hk' b o z q, fun b o q _ _ z => ⟨o.slots, hk' b o z q⟩, fun b o q n _ => n, fun b o q z => ⟨o, hk' b o z q⟩, fun b xs q => q, fun b o u q => q, fun b ps q => ⟨#[], by rw [q]; simp⟩⟩ (fun b u q => ?_) I1.bare fun b z => ?_
    · refine (I1.hok b u q).stay (fun c v hc y => hk' c v ?_ y) (fun d y => y) fun d xs y => y
      rcases hc with rfl | hc
      · exact off _ _ q
      · exact off _ _ hc
    · obtain ⟨f0, f1, f2, f3, f4, f5⟩ := hf b z
      exact ⟨f3, f1, f4, f5⟩
  self := fun A i s Q E st h => hself A i s Q E st.1 h
/-- enumerate(text) -/
def iEnumS (ta : TA) : TI := fun σ H R => ta σ H fun vs H1 => ∃ l : List Nat, vs = [.str (S l)] ∧ R (ItT l.length fun i xs => ∃ c, l[i]? = some c ∧ xs = [.int (i : Nat), .str (S [c])]) H1
theorem pi_enumS {X : Cx} {e : Expr} {ta : TA} {p pos tpos : Pos} {elts : List Expr} {kk : Nat} (hg : Gl X "enumerate") (hm : X.mg "enumerate" = none) (ha : PA X [e] ta) (hs : starEach [e] X.env = [(false, eval e X.env)] := by rfl) :
    PI X (.Tuple elts kk tpos) (.Call (.Name "enumerate" p) [e] [] pos) (iEnumS ta) := by
  refine ⟨fun pins s σ H R I h => ?_⟩
  refine Call_ (ld_blt I hg hm boot_enumerate (PyProof.Rows.callWith_type1 (thn (ha.run pos pins s σ H _ I h) fun us s1 ⟨vs, H1, I1, r1, q1⟩ => ?_) hs rfl))
  obtain ⟨l, rfl, q⟩ := q1
  cases r1 with
  | cons r rr =>
    cases rr
    obtain ⟨t, rfl⟩ := r
    refine call_enumerate_str fun h' he hit hsz hk => wpAny_pyIter_enum he ?_
    have I2 : Inv X pins σ H1 { s1 with heap := h' } := I1.kept (t' := s1.toks) hk
    have hne : s1.heap.objs.size + 1 ≠ s1.heap.objs.size := Nat.succ_ne_self _
    have hef : s1.heap.objs.size + 1 ∉ [s1.heap.objs.size] := fun z => hne (List.mem_singleton.mp z)
    have T := turn_walksT (P := X.prog) (w := X.w) (K := X.K) (elts := elts) (kk := kk) (tpos := tpos) (n := (S l).cps.size) (Y := fun i xs => ∃ c, l[i]? = some c ∧ xs = [.int (i : Nat), .str (S [c])])
      (fun A hA => WalksT.enumFrom 0 (Draws.text (A := A.in1) hA s1.heap.objs.size (S l) t) (s1.heap.objs.size + 1) hne hef List.mem_cons_self) List.mem_cons_self ?_ ?_ ?_
    · have e2 : (S l).cps.size = l.length := by simp
      rw [e2] at T
      refine ⟨s1.heap.objs.size + 1, _, _, _, H1, rfl, I2, T, ⟨⟨⟨.none, by simpa using he⟩, hit⟩, Nat.zero_le _⟩, fun b hb => ?_, q⟩
      have e' : b = s1.heap.objs.size + 1 ∨ b = s1.heap.objs.size := by simpa using hb
      have hle : s1.heap.objs.size ≤ b := by
        rcases e' with z | z
        · rw [z]; exact Nat.le_add_right _ _
        · rw [z]; exact Nat.le_refl _
      exact I1.fpOk hle (I1.hok.fresh hle)
    · intro i h st b hb
      obtain ⟨⟨old, he⟩, ho⟩ := st
      have e' : b = s1.heap.objs.size + 1 ∨ b = s1.heap.objs.size := by simpa using hb
      rcases e' with z | z
      · rw [z]; exact ⟨_, he, fun v q => nomatch q⟩
      · obtain ⟨o, ho, hc, hd⟩ := ho
        rw [z]; exact ⟨o, ho, fun v q => by rw [hd] at q; cases q⟩
    · rintro i vals hi ⟨tt, x, ⟨c, u, hc, rfl⟩, rfl⟩
      refine ⟨[.int (i : Nat), .str (S [c])], .cons ⟨tt, by rw [Int.zero_add]⟩ (.cons ⟨u, rfl⟩ .nil), by show 2 ≤ sizeLine; decide, c, by simpa using hc, rfl⟩
    · intro A i s Q E st hq
      obtain ⟨⟨old, he⟩, _⟩ := st
      exact wpAny_pyIter_enum he hq
theorem walk_enumS {n : Nat} {Y : Nat → List V → Prop} : Walk (ItT n Y) n (fun _ => True) (fun i H v H' => ∃ T xs, v = .ref T ∧ H T = none ∧ H' = upd H T (.tup xs) ∧ Y i xs) :=
  ⟨fun _ _ hi _ => hi, fun _ _ => Nat.le_refl _, fun _ _ _ _ _ _ y => y⟩
/-- xs[i] read for xs[i] += e -/
theorem get_list {X : Cx} : PGet X (rIxL X.K) := by
  intro pins s σ H x y v u Q I rx ry h
  obtain ⟨p, xs, i, z, rfl, rfl, hq, he, q⟩ := h
  cases rx
  obtain ⟨t, rfl⟩ := ry
  obtain ⟨its, r, pl, hz⟩ := I.list hq
  obtain ⟨j, h1, h2, h3, h4, h5⟩ := atI_get he
  obtain ⟨w, ew, rw'⟩ := r.get h2
  have hl := r.length
  have hn := line63
  have fin : EP X pins σ Q w s := ⟨z, H, I, rw', q⟩
  by_cases h0 : 0 ≤ i
  · have hj : i.toNat = j := by
      rw [seqIndex_of h0 h5] at h1
      exact Option.some.inj h1
    exact wpAny_getItem_list pl.isList h0 (by omega) (by rw [hj]; simpa using ew) fin
  · have hj : (i + (its.toArray.size : Int)).toNat = j := by
      rw [seqIndex_neg (by omega) h4] at h1
      rw [List.size_toArray, ← hl]
      exact Option.some.inj h1
    exact wpAny_getItem_list_neg pl.isList (by omega) (by rw [List.size_toArray] <;> omega) (by omega) (by rw [hj]; simpa using ew) fin
end Lv

set_option Elab.async false
set_option linter.all false
set_option maxRecDepth 100000
set_option maxHeartbeats 2000000
namespace Lv
open PySem PySem.Spec PyProof.Rows L2 SX
/-! ints -/
abbrev rAdd : R2 := rI0 fun i j => .int (i + j)
abbrev rSub : R2 := rI0 fun i j => .int (i - j)
abbrev rMul : R2 := rI CMul fun i j => .int (i * j)
abbrev rDiv : R2 := rI CDiv fun i j => .int (i / j)
abbrev rMod : R2 := rI (fun _ j => 0 < j) fun i j => .int (i % j)
abbrev rPow : R2 := rI CPow fun i j => .int (i ^ j.toNat)
abbrev rLt : R2 := rI0 fun i j => .bl (decide (i < j))
abbrev rLe : R2 := rI0 fun i j => .bl (decide (i ≤ j))
abbrev rGt : R2 := rI0 fun i j => .bl (decide (j < i))
abbrev rGe : R2 := rI0 fun i j => .bl (decide (j ≤ i))
abbrev rEqI : R2 := rI0 fun i j => .bl (decide (i = j))
abbrev rNeI : R2 := rI0 fun i j => .bl (!decide (i = j))
abbrev rNeg : V → Hp → VK → Prop := rU fun i => .int (-i)
section
variable {X : Cx}
theorem op_eqI : OpR X (compareOp .Eq) rEqI := by
  intro pins s σ H x y v u Q I rx ry h
  obtain ⟨i, j, rfl, rfl, q⟩ := h
  refine op_eq pins s σ H _ _ v u Q I rx ry ⟨rfl, ?_⟩
  rw [show decide (V.int i = V.int j) = decide (i = j) by simp]
  exact q
theorem op_neI : OpR X (compareOp .NotEq) rNeI := by
  intro pins s σ H x y v u Q I rx ry h
  obtain ⟨i, j, rfl, rfl, q⟩ := h
  refine op_ne pins s σ H _ _ v u Q I rx ry ⟨rfl, ?_⟩
  rw [show decide (V.int i = V.int j) = decide (i = j) by simp]
  exact q
/-! texts -/
def r2S (g : List Nat → List Nat → V) : R2 := fun x y H Q => ∃ a b : List Nat, x = .str (S a) ∧ y = .str (S b) ∧ Q (g a b) H
def rAddS : R2 := fun x y H Q => ∃ a b : List Nat, x = .str (S a) ∧ y = .str (S b) ∧ a.length + b.length ≤ sizeLine ∧ Q (.str (S (a ++ b))) H
abbrev rEqS : R2 := r2S fun a b => .bl (decide (a = b))
abbrev rNeS : R2 := r2S fun a b => .bl (!decide (a = b))
abbrev rLtS : R2 := r2S fun a b => .bl (decide (a < b))
abbrev rLeS : R2 := r2S fun a b => .bl (!decide (b < a))
abbrev rGtS : R2 := r2S fun a b => .bl (decide (b < a))
abbrev rGeS : R2 := r2S fun a b => .bl (!decide (a < b))
def rMulS : R2 := fun x y H Q => ∃ (l : List Nat) (n : Int), x = .str (S l) ∧ y = .int n ∧ -(2 ^ 38) < n ∧ n < 2 ^ 38 ∧ l.length * n.toNat ≤ sizeLine ∧ Q (.str (S (List.replicate n.toNat l).flatten)) H
theorem op_mulS1 : OpR X (binaryOp .Mult) rMulS := op_mulS
theorem op_addS : OpR X (binaryOp .Add) rAddS := by
  intro pins s σ H x y v u Q I rx ry h
  obtain ⟨a, b, rfl, rfl, hz, q⟩ := h
  refine op_add_str pins s σ H _ _ v u Q I rx ry ⟨_, _, rfl, rfl, ?_, ?_⟩
  · rw [S_len, S_len]; exact hz
  · rw [S_cat]; exact q
theorem dec_S (a b : List Nat) : decide (V.str (S a) = V.str (S b)) = decide (a = b) := by
  by_cases h : a = b
  · subst h; simp
  · have : ¬ (V.str (S a) = V.str (S b)) := fun z => h (S_inj (V.str.inj z))
    rw [decide_eq_false h, decide_eq_false this]
theorem op_eqS : OpR X (compareOp .Eq) rEqS := by
  intro pins s σ H x y v u Q I rx ry h
  obtain ⟨a, b, rfl, rfl, q⟩ := h
  refine op_eq pins s σ H _ _ v u Q I rx ry ⟨rfl, ?_⟩
  rw [dec_S]
  exact q
theorem op_neS : OpR X (compareOp .NotEq) rNeS := by
  intro pins s σ H x y v u Q I rx ry h
  obtain ⟨a, b, rfl, rfl, q⟩ := h
  refine op_ne pins s σ H _ _ v u Q I rx ry ⟨rfl, ?_⟩
  rw [dec_S]
  exact q
theorem op_ltS : OpR X (compareOp .Lt) rLtS := by
  intro pins s σ H x y v u Q I rx ry h
  obtain ⟨a, b, rfl, rfl, q⟩ := h
  exact op_lt_str pins s σ H _ _ v u Q I rx ry ⟨_, _, rfl, rfl, q⟩
theorem op_leS : OpR X (compareOp .LtE) rLeS := by
  intro pins s σ H x y v u Q I rx ry h
  obtain ⟨a, b, rfl, rfl, q⟩ := h
  exact op_le_str pins s σ H _ _ v u Q I rx ry ⟨_, _, rfl, rfl, q⟩
theorem op_gtS : OpR X (compareOp .Gt) rGtS := by
  intro pins s σ H x y v u Q I rx ry h
  obtain ⟨a, b, rfl, rfl, q⟩ := h
  exact op_gt_str pins s σ H _ _ v u Q I rx ry ⟨_, _, rfl, rfl, q⟩
theorem op_geS : OpR X (compareOp .GtE) rGeS := by
  intro pins s σ H x y v u Q I rx ry h
  obtain ⟨a, b, rfl, rfl, q⟩ := h
  exact op_ge_str pins s σ H _ _ v u Q I rx ry ⟨_, _, rfl, rfl, q⟩
/-- one sign in a text -/
def rIn1 (neg : Bool) : R2 := fun x y H Q => ∃ (c : Nat) (l : List Nat), x = .str (S [c]) ∧ y = .str (S l) ∧ Q (.bl (if neg then !decide (c ∈ l) else decide (c ∈ l))) H
theorem op_in1 : OpR X (compareOp .In) (rIn1 false) := by
  intro pins s σ H x y v u Q I rx ry h
  obtain ⟨a, b, rfl, rfl, q⟩ := h
  exact op_in_sign pins s σ H _ _ v u Q I rx ry ⟨_, _, rfl, rfl, q⟩
theorem op_notIn1 : OpR X (compareOp .NotIn) (rIn1 true) := by
  intro pins s σ H x y v u Q I rx ry h
  obtain ⟨a, b, rfl, rfl, q⟩ := h
  exact op_notIn_sign pins s σ H _ _ v u Q I rx ry ⟨_, _, rfl, rfl, q⟩
def rIxT1 : R2 := fun x y H Q => ∃ (l : List Nat) (i : Int) (c : Nat), x = .str (S l) ∧ y = .int i ∧ l.length ≤ sizeLine ∧ atI l i = some c ∧ Q (.str (S [c])) H
theorem ix_S : IxR X rIxT1 := by
  intro value slice pins s σ H x y v u Q I rx ry h hs
  obtain ⟨l, i, c, rfl, rfl, hz, he, q⟩ := h
  exact ix_str value slice pins s σ H _ _ v u Q I rx ry ⟨_, _, c, rfl, rfl, by rw [S_len]; exact hz, he, q⟩ hs
def cutL {α : Type} (l : List α) (lo hi : Option Int) : List α := (l.drop (HT.sIx l.length 0 lo)).take (HT.sIx l.length l.length hi - HT.sIx l.length 0 lo)
def rSlS1 : V → Option Int → Option Int → Hp → VK → Prop := fun x lo hi H Q => ∃ l : List Nat, x = .str (S l) ∧ l.length ≤ sizeLine ∧ Q (.str (S (cutL l lo hi))) H
theorem sl_S : SlR X rSlS1 := by
  intro pins s σ H x v vl vu lo hi sl Q I rx hs pl pu h
  obtain ⟨l, rfl, hz, q⟩ := h
  refine sl_str pins s σ H _ v vl vu lo hi sl Q I rx hs pl pu ⟨_, rfl, by rw [S_len]; exact hz, ?_⟩
  have : cutS (S l) lo hi = S (cutL l lo hi) := by
    unfold cutS cutL
    rw [S_len]
  rw [this]
  exact q
def rLenT : List V → Hp → VK → Prop := fun xs H Q => ∃ l : List Nat, xs = [.str (S l)] ∧ l.length ≤ sizeLine ∧ Q (.int (l.length : Nat)) H
theorem call_lenT : CallR X (.builtin "len") rLenT := by
  intro pins s σ H xs us Q I r h
  obtain ⟨l, rfl, hz, q⟩ := h
  refine call_len_str pins s σ H _ us Q I r ⟨_, rfl, by rw [S_len]; exact hz, ?_⟩
  rw [S_len]
  exact q
abbrev rLenL (K : PySem.W.Frag) : List V → Hp → VK → Prop := fun xs H Q => ∃ p ys, xs = [.ref p] ∧ (SqL K H p ys ∨ SqT K H p ys) ∧ Q (.int ys.length) H
abbrev rListOf (K : PySem.W.Frag) : List V → Hp → VK → Prop := fun xs H Q => ∃ p ys, xs = [.ref p] ∧ (SqL K H p ys ∨ SqT K H p ys) ∧ ∀ l, H l = none → Q (.ref l) (upd H l (.lst ys))
/-- the least place from i on that has c -/
def nextP (l : List Nat) (i c : Nat) : Option Nat := ((l.drop i).idxOf? c).map (· + i)
def findI (l : List Nat) (i c : Nat) : Int := match nextP l i c with | some k => (k : Int) | none => -1
theorem idxOf?_some {l : List Nat} {c k : Nat} : l.idxOf? c = some k ↔ l[k]? = some c ∧ ∀ j, j < k → l[j]? ≠ some c := by
  induction l generalizing k with
  | nil => simp
  | cons a l ih =>
    rw [List.idxOf?_cons]
    by_cases h : (a == c) = true
    · rw [if_pos h]
      have e := eq_of_beq h
      subst e
      constructor
      · intro z
        have := Option.some.inj z
        subst this
        exact ⟨rfl, fun j hj => absurd hj (Nat.not_lt_zero _)⟩
      · rintro ⟨z1, z2⟩
        cases k with
        | zero => rfl
        | succ k => exact absurd rfl (z2 0 (Nat.succ_pos _))
    · rw [if_neg h]
      have hne : a ≠ c := fun e => h (beq_iff_eq.mpr e)
      cases k with
      | zero =>
        constructor
        · intro z
          cases e : l.idxOf? c with
          | none => rw [e] at z; cases z
          | some j => rw [e] at z; cases z
        · rintro ⟨z1, _⟩
          exact absurd (Option.some.inj z1) hne
      | succ k =>
        have : (Option.map (fun x => x + 1) (l.idxOf? c) = some (k + 1)) ↔ l.idxOf? c = some k := by
          cases e : l.idxOf? c with
          | none => simp
          | some j => simp
        rw [this, ih]
        constructor
        · rintro ⟨z1, z2⟩
          refine ⟨z1, fun j hj => ?_⟩
          cases j with
          | zero => exact fun z => hne (Option.some.inj z)
          | succ j => exact z2 j (by omega)
        · rintro ⟨z1, z2⟩
          exact ⟨z1, fun j hj => z2 (j + 1) (by omega)⟩
theorem idxOf?_none {l : List Nat} {c : Nat} : l.idxOf? c = none ↔ ∀ j : Nat, l[j]? ≠ some c := by
  constructor
  · intro h j hj
    have hm := List.mem_of_getElem? hj
    cases e : l.idxOf? c with
    | some k => rw [e] at h; cases h
    | none =>
      rw [List.idxOf?_eq_none_iff] at e
      exact e hm
  · intro h
    rw [List.idxOf?_eq_none_iff]
    intro hm
    obtain ⟨j, hj⟩ := List.mem_iff_getElem?.mp hm
    exact h j hj
theorem nextP_some {l : List Nat} {i c k : Nat} : nextP l i c = some k ↔ i ≤ k ∧ l[k]? = some c ∧ ∀ j, i ≤ j → j < k → l[j]? ≠ some c := by
  unfold nextP
  constructor
  · intro h
    cases e : (l.drop i).idxOf? c with
    | none => rw [e] at h; cases h
    | some m =>
      rw [e] at h
      have hk : m + i = k := Option.some.inj h
      obtain ⟨h1, h2⟩ := idxOf?_some.mp e
      rw [List.getElem?_drop] at h1
      refine ⟨by omega, ?_, fun j hj hjk => ?_⟩
      · rw [← hk, Nat.add_comm m i]; exact h1
      · have := h2 (j - i) (by omega)
        rw [List.getElem?_drop, show i + (j - i) = j by omega] at this
        exact this
  · rintro ⟨h1, h2, h3⟩
    have e : (l.drop i).idxOf? c = some (k - i) := by
      rw [idxOf?_some]
      refine ⟨?_, fun j hj => ?_⟩
      · rw [List.getElem?_drop, show i + (k - i) = k by omega]; exact h2
      · rw [List.getElem?_drop]; exact h3 (i + j) (by omega) (by omega)
    rw [e]
    show some (k - i + i) = some k
    rw [show k - i + i = k by omega]
theorem nextP_none {l : List Nat} {i c : Nat} : nextP l i c = none ↔ ∀ j, i ≤ j → l[j]? ≠ some c := by
  unfold nextP
  rw [Option.map_eq_none_iff, idxOf?_none]
  constructor
  · intro h j hj
    have := h (j - i)
    rw [List.getElem?_drop, show i + (j - i) = j by omega] at this
    exact this
  · intro h j
    rw [List.getElem?_drop]
    exact h (i + j) (by omega)
theorem find3_S (l : List Nat) (c i : Nat) (hi : i ≤ l.length) : Txt.find3 (S l) (S [c]) (i : Int) = findI l i c := by
  have e0 : fromIndex (S l).length (i : Int) = i := by
    rw [S_len]
    unfold fromIndex
    rw [if_neg (by omega)]
    omega
  have gd : ∀ (v x : Nat), v < l.length → ((S l).cps.getD v 0 = x ↔ l[v]? = some x) := fun v x hv => by
    have : (S l).cps.getD v 0 = l.getD v 0 := by simp
    rw [this, List.getD_eq_getElem?_getD, List.getElem?_eq_getElem hv]
    simp
  unfold findI
  rcases StrLaws.find3_spec (S l) c (i : Int) with ⟨h1, h2⟩ | ⟨k, h1, h2, h3, h4, h5⟩
  · rw [e0, S_len] at h2
    have : nextP l i c = none := nextP_none.mpr fun j hj z => by
      have hjl : j < l.length := (List.getElem?_eq_some_iff.mp z).1
      exact h2 j hj hjl ((gd j c hjl).mpr z)
    rw [this]
    exact h1
  · rw [e0] at h2 h5
    rw [S_len] at h3
    have : nextP l i c = some k := nextP_some.mpr ⟨h2, (gd k c h3).mp h4, fun j hj hjk z => h5 j hj hjk ((gd j c (by omega)).mpr z)⟩
    rw [this]
    exact h1
def rFind (x : V) (xs : List V) (H : Hp) (Q : VK) : Prop := ∃ (l : List Nat) (c i : Nat), x = .str (S l) ∧ xs = [.str (S [c]), .int (i : Int)] ∧ i ≤ l.length ∧ Q (.int (findI l i c)) H
theorem mt_findS : MtR X "str.find" rFind := by
  intro pins s σ H x xs v us Q I rx r h
  obtain ⟨l, c, i, rfl, rfl, hi, q⟩ := h
  refine mt_find3 pins s σ H _ _ v us Q I rx r ⟨_, _, _, rfl, rfl, ?_⟩
  have : Txt.find3 (S l) (S [c]) (i : Int) = findI l i c := find3_S l c i hi
  rw [this]
  exact q
def rJoin (K : PySem.W.Frag) : V → List V → Hp → VK → Prop := fun x xs H Q => ∃ (p : Addr) (a : List Nat) (ys : List (List Nat)), x = .str (S a) ∧ xs = [.ref p] ∧ SqL K H p (ys.map fun l => .str (S l)) ∧ (ys.map List.length).sum + ys.length * a.length ≤ 16777216 ∧ Q (.str (S (TL.joinL a ys))) H
theorem mt_joinS : MtR X "str.join" (rJoin X.K) := by
  intro pins s σ H x xs v us Q I rx r h
  obtain ⟨p, a, ys, rfl, rfl, hL, hz, q⟩ := h
  refine mt_join pins s σ H _ _ v us Q I rx r ⟨_, p, ys.map S, rfl, rfl, .inl ?_, ?_, ?_⟩
  · rw [List.map_map]; exact hL
  · rw [lens, List.length_map, S_len]; exact hz
  · rw [join_S]; exact q
end
end Lv
/-! isinstance of any thing, errors too -/
namespace Lv
open PySem PySem.Spec PyProof.Rows L2
/-- an error's object, of the class cls, at a -/
def CgO (cls : Value) (a : Addr) : HO := .ext fun h => ∃ (oe : Obj) (vs : Array Value), h.get? a = some oe ∧ Zc cls none oe ∧ oe.data = .fields vs
theorem cgO_ok {P : Program} {w : World} {H : Hp} {h : Heap} {a : Addr} {cls : Value} {oe : Obj} {vs : Array Value} (e : h.get? a = some oe) (z : Zc cls none oe) (d : oe.data = .fields vs) : ObjOk P w H h a (CgO cls a) :=
  ⟨⟨oe, vs, e, z, d⟩, ⟨oe, e⟩, fun _ _ q k => by
    obtain ⟨o, v, q1, q2⟩ := q
    exact ⟨o, v, k o q1, q2⟩⟩
/-- classes of errors that isinstance knows -/
inductive ExT (K : PySem.W.Frag) : Value → Prop where
  | own {D : Addr} (c : ExcC K D) : ExT K (.ref D)
  | ve : ExT K (.type "ValueError")
inductive Ty2 (K : PySem.W.Frag) (H : Hp) : V → Value → Prop where
  | of {x : V} {t : Value} (h : TyX K H x t) : Ty2 K H x t
  | exc {a : Addr} {t : Value} (e : H a = some (CgO t a)) (c : ExT K t) : Ty2 K H (.ref a) t
theorem kit_of2 {X : Cx} {pins : List (Addr × Obj)} {σ : L2.St} {H : Hp} {s : Shared} {x : V} {u t : Value} (I : Inv X pins σ H s) (rx : RelV x u) (ty : Ty2 X.K H x t) : ∃ P : Heap → Prop, PySem.W.KitX X.K u t P ∧ P s.heap ∧ u ≠ .builtin "__main__.__loader__#opaque" := by
  cases ty with
  | of h => exact kit_of I rx h
  | @exc a _ e c =>
    cases (show u = Value.ref a from rx)
    obtain ⟨⟨oe, vs, he, hz, hd⟩, _, _⟩ := I.hok a _ e
    cases c with
    | own c =>
      refine ⟨_, PySem.W.handS_kitx_exc c.hg c.hk c.hs c.hd c.ha c.hn c.ht c.hm (ox := oe), ?_, fun z => nomatch z⟩
      obtain ⟨oc, od, oda, osl⟩ := oe
      obtain ⟨z1, z2⟩ := hz
      dsimp only at z1 z2 hd
      subst z1 z2 hd
      exact ⟨he, rfl, rfl, trivial⟩
    | ve => exact ⟨_, PySem.W.kitx_bexc PySem.F.excAttr_ValueError PySem.F.lkClass_ValueError PySem.F.soClass_ValueError (by decide +kernel), ⟨oe, he, hz.1⟩, fun z => nomatch z⟩
/-- isinstance(x, c) -/
def rIs1 (K : PySem.W.Frag) : List V → Hp → VK → Prop := fun xs H Q => ∃ (x c : V) (t u : Value) (b : Bool), xs = [x, c] ∧ ClsV c u ∧ Ty2 K H x t ∧ PySem.W.kitOne K t u = some b ∧ Q (.bl b) H
/-- isinstance(x, (c1, c2, ..)) -/
def rIsT (K : PySem.W.Frag) : List V → Hp → VK → Prop := fun xs H Q => ∃ (x : V) (tp : Addr) (cs : List V) (t : Value) (us : List Value) (b : Bool), xs = [x, .ref tp] ∧ H tp = some (.tup cs) ∧ Paired ClsV cs us ∧ Ty2 K H x t ∧ PySem.W.kitAny K t us = some b ∧ Q (.bl b) H
theorem call_is1 {X : Cx} : CallR X (.builtin "isinstance") (rIs1 X.K) := fun pins s σ H xs us Q I r h => by
  obtain ⟨x, c, t, u, b, rfl, hc, ty, e, q⟩ := h
  obtain ⟨v1, v2, rfl, r1, r2⟩ := vals2 r
  cases hc.eq r2
  obtain ⟨P, Z, p, nx⟩ := kit_of2 I r1 ty
  exact PySem.W.kia_one Z I.kIn p e nx fun tk => ⟨.bl b, H, I.tok tk, rfl, q⟩
theorem call_isT {X : Cx} : CallR X (.builtin "isinstance") (rIsT X.K) := fun pins s σ H xs us Q I r h => by
  obtain ⟨x, tp, cs, t, ws, b, rfl, hT, hc, ty, e, q⟩ := h
  obtain ⟨v1, v2, rfl, r1, r2⟩ := vals2 r
  cases (show v2 = Value.ref tp from r2)
  obtain ⟨P, Z, p, nx⟩ := kit_of2 I r1 ty
  have T0 : ObjOk X.prog X.w H s.heap tp (.tup cs) := I.hok tp _ hT
  obtain ⟨_, its, rv, ⟨oc, od, dt, sl⟩, g1, g2, n, g3⟩ := T0
  cases ClsV.all hc rv
  dsimp only at g2 g3
  cases g2
  cases g3
  exact PySem.W.kia_tup Z I.kIn p g1 e nx fun tk => ⟨.bl b, H, I.tok tk, rfl, q⟩
end Lv

set_option Elab.async false
set_option linter.all false
set_option maxRecDepth 100000
set_option maxHeartbeats 2000000
namespace Lv
open PySem PySem.Spec PyProof.Rows L2 SX
/-! steps of a reading -/
section
variable {K : PySem.W.Frag} {D : Ends} {σ : L2.St} {H : Hp} {Q : VK} {t u : TS} {te ta tb tc : TE} {tt tu : TT} {targs tr : TA} {i : Nat} {v x y : V} {g : TG} {ti : TIp}
theorem i_seq (h : t { D with nx := u D } σ H) : tSeq t u D σ H := h
theorem i_next (h : D.nx σ H) : tNext D σ H := h
theorem i_set (h : te σ H fun x H1 => D.nx (σ.set i (some x)) H1) : tAsg te (gName i) D σ H := h
theorem i_asg (h : te σ H fun x H1 => g x σ H1 D.nx) : tAsg te g D σ H := h
theorem i_drop (h : te σ H fun _ H1 => D.nx σ H1) : tDrop te D σ H := h
theorem i_ret (h : te σ H D.rt) : tRet te D σ H := h
theorem i_if (h : tt σ H fun b H1 => if b = true then t D σ H1 else u D σ H1) : tIfS tt t u D σ H := h
theorem i_brk (h : D.bk σ H) : tBreak D σ H := h
theorem i_cont (h : D.ct σ H) : tCont D σ H := h
theorem i_aug (hx : σ[i]? = some (some x)) (h : te σ H fun y H1 => ti x y H1 fun z H2 => D.nx (σ.set i (some z)) H2) : tAug i te ti D σ H := ⟨x, hx, h⟩
theorem i_ipI {f : Int → Int → Int} {a b : Int} (h : Q (.int (f a b)) H) : ipI f (.int a) (.int b) H Q := ⟨a, b, rfl, rfl, h⟩
theorem i_var (hv : σ[i]? = some (some v)) (h : Q v H) : tVar i σ H Q := ⟨v, hv, h⟩
theorem i_c (h : Q v H) : tC v σ H Q := h
theorem i_op {r : R2} (h : ta σ H fun x H1 => tb σ H1 fun y H2 => r x y H2 Q) : tOp r ta tb σ H Q := h
theorem i_un {r : V → Hp → VK → Prop} (h : ta σ H fun x H1 => r x H1 Q) : tUn r ta σ H Q := h
theorem i_cb {r : List V → Hp → VK → Prop} (h : targs σ H fun vs H1 => r vs H1 Q) : tCB r targs σ H Q := h
theorem i_call {sp : Sp} {dvs : List V} {E : XK} (h : targs σ H fun vs H1 => sp (vs ++ dvs) H1 Q E) : tCall sp dvs E targs σ H Q := h
theorem i_nil {QA : List V → Hp → Prop} (h : QA [] H) : tNil σ H QA := h
theorem i_cons {QA : List V → Hp → Prop} (h : ta σ H fun x H1 => tr σ H1 fun xs H2 => QA (x :: xs) H2) : tCons ta tr σ H QA := h
theorem i_lst (h : targs σ H fun xs H1 => xs.length ≤ sizeLine ∧ ∀ p, H1 p = none → Q (.ref p) (upd H1 p (.lst xs))) : tLst targs σ H Q := h
theorem i_tup (h : targs σ H fun xs H1 => xs.length ≤ sizeLine ∧ ∀ p, H1 p = none → Q (.ref p) (upd H1 p (.tup xs))) : tTup targs σ H Q := h
theorem i_bm {T : String} {r : V → List V → Hp → VK → Prop} (h : te σ H fun x H1 => tyV K T x H1 ∧ targs σ H1 fun xs H2 => r x xs H2 Q) : tBM K T r te targs σ H Q := h
theorem i_bm0 {T : String} {r : V → List V → Hp → VK → Prop} (h : te σ H fun x H1 => tyV K T x H1 ∧ r x [] H1 Q) : tBM0 K T r te σ H Q := h
theorem i_tyS {z : Str} {P : Prop} (h : P) : tyV K "str" (.str z) H ∧ P := ⟨rfl, h⟩
theorem i_sl {r : V → Option Int → Option Int → Hp → VK → Prop} {tl th : TO} (h : te σ H fun x H1 => tl σ H1 fun l H2 => th σ H2 fun u H3 => r x l u H3 Q) : tSl r te tl th σ H Q := h
theorem i_noPart {QO : Option Int → Hp → Prop} (h : QO none H) : tNoPart σ H QO := h
theorem i_part {QO : Option Int → Hp → Prop} (h : te σ H fun x H1 => ∃ i, x = .int i ∧ QO (some i) H1) : tPart te σ H QO := h
theorem i_exI {P : Int → Prop} {n : Int} (h : P n) : ∃ i, V.int n = .int i ∧ P i := ⟨n, rfl, h⟩
theorem i_bl {b : Bool} {P : Bool → Prop} (h : P b) : ∃ k, V.bl b = .bl k ∧ P k := ⟨b, rfl, h⟩
theorem i_test {QB : Bool → Hp → Prop} (h : te σ H fun x H' => ∃ k, x = .bl k ∧ QB k H') : tTest te σ H QB := h
theorem i_tB {QB : Bool → Hp → Prop} (h : te σ H fun x H' => ∃ k, x = .bl k ∧ QB k H') : tB te σ H QB := h
theorem i_not {QB : Bool → Hp → Prop} (h : tt σ H fun c H1 => QB (!c) H1) : tNot tt σ H QB := h
theorem i_and {QB : Bool → Hp → Prop} (h : tt σ H fun c H1 => if c = true then tu σ H1 QB else QB false H1) : tAnd tt tu σ H QB := h
theorem i_or {QB : Bool → Hp → Prop} (h : tt σ H fun c H1 => if c = true then QB true H1 else tu σ H1 QB) : tOr tt tu σ H QB := h
theorem i_andV (h : ta σ H fun x H1 => ∃ c, x = .bl c ∧ if c = true then tb σ H1 Q else Q (.bl false) H1) : tAndV ta tb σ H Q := h
theorem i_orV (h : ta σ H fun x H1 => ∃ c, x = .bl c ∧ if c = true then Q (.bl true) H1 else tb σ H1 Q) : tOrV ta tb σ H Q := h
theorem i_notV (h : ta σ H fun x H1 => ∃ c, x = .bl c ∧ Q (.bl (!c)) H1) : tNotV ta σ H Q := h
theorem i_ifE (h : tt σ H fun c H1 => if c = true then ta σ H1 Q else tb σ H1 Q) : tIf tt ta tb σ H Q := h
theorem i_rI0 {f : Int → Int → V} {a b : Int} (h : Q (f a b) H) : rI0 f (.int a) (.int b) H Q := ⟨a, b, rfl, rfl, h⟩
theorem i_rI {C : Int → Int → Prop} {f : Int → Int → V} {a b : Int} (hc : C a b) (h : Q (f a b) H) : rI C f (.int a) (.int b) H Q := ⟨a, b, rfl, rfl, hc, h⟩
theorem i_rU {f : Int → V} {a : Int} (h : Q (f a) H) : rU f (.int a) H Q := ⟨a, rfl, h⟩
theorem i_r2S {f : List Nat → List Nat → V} {a b : List Nat} (h : Q (f a b) H) : r2S f (.str (S a)) (.str (S b)) H Q := ⟨a, b, rfl, rfl, h⟩
theorem i_in1 {c : Nat} {l : List Nat} (h : Q (.bl (decide (c ∈ l))) H) : rIn1 false (.str (S [c])) (.str (S l)) H Q := ⟨c, l, rfl, rfl, h⟩
theorem i_notIn1 {c : Nat} {l : List Nat} (h : Q (.bl (!decide (c ∈ l))) H) : rIn1 true (.str (S [c])) (.str (S l)) H Q := ⟨c, l, rfl, rfl, h⟩
theorem i_addS {a b : List Nat} (hz : a.length + b.length ≤ sizeLine) (h : Q (.str (S (a ++ b))) H) : rAddS (.str (S a)) (.str (S b)) H Q := ⟨a, b, rfl, rfl, hz, h⟩
theorem i_mulS {l : List Nat} {n : Int} (h0 : -(2 ^ 38) < n) (h1 : n < 2 ^ 38) (hz : l.length * n.toNat ≤ sizeLine) (h : Q (.str (S (List.replicate n.toNat l).flatten)) H) : rMulS (.str (S l)) (.int n) H Q := ⟨l, n, rfl, rfl, h0, h1, hz, h⟩
theorem i_ixS {l : List Nat} {n : Int} {c : Nat} (hz : l.length ≤ sizeLine) (hc : atI l n = some c) (h : Q (.str (S [c])) H) : rIxT1 (.str (S l)) (.int n) H Q := ⟨l, n, c, rfl, rfl, hz, hc, h⟩
theorem i_slS {l : List Nat} {lo hi : Option Int} (hz : l.length ≤ sizeLine) (h : Q (.str (S (cutL l lo hi))) H) : rSlS1 (.str (S l)) lo hi H Q := ⟨l, rfl, hz, h⟩
theorem i_revS {R : List Nat → Prop} {l : List Nat} (hz : l.length ≤ sizeLine) (h : R l) : (∃ l' : List Nat, V.str (S l) = .str (S l') ∧ l'.length ≤ sizeLine ∧ R l') := ⟨l, rfl, hz, h⟩
theorem i_tRevS (h : te σ H fun x H1 => ∃ l : List Nat, x = .str (S l) ∧ l.length ≤ sizeLine ∧ Q (.str (S l.reverse)) H1) : tRevS te σ H Q := h
theorem i_lenT {l : List Nat} (hz : l.length ≤ sizeLine) (h : Q (.int (l.length : Nat)) H) : rLenT [.str (S l)] H Q := ⟨l, rfl, hz, h⟩
theorem i_find {l : List Nat} {c j : Nat} (hj : j ≤ l.length) (h : Q (.int (findI l j c)) H) : rFind (.str (S l)) [.str (S [c]), .int (j : Int)] H Q := ⟨l, c, j, rfl, rfl, hj, h⟩
theorem i_ixL {p : Addr} {xs : List V} {n : Int} (hp : SqL K H p xs) (hn : atI xs n = some v) (h : Q v H) : rIxL K (.ref p) (.int n) H Q := ⟨p, xs, n, v, rfl, rfl, hp, hn, h⟩
theorem i_ixU {p : Addr} {xs : List V} {n : Int} (hp : SqT K H p xs) (hn : atI xs n = some v) (h : Q v H) : rIxT K (.ref p) (.int n) H Q := ⟨p, xs, n, v, rfl, rfl, hp, hn, h⟩
end
theorem if_dec {p : Prop} [Decidable p] {A B : Prop} (h1 : p → A) (h2 : ¬ p → B) : if decide p = true then A else B := by
  by_cases h : p
  · rw [decide_eq_true h, if_pos rfl]; exact h1 h
  · rw [decide_eq_false h, if_neg Bool.false_ne_true]; exact h2 h
theorem if_ndec {p : Prop} [Decidable p] {A B : Prop} (h1 : ¬ p → A) (h2 : p → B) : if (!decide p) = true then A else B := by
  by_cases h : p
  · rw [decide_eq_true h]; exact iteF (h2 h)
  · rw [decide_eq_false h]; exact iteT (h1 h)
theorem if_yes {p : Prop} [Decidable p] {A B : Prop} (hp : p) (h1 : A) : if decide p = true then A else B := by
  rw [decide_eq_true hp, if_pos rfl]; exact h1
theorem if_no {p : Prop} [Decidable p] {A B : Prop} (hp : ¬ p) (h1 : B) : if decide p = true then A else B := by
  rw [decide_eq_false hp, if_neg Bool.false_ne_true]; exact h1
theorem le_line {n : Nat} (h : n ≤ 1000000) : n ≤ sizeLine := Nat.le_trans h (by decide)
theorem lt_line {n : Nat} (h : n ≤ 1000000) : n < sizeLine := Nat.lt_of_le_of_lt h (by decide)
/-! heaps -/
/-- all but what stands at h is as it was -/
def But (h : Addr) (H H' : Hp) : Prop := ∀ b o, b ≠ h → H b = some o → H' b = some o
theorem But.refl (h : Addr) (H : Hp) : But h H H := fun _ _ _ q => q
theorem But.trans {h : Addr} {H H1 H2 : Hp} (a : But h H H1) (b : But h H1 H2) : But h H H2 := fun c o n q => b c o n (a c o n q)
theorem _root_.L2.Same.but {h : Addr} {H H' : Hp} (a : Same H H') : But h H H' := fun c o _ q => a c o q
theorem But.same {h : Addr} {H H' : Hp} (a : But h H H') (n : H h = none) : Same H H' := fun c o q => a c o (ne_of_none q n) q
theorem But.upd {h : Addr} {H : Hp} {o : HO} : But h H (L2.upd H h o) := fun c o' n q => by rw [upd_ne n]; exact q
theorem same_new {H : Hp} {p : Addr} {o : HO} (n : H p = none) : Same H (upd H p o) := fun c o' q => by rw [upd_ne (ne_of_none q n)]; exact q
theorem But.seq {K : PySem.W.Frag} {h : Addr} {H H' : Hp} {a : Addr} {xs : List V} (e : But h H H') (n : a ≠ h) (q : SqL K H a xs) : SqL K H' a xs := by
  rcases q with (q | ⟨o, q⟩) | q
  · exact .inl (.inl (e _ _ n q))
  · exact .inl (.inr ⟨o, e _ _ n q⟩)
  · exact .inr q
theorem _root_.L2.Same.tup {K : PySem.W.Frag} {H H' : Hp} {a : Addr} {xs : List V} (e : Same H H') (q : SqT K H a xs) : SqT K H' a xs := by
  rcases q with (q | ⟨o, q⟩) | q
  · exact .inl (.inl (e _ _ q))
  · exact .inl (.inr ⟨o, e _ _ q⟩)
  · exact .inr q
theorem SqL.of1 {K : PySem.W.Frag} {H : Hp} {a : Addr} {xs : List V} (h : H a = some (.lst xs)) : SqL K H a xs := .inl (.inl h)
theorem SqT.of1 {K : PySem.W.Frag} {H : Hp} {a : Addr} {xs : List V} (h : H a = some (.tup xs)) : SqT K H a xs := .inl (.inl h)
/-- the hand: two whole numbers -/
def Hd (H : Hp) (h : Addr) : Prop := ∃ d m : Int, H h = some (.lst [.int d, .int m]) ∧ 0 ≤ d ∧ 0 ≤ m ∧ m < 2147483648
theorem Hd.same {H H' : Hp} {h : Addr} (e : Same H H') (x : Hd H h) : Hd H' h := by
  obtain ⟨d, m, a, b⟩ := x
  exact ⟨d, m, e _ _ a, b⟩

/-! int(truth), truths, lists of ints compared -/
def rIntB : List V → Hp → VK → Prop := fun xs H Q => ∃ k : Bool, xs = [.bl k] ∧ Q (.int (if k = true then 1 else 0)) H
theorem call_intB {X : Cx} : CallR X (.type "int") rIntB := by
  intro pins s σ H xs us Q I r h
  exact call_int1 pins s σ H xs us Q I r (.inr h)
theorem i_intB {H : Hp} {Q : VK} {k : Bool} (h : Q (.int (if k = true then 1 else 0)) H) : rIntB [.bl k] H Q := ⟨k, rfl, h⟩
def r2B (g : Bool → Bool → Bool) : R2 := fun x y H Q => ∃ a b : Bool, x = .bl a ∧ y = .bl b ∧ Q (.bl (g a b)) H
abbrev rEqB : R2 := r2B fun a b => decide (a = b)
abbrev rNeB : R2 := r2B fun a b => !decide (a = b)
theorem i_r2B {g : Bool → Bool → Bool} {a b : Bool} {H : Hp} {Q : VK} (h : Q (.bl (g a b)) H) : r2B g (.bl a) (.bl b) H Q := ⟨a, b, rfl, rfl, h⟩
section
variable {X : Cx}
theorem op_eqB : OpR X (compareOp .Eq) rEqB := by
  intro pins s σ H x y v u Q I rx ry h
  obtain ⟨i, j, rfl, rfl, q⟩ := h
  refine op_eq pins s σ H _ _ v u Q I rx ry ⟨rfl, ?_⟩
  rw [show decide (V.bl i = V.bl j) = decide (i = j) by simp]
  exact q
theorem op_neB : OpR X (compareOp .NotEq) rNeB := by
  intro pins s σ H x y v u Q I rx ry h
  obtain ⟨i, j, rfl, rfl, q⟩ := h
  refine op_ne pins s σ H _ _ v u Q I rx ry ⟨rfl, ?_⟩
  rw [show decide (V.bl i = V.bl j) = decide (i = j) by simp]
  exact q
theorem op_isB : OpR X (compareOp .Is) rEqB := by
  intro pins s σ H x y v u Q I rx ry h
  obtain ⟨i, j, rfl, rfl, q⟩ := h
  exact op_isBl pins s σ H _ _ v u Q I rx ry ⟨_, _, rfl, rfl, q⟩
theorem op_isNotB : OpR X (compareOp .IsNot) rNeB := by
  intro pins s σ H x y v u Q I rx ry h
  obtain ⟨i, j, rfl, rfl, q⟩ := h
  exact op_notBl pins s σ H _ _ v u Q I rx ry ⟨_, _, rfl, rfl, q⟩
theorem dp_ints {K : PySem.W.Frag} {H : Hp} : ∀ ns : List Int, DpAll K H (ns.map V.int) (ns.map PyData.int)
  | [] => .nil
  | n :: ns => .cons (.int n) (dp_ints ns)
theorem lay_ints : ∀ ns : List Int, PyData.canLayAll0 (ns.map PyData.int) = true
  | [] => by simp [PyData.canLayAll0]
  | n :: ns => by simp [PyData.canLayAll0, PyData.canLay0, lay_ints ns]
theorem depth_ints : ∀ ns : List Int, PyData.depthAll (ns.map PyData.int) = 0
  | [] => by simp [PyData.depthAll]
  | n :: ns => by simp [PyData.depthAll, PyData.depth, depth_ints ns]
theorem shaped_ints (ns : List Int) : SeqAt.shaped (.list (ns.map PyData.int)) = true := by
  unfold SeqAt.shaped
  rw [PyData.canLay0, lay_ints, PyData.depth, depth_ints]
  rfl
theorem eqv_ints : ∀ ns ms : List Int, PyData.eqvAll (ns.map PyData.int) (ms.map PyData.int) = decide (ns = ms)
  | [], [] => by simp [PyData.eqvAll]
  | [], _ :: _ => by simp [PyData.eqvAll]
  | _ :: _, [] => by simp [PyData.eqvAll]
  | n :: ns, m :: ms => by
    simp only [List.map_cons, PyData.eqvAll, PyData.eqv, eqv_ints ns ms, List.cons.injEq]
    by_cases h : n = m
    · subst h; simp
    · simp [h]
def r2L (K : PySem.W.Frag) (g : List Int → List Int → Bool) : R2 := fun x y H Q => ∃ (p q : Addr) (ns ms : List Int), x = .ref p ∧ y = .ref q ∧ SqL K H p (ns.map V.int) ∧ SqL K H q (ms.map V.int) ∧ Q (.bl (g ns ms)) H
abbrev rEqL (K : PySem.W.Frag) : R2 := r2L K fun a b => decide (a = b)
abbrev rNeL (K : PySem.W.Frag) : R2 := r2L K fun a b => !decide (a = b)
theorem op_eqL (hu : X.A.units + 64 < cLine) : OpR X (compareOp .Eq) (rEqL X.K) := by
  intro pins s σ H x y v u Q I rx ry h
  obtain ⟨p, q, ns, ms, rfl, rfl, h1, h2, k⟩ := h
  refine op_eqD hu pins s σ H _ _ v u Q I rx ry ⟨_, _, .lst h1 (dp_ints ns), .lst h2 (dp_ints ms), shaped_ints ns, shaped_ints ms, ?_⟩
  rw [PyData.eqv, eqv_ints]
  exact k
theorem op_neL (hu : X.A.units + 64 < cLine) : OpR X (compareOp .NotEq) (rNeL X.K) := by
  intro pins s σ H x y v u Q I rx ry h
  obtain ⟨p, q, ns, ms, rfl, rfl, h1, h2, k⟩ := h
  refine op_neD hu pins s σ H _ _ v u Q I rx ry ⟨_, _, .lst h1 (dp_ints ns), .lst h2 (dp_ints ms), shaped_ints ns, shaped_ints ms, ?_⟩
  rw [PyData.eqv, eqv_ints]
  exact k
end
theorem i_r2L {K : PySem.W.Frag} {g : List Int → List Int → Bool} {p q : Addr} {ns ms : List Int} {H : Hp} {Q : VK} (h1 : SqL K H p (ns.map V.int)) (h2 : SqL K H q (ms.map V.int)) (h : Q (.bl (g ns ms)) H) : r2L K g (.ref p) (.ref q) H Q := ⟨p, q, ns, ms, rfl, rfl, h1, h2, h⟩
section
variable {K : PySem.W.Frag} {H : Hp} {Q : VK}
theorem i_isi_int_int {n : Int} (q : Q (.bl true) H) : rIs1 K [.int n, .ty "int"] H Q := ⟨_, _, _, _, true, rfl, .ty _, .of <| .base (.int n), kit_ty (by decide +kernel), q⟩
theorem i_isi_int_bool {n : Int} (q : Q (.bl false) H) : rIs1 K [.int n, .ty "bool"] H Q := ⟨_, _, _, _, false, rfl, .ty _, .of <| .base (.int n), kit_ty (by decide +kernel), q⟩
theorem i_isi_bl_bool {b : Bool} (q : Q (.bl true) H) : rIs1 K [.bl b, .ty "bool"] H Q := ⟨_, _, _, _, true, rfl, .ty _, .of <| .base (.bl b), kit_ty (by decide +kernel), q⟩
end
section
variable {K : PySem.W.Frag} {σ : L2.St} {H : Hp} {v : V} {R : L2.St → Hp → Prop} {t : TG} {u : TGs}
theorem i_gSub {to ti : TE} {ts : TSet} (h : to σ H fun o H1 => ti σ H1 fun i H2 => ts o i v H2 fun H3 => R σ H3) : gSub to ti ts v σ H R := h
theorem i_setL {p : Addr} {xs : List V} {n : Int} {j : Nat} {P : Hp → Prop} (hp : H p = some (.lst xs)) (hj : ixN xs.length n = some j) (h : P (upd H p (.lst (xs.set j v)))) : rSetL (.ref p) (.int n) v H P := ⟨p, xs, n, j, rfl, rfl, hp, hj, h⟩
theorem i_gName {i : Nat} (h : R (σ.set i (some v)) H) : gName i v σ H R := h
theorem i_gTup {a : Addr} {xs : List V} {n : Nat} (ha : SqT K H a xs) (hn : xs.length = n) (h : u xs σ H R) : gTup K n u (.ref a) σ H R := ⟨a, xs, rfl, ha, hn, h⟩
theorem i_gCons {r : List V} (h : t v σ H fun σ' H' => u r σ' H' R) : gCons t u (v :: r) σ H R := ⟨v, r, rfl, h⟩
theorem i_gNil (h : R σ H) : gNil [] σ H R := ⟨rfl, h⟩
theorem i_par {i j : Nat} {ta : TA} {D : Ends} (h : ta σ H fun vs H1 => ∃ v w, vs = [v, w] ∧ D.nx ((σ.set i (some v)).set j (some w)) H1) : tPar i j ta D σ H := h
end
theorem i_app {l : Addr} {xs : List V} {y : V} {H : Hp} {Q : VK} (hl : H l = some (.lst xs)) (hz : xs.length < sizeLine) (h : Q .non (upd H l (.lst (xs ++ [y])))) : rAppend (.ref l) [y] H Q := ⟨l, xs, y, rfl, rfl, hl, hz, h⟩
theorem i_tyL {K : PySem.W.Frag} {H : Hp} {l : Addr} {xs : List V} {P : Prop} (hl : SqL K H l xs) (h : P) : tyV K "list" (.ref l) H ∧ P := ⟨.inl ⟨rfl, xs, hl⟩, h⟩
theorem i_cat {l b : Addr} {xs zs : List V} {H : Hp} {Q : VK} (h1 : H l = some (.lst xs)) (h2 : H b = some (.lst zs)) (hz : xs.length + zs.length ≤ sizeLine) (h : ∀ p, H p = none → Q (.ref p) (upd H p (.lst (xs ++ zs)))) : rCat (.ref l) (.ref b) H Q := ⟨l, b, xs, zs, rfl, rfl, h1, h2, hz, h⟩
theorem i_rep {l : Addr} {k : Int} {xs : List V} {H : Hp} {Q : VK} (h1 : H l = some (.lst xs)) (k0 : -(2 ^ 63) ≤ k) (k1 : k < 2 ^ 63) (hz : xs.length * k.toNat ≤ sizeLine) (h : ∀ p, H p = none → Q (.ref p) (upd H p (.lst (List.replicate k.toNat xs).flatten))) : rRep (.ref l) (.int k) H Q := ⟨l, k, xs, rfl, rfl, h1, k0, k1, hz, h⟩
theorem i_slL {K : PySem.W.Frag} {a : Addr} {xs : List V} {lo hi : Option Int} {H : Hp} {Q : VK} (h1 : SqL K H a xs) (h : ∀ p, H p = none → Q (.ref p) (upd H p (.lst (cutV xs lo hi)))) : rSlL K (.ref a) lo hi H Q := ⟨a, xs, rfl, h1, h⟩
theorem i_lenL {K : PySem.W.Frag} {a : Addr} {xs : List V} {H : Hp} {Q : VK} (h1 : SqL K H a xs) (h : Q (.int (xs.length : Nat)) H) : rLenL K [.ref a] H Q := ⟨a, xs, rfl, .inl h1, h⟩
theorem i_listOf {K : PySem.W.Frag} {a : Addr} {xs : List V} {H : Hp} {Q : VK} (h1 : SqL K H a xs) (h : ∀ l, H l = none → Q (.ref l) (upd H l (.lst xs))) : rListOf K [.ref a] H Q := ⟨a, xs, rfl, .inl h1, h⟩
theorem i_sum {K : PySem.W.Frag} {a : Addr} {ns : List Int} {H : Hp} {Q : VK} (h1 : SqL K H a (ns.map V.int)) (h : Q (.int ns.sum) H) : rSum K [.ref a] H Q := ⟨a, ns, rfl, h1, h⟩
theorem i_join {K : PySem.W.Frag} {p : Addr} {a : List Nat} {ys : List (List Nat)} {H : Hp} {Q : VK} (h1 : SqL K H p (ys.map fun l => .str (S l))) (hz : (ys.map List.length).sum + ys.length * a.length ≤ 16777216) (h : Q (.str (S (TL.joinL a ys))) H) : rJoin K (.str (S a)) [.ref p] H Q := ⟨p, a, ys, rfl, rfl, h1, hz, h⟩
theorem i_listEn {K : PySem.W.Frag} {te : TE} {σ : L2.St} {H : Hp} {Q : VK} (h : te σ H fun x H1 => rListEn K x H1 Q) : tListEn K te σ H Q := h
theorem i_rng1 {ta : TA} {σ : L2.St} {H : Hp} {R : It → Hp → Prop} (h : ta σ H fun vs H1 => ∃ j : Int, vs = [.int j] ∧ -(2 ^ 62) ≤ j ∧ j < 2 ^ 62 ∧ R (Itr 0 j.toNat) H1) : iRng1 ta σ H R := h
theorem i_rng1x {n : Int} {H : Hp} {R : It → Hp → Prop} (h0 : -(2 ^ 62) ≤ n) (h1 : n < 2 ^ 62) (h : R (Itr 0 n.toNat) H) : ∃ j : Int, [V.int n] = [.int j] ∧ -(2 ^ 62) ≤ j ∧ j < 2 ^ 62 ∧ R (Itr 0 j.toNat) H := ⟨n, rfl, h0, h1, h⟩
theorem cutV_map {α : Type} (f : α → V) (l : List α) (lo hi : Option Int) : cutV (l.map f) lo hi = (cutL l lo hi).map f := by
  unfold cutV cutL
  rw [List.length_map, List.map_take, List.map_drop]
theorem cutL_length {α : Type} (l : List α) (lo hi : Option Int) : (cutL l lo hi).length ≤ l.length := by
  unfold cutL
  rw [List.length_take, List.length_drop]
  omega
theorem cutL_to {α : Type} (l : List α) (n : Nat) : cutL l none (some (n : Int)) = l.take n := by
  unfold cutL
  rw [HT.sIx_nat, HT.sIx_none, List.drop_zero, Nat.sub_zero]
  by_cases h : n ≤ l.length
  · rw [Nat.min_eq_left h]
  · rw [Nat.min_eq_right (by omega), List.take_of_length_le (Nat.le_refl _), List.take_of_length_le (by omega)]
theorem cutL_from {α : Type} (l : List α) (n : Nat) : cutL l (some (n : Int)) none = l.drop n := by
  unfold cutL
  rw [HT.sIx_nat, HT.sIx_none]
  by_cases h : n ≤ l.length
  · rw [Nat.min_eq_left h, List.take_of_length_le (by rw [List.length_drop]; exact Nat.le_refl _)]
  · rw [Nat.min_eq_right (by omega), List.drop_of_length_le (Nat.le_refl _), List.drop_of_length_le (by omega), List.take_nil]
end Lv

set_option Elab.async false
set_option linter.all false
set_option maxRecDepth 100000
set_option maxHeartbeats 2000000
namespace Lv
open PySem PySem.Spec PyProof.Rows L2 SX
/-! more of heaps -/
theorem But.updN {h D : Addr} {H1 H : Hp} {o : HO} (e : But h H1 H) (n : H1 D = none) : But h H1 (L2.upd H D o) := fun b u nb q => by
  rw [upd_ne (ne_of_none q n)]
  exact e b u nb q
theorem But.at {h : Addr} {H1 H : Hp} {b : Addr} {o : HO} (e : But h H1 H) (q : H1 b = some o) (n : b ≠ h) : H b = some o := e b o n q
theorem _root_.L2.Same.updN {D : Addr} {H1 H : Hp} {o : HO} (e : Same H1 H) (n : H1 D = none) : Same H1 (L2.upd H D o) := fun b u q => by
  rw [upd_ne (ne_of_none q n)]
  exact e b u q
theorem Hd.updN {h D : Addr} {H : Hp} {o : HO} (x : Hd H h) (n : h ≠ D) : Hd (L2.upd H D o) h := by
  obtain ⟨d, m, a, b⟩ := x
  exact ⟨d, m, by rw [upd_ne n]; exact a, b⟩
theorem Hd.ne {h D : Addr} {H : Hp} (x : Hd H h) (n : H D = none) : h ≠ D := by
  obtain ⟨d, m, a, b⟩ := x
  exact ne_of_none a n
theorem Hd.is {h : Addr} {H : Hp} (x : Hd H h) : ∃ o, H h = some o := by
  obtain ⟨d, m, a, b⟩ := x
  exact ⟨_, a⟩
/-! picks -/
theorem atI_lt {α : Type} {xs : List α} {r : Int} (h0 : 0 ≤ r) (h1 : r < xs.length) : ∃ v, v ∈ xs ∧ atI xs r = some v := by
  have hl : r.toNat < xs.length := by omega
  refine ⟨xs[r.toNat], List.getElem_mem hl, ?_⟩
  have e := atI_nat (xs := xs) (j := r.toNat) (v := xs[r.toNat]) (List.getElem?_eq_getElem hl)
  rw [show ((r.toNat : Nat) : Int) = r by omega] at e
  exact e
theorem i_pick {K : PySem.W.Frag} {p : Addr} {xs : List V} {r : Int} {H : Hp} {Q : VK} (hp : SqL K H p xs) (h0 : 0 ≤ r) (h1 : r < xs.length) (h : ∀ v, v ∈ xs → Q v H) : rIxL K (.ref p) (.int r) H Q := by
  obtain ⟨v, hv, e⟩ := atI_lt h0 h1
  exact i_ixL hp e (h v hv)
theorem i_pickI {K : PySem.W.Frag} {p : Addr} {ns : List Int} {r : Int} {H : Hp} {Q : VK} (lo hi : Int) (hp : SqL K H p (ns.map V.int)) (h0 : 0 ≤ r) (h1 : r < ns.length) (hall : ∀ m ∈ ns, lo ≤ m ∧ m ≤ hi) (h : ∀ m, lo ≤ m → m ≤ hi → Q (.int m) H) : rIxL K (.ref p) (.int r) H Q := by
  refine i_pick hp h0 (by rw [List.length_map]; exact h1) fun v hv => ?_
  obtain ⟨m, hm, rfl⟩ := List.mem_map.mp hv
  exact h m (hall m hm).1 (hall m hm).2
/-- one sign -/
abbrev vc (c : Nat) : V := .str (S [c])
/-- all signs are small letters -/
def Low (l : List Nat) : Prop := ∀ c ∈ l, 97 ≤ c ∧ c ≤ 122
theorem i_pickC {K : PySem.W.Frag} {p : Addr} {cs : List Nat} {r : Int} {H : Hp} {Q : VK} (hp : SqL K H p (cs.map vc)) (h0 : 0 ≤ r) (h1 : r < cs.length) (h : ∀ c, c ∈ cs → Q (.str (S [c])) H) : rIxL K (.ref p) (.int r) H Q := by
  refine i_pick hp h0 (by rw [List.length_map]; exact h1) fun v hv => ?_
  obtain ⟨m, hm, rfl⟩ := List.mem_map.mp hv
  exact h m hm
theorem i_pickS {l : List Nat} {r : Int} {H : Hp} {Q : VK} (hz : l.length ≤ 1000000) (h0 : 0 ≤ r) (h1 : r < l.length) (h : ∀ c, c ∈ l → Q (.str (S [c])) H) : rIxT1 (.str (S l)) (.int r) H Q := by
  obtain ⟨v, hv, e⟩ := atI_lt h0 h1
  exact i_ixS (le_line hz) e (h v hv)
abbrev abc : List Nat := [97, 98, 99, 100, 101, 102, 103, 104, 105, 106, 107, 108, 109, 110, 111, 112, 113, 114, 115, 116, 117, 118, 119, 120, 121, 122]
theorem low_abc : Low abc := by unfold Low; decide
theorem Low.app {a b : List Nat} (h1 : Low a) (h2 : Low b) : Low (a ++ b) := fun c hc => by
  rcases List.mem_append.mp hc with h | h
  · exact h1 c h
  · exact h2 c h
theorem Low.one {c : Nat} (h : 97 ≤ c ∧ c ≤ 122) : Low [c] := fun d hd => by
  rw [List.mem_singleton.mp hd]; exact h
theorem Low.sub {a b : List Nat} (h1 : Low a) (h2 : ∀ c ∈ b, c ∈ a) : Low b := fun c hc => h1 c (h2 c hc)
theorem Low.nil : Low [] := fun c hc => nomatch hc
theorem Low.rev {a : List Nat} (h1 : Low a) : Low a.reverse := h1.sub fun c hc => List.mem_reverse.mp hc
theorem Low.cut {a : List Nat} {lo hi : Option Int} (h1 : Low a) : Low (cutL a lo hi) := h1.sub fun c hc => List.mem_of_mem_drop (List.mem_of_mem_take hc)
/-! comprehensions -/
/-- the list grown so far at D is acc, and Iv holds of it -/
def Pa (D : Addr) (Iv : Nat → List V → Hp → Prop) (i : Nat) (H : Hp) : Prop := ∃ acc : List V, acc.length ≤ i ∧ H D = some (.lst acc) ∧ Iv i acc H
theorem lc_acc {J : It} {n : Nat} {G : Hp → Prop} {Y : Nat → Hp → V → Hp → Prop} (w : Walk J n G Y) {g : TG} {tt : TT} {te : TE} {vs : List Nat} {σ : L2.St} {H1 : Hp} {D : Addr} {Qd : Hp → Prop} (Iv : Nat → List V → Hp → Prop)
    (h0 : Iv 0 [] (upd H1 D (.lst []))) (hG : ∀ i acc H, i ≤ n → H D = some (.lst acc) → Iv i acc H → G H)
    (hs : ∀ i acc x H H', i < n → acc.length ≤ i → H D = some (.lst acc) → Iv i acc H → Y i H x H' → g x (wipe σ vs) H' fun σ2 H2 => wipe σ2 vs = wipe σ vs ∧ tt σ2 H2 fun b H3 =>
      if b = true then te σ2 H3 fun y H4 => ∃ acc, H4 D = some (.lst acc) ∧ acc.length < sizeLine ∧ Pa D Iv (i + 1) (upd H4 D (.lst (acc ++ [y]))) else Pa D Iv (i + 1) H3)
    (hd : ∀ acc H, acc.length ≤ n → H D = some (.lst acc) → Iv n acc H → Qd H) :
    ∃ W : Nat → Nat → Hp → Prop, (∃ m, W 0 m (upd H1 D (.lst []))) ∧ ∀ i m H, W i m H →
      (J.stop i H ∧ Qd H) ∨ (J.go i H ∧ ∃ Nx : Hp → Prop, (∀ H', Nx H' → ∃ m', m' < m ∧ W (i + 1) m' H') ∧ ∀ x H', J.yld i H x H' → g x (wipe σ vs) H' fun σ2 H2 => wipe σ2 vs = wipe σ vs ∧ tt σ2 H2 fun b H3 =>
        if b = true then te σ2 H3 fun y H4 => ∃ acc, H4 D = some (.lst acc) ∧ acc.length < sizeLine ∧ Nx (upd H4 D (.lst (acc ++ [y]))) else Nx H3) := by
  refine lc_it w (Pa D Iv) ⟨[], Nat.le_refl _, upd_same, h0⟩ (fun i H hi ⟨acc, _, h1, h2⟩ => hG i acc H hi h1 h2) ?_ ?_
  · rintro i x H H' hi ⟨acc, hl, h1, h2⟩ y
    exact hs i acc x H H' hi hl h1 h2 y
  · rintro H ⟨acc, hl, h1, h2⟩
    exact hd acc H hl h1 h2
theorem lc_put {D : Addr} {Iv : Nat → List V → Hp → Prop} {i : Nat} {acc : List V} {y : V} {H4 : Hp} (e : H4 D = some (.lst acc)) (hl : acc.length ≤ i) (hi : i ≤ 1000000) (h : Iv (i + 1) (acc ++ [y]) (upd H4 D (.lst (acc ++ [y])))) :
    ∃ acc, H4 D = some (.lst acc) ∧ acc.length < sizeLine ∧ Pa D Iv (i + 1) (upd H4 D (.lst (acc ++ [y]))) :=
  ⟨acc, e, lt_line (by omega), acc ++ [y], by simp; omega, upd_same, h⟩
theorem lc_skip {D : Addr} {Iv : Nat → List V → Hp → Prop} {i : Nat} {acc : List V} {H3 : Hp} (e : H3 D = some (.lst acc)) (hl : acc.length ≤ i) (h : Iv (i + 1) acc H3) : Pa D Iv (i + 1) H3 := ⟨acc, by omega, e, h⟩
/-- [e for x in range(n)] -/
theorem i_lcR {n : Int} {g : TG} {tt : TT} {te : TE} {vs : List Nat} {σ : L2.St} {H : Hp} {Q : VK} (h0 : 0 ≤ n) (h1 : n ≤ 1000000) (h : ∀ D, H D = none → ∃ W : Nat → Nat → Hp → Prop, (∃ m, W 0 m (upd H D (.lst []))) ∧ ∀ i m H, W i m H →
      ((Itr 0 n.toNat).stop i H ∧ Q (.ref D) H) ∨ ((Itr 0 n.toNat).go i H ∧ ∃ Nx : Hp → Prop, (∀ H', Nx H' → ∃ m', m' < m ∧ W (i + 1) m' H') ∧ ∀ x H', (Itr 0 n.toNat).yld i H x H' → g x (wipe σ vs) H' fun σ2 H2 => wipe σ2 vs = wipe σ vs ∧ tt σ2 H2 fun b H3 =>
        if b = true then te σ2 H3 fun y H4 => ∃ acc, H4 D = some (.lst acc) ∧ acc.length < sizeLine ∧ Nx (upd H4 D (.lst (acc ++ [y]))) else Nx H3)) :
    ∃ j : Int, [V.int n] = [.int j] ∧ -(2 ^ 62) ≤ j ∧ j < 2 ^ 62 ∧ ∀ D, H D = none → ∃ W : Nat → Nat → Hp → Prop, (∃ m, W 0 m (upd H D (.lst []))) ∧ ∀ i m H, W i m H →
      ((Itr 0 j.toNat).stop i H ∧ Q (.ref D) H) ∨ ((Itr 0 j.toNat).go i H ∧ ∃ Nx : Hp → Prop, (∀ H', Nx H' → ∃ m', m' < m ∧ W (i + 1) m' H') ∧ ∀ x H', (Itr 0 j.toNat).yld i H x H' → g x (wipe σ vs) H' fun σ2 H2 => wipe σ2 vs = wipe σ vs ∧ tt σ2 H2 fun b H3 =>
        if b = true then te σ2 H3 fun y H4 => ∃ acc, H4 D = some (.lst acc) ∧ acc.length < sizeLine ∧ Nx (upd H4 D (.lst (acc ++ [y]))) else Nx H3) := ⟨n, rfl, by omega, by omega, h⟩
theorem i_tYes {σ : L2.St} {H : Hp} {QB : Bool → Hp → Prop} (h : QB true H) : tYes σ H QB := h
theorem i_lc {wi : TI} {g : TG} {tt : TT} {te : TE} {vs : List Nat} {σ : L2.St} {H : Hp} {Q : VK} (h : wi σ H fun J H1 => ∀ D, H1 D = none → ∃ W : Nat → Nat → Hp → Prop, (∃ m, W 0 m (upd H1 D (.lst []))) ∧ ∀ i m H, W i m H →
  (J.stop i H ∧ Q (.ref D) H) ∨ (J.go i H ∧ ∃ Nx : Hp → Prop, (∀ H', Nx H' → ∃ m', m' < m ∧ W (i + 1) m' H') ∧ ∀ x H', J.yld i H x H' → g x (wipe σ vs) H' fun σ2 H2 => wipe σ2 vs = wipe σ vs ∧ tt σ2 H2 fun b H3 =>
    if b = true then te σ2 H3 fun y H4 => ∃ acc, H4 D = some (.lst acc) ∧ acc.length < sizeLine ∧ Nx (upd H4 D (.lst (acc ++ [y]))) else Nx H3)) : tLc wi g tt te vs σ H Q := h
/-- [c for c in text] -/
theorem i_str {te : TE} {σ : L2.St} {H : Hp} {R : It → Hp → Prop} (h : te σ H fun v H1 => ∃ x, v = .str x ∧ R (Its x) H1) : iStr te σ H R := h
theorem i_strx {l : List Nat} {H : Hp} {R : It → Hp → Prop} (h : R (Its (S l)) H) : ∃ x, V.str (S l) = .str x ∧ R (Its x) H := ⟨_, rfl, h⟩
theorem walk_S {l : List Nat} : Walk (Its (S l)) l.length (fun _ => True) (fun i H v H' => H' = H ∧ ∃ c, l[i]? = some c ∧ v = .str (S [c])) := by
  have := walk_str (z := S l)
  have e : (S l).cps.size = l.length := by simp
  rw [e] at this
  refine this.mono (fun _ h => h) fun i H x H' _ _ y => ?_
  obtain ⟨y1, c, y2, y3⟩ := y
  exact ⟨y1, c, by simpa using y2, y3⟩
theorem i_list {K : PySem.W.Frag} {te : TE} {σ : L2.St} {H : Hp} {R : It → Hp → Prop} (h : te σ H fun x H1 => ∃ a, x = .ref a ∧ (∃ xs, SqL K H1 a xs) ∧ R (Itl K a) H1) : iList K te σ H R := h
theorem i_listx {K : PySem.W.Frag} {a : Addr} {xs : List V} {H : Hp} {R : It → Hp → Prop} (h1 : SqL K H a xs) (h : R (Itl K a) H) : ∃ b, V.ref a = .ref b ∧ (∃ xs, SqL K H b xs) ∧ R (Itl K b) H := ⟨a, rfl, ⟨xs, h1⟩, h⟩
theorem i_for {wi : TI} {g : TG} {tb : TS} {D : Ends} {σ : L2.St} {H : Hp} (h : wi σ H fun J H1 => ∃ W : Nat → Nat → L2.St → Hp → Prop, (∃ m, W 0 m σ H1) ∧ ∀ i m σ H, W i m σ H →
  (J.stop i H ∧ D.nx σ H) ∨ (J.go i H ∧ ∃ N : L2.St → Hp → Prop, (∀ σ' H', N σ' H' → ∃ m', m' < m ∧ W (i + 1) m' σ' H') ∧ ∀ x H', J.yld i H x H' → g x σ H' fun σ2 H2 => tb { D with nx := N, ct := N, bk := D.nx } σ2 H2)) : tFor wi g tb D σ H := h
theorem joinL_nil : ∀ ys : List (List Nat), TL.joinL [] ys = ys.flatten
  | [] => rfl
  | [p] => by simp [TL.joinL]
  | p :: q :: r => by
    have := joinL_nil (q :: r)
    simp only [TL.joinL, this, List.nil_append]
    simp
/-- a test by what it tells: M -/
theorem if_cut {tt : TT} {t u : TS} {D : Ends} {σ : L2.St} {H : Hp} (M : Bool → Hp → Prop) (h : ∀ Q' : Bool → Hp → Prop, (∀ b H1, M b H1 → Q' b H1) → tt σ H Q') (h1 : ∀ H1, M true H1 → t D σ H1) (h2 : ∀ H1, M false H1 → u D σ H1) : tIfS tt t u D σ H := by
  refine h _ fun b H1 m => ?_
  cases b with
  | true => exact iteT (h1 H1 m)
  | false => exact iteF (h2 H1 m)
theorem iteNF {A B : Prop} (h : A) : if (!false) = true then A else B := h
theorem iteNT {A B : Prop} (h : B) : if (!true) = true then A else B := h
theorem small_none {h : Addr} {H H1 : Hp} {D : Addr} (b : But h H H1) (n : D ≠ h) (e : H1 D = none) : H D = none := by
  cases q : H D with
  | none => rfl
  | some o => rw [b D o n q] at e; cases e
end Lv

set_option Elab.async false
set_option linter.all false
set_option maxRecDepth 100000
set_option maxHeartbeats 2000000
namespace Lv
open PySem PySem.Spec PyProof.Rows L2 SX
/-! loops: an invariant, its start, (what stands still,) a turn, the end -/
def ForJ (J : It) (g : TG) (tb : TS) (D : Ends) (σ : L2.St) (H : Hp) : Prop := ∃ W : Nat → Nat → L2.St → Hp → Prop, (∃ m, W 0 m σ H) ∧ ∀ i m σ H, W i m σ H →
  (J.stop i H ∧ D.nx σ H) ∨ (J.go i H ∧ ∃ N : L2.St → Hp → Prop, (∀ σ' H', N σ' H' → ∃ m', m' < m ∧ W (i + 1) m' σ' H') ∧ ∀ x H', J.yld i H x H' → g x σ H' fun σ2 H2 => tb { D with nx := N, ct := N, bk := D.nx } σ2 H2)
def LcJ (J : It) (g : TG) (tt : TT) (te : TE) (vs : List Nat) (σ : L2.St) (H1 : Hp) (Q : VK) : Prop := ∀ D, H1 D = none → ∃ W : Nat → Nat → Hp → Prop, (∃ m, W 0 m (upd H1 D (.lst []))) ∧ ∀ i m H, W i m H →
  (J.stop i H ∧ Q (.ref D) H) ∨ (J.go i H ∧ ∃ Nx : Hp → Prop, (∀ H', Nx H' → ∃ m', m' < m ∧ W (i + 1) m' H') ∧ ∀ x H', J.yld i H x H' → g x (wipe σ vs) H' fun σ2 H2 => wipe σ2 vs = wipe σ vs ∧ tt σ2 H2 fun b H3 =>
    if b = true then te σ2 H3 fun y H4 => ∃ acc, H4 D = some (.lst acc) ∧ acc.length < sizeLine ∧ Nx (upd H4 D (.lst (acc ++ [y]))) else Nx H3)
def ForN (n : Nat) (Y : Nat → Hp → V → Hp → Prop) (g : TG) (tb : TS) (D : Ends) (σ : L2.St) (H : Hp) : Prop := ∃ Pv : Nat → L2.St → Hp → Prop, Pv 0 σ H ∧
  (∀ i x σ H H', i < n → Pv i σ H → Y i H x H' → g x σ H' fun σ2 H2 => tb { D with nx := Pv (i + 1), ct := Pv (i + 1), bk := D.nx } σ2 H2) ∧ ∀ σ H, Pv n σ H → D.nx σ H
def ForG (G : Hp → Prop) (n : Nat) (Y : Nat → Hp → V → Hp → Prop) (g : TG) (tb : TS) (D : Ends) (σ : L2.St) (H : Hp) : Prop := ∃ Pv : Nat → L2.St → Hp → Prop, Pv 0 σ H ∧ (∀ i σ H, i ≤ n → Pv i σ H → G H) ∧
  (∀ i x σ H H', i < n → Pv i σ H → Y i H x H' → g x σ H' fun σ2 H2 => tb { D with nx := Pv (i + 1), ct := Pv (i + 1), bk := D.nx } σ2 H2) ∧ ∀ σ H, Pv n σ H → D.nx σ H
def LcN (n : Nat) (Y : Nat → Hp → V → Hp → Prop) (g : TG) (tt : TT) (te : TE) (vs : List Nat) (σ : L2.St) (H1 : Hp) (Q : VK) : Prop := ∀ D, H1 D = none → ∃ Iv : Nat → List V → Hp → Prop, Iv 0 [] (upd H1 D (.lst [])) ∧
  (∀ i acc x H H', i < n → acc.length ≤ i → H D = some (.lst acc) → Iv i acc H → Y i H x H' → g x (wipe σ vs) H' fun σ2 H2 => wipe σ2 vs = wipe σ vs ∧ tt σ2 H2 fun b H3 =>
      if b = true then te σ2 H3 fun y H4 => ∃ acc, H4 D = some (.lst acc) ∧ acc.length < sizeLine ∧ Pa D Iv (i + 1) (upd H4 D (.lst (acc ++ [y]))) else Pa D Iv (i + 1) H3) ∧
  ∀ acc H, acc.length ≤ n → H D = some (.lst acc) → Iv n acc H → Q (.ref D) H
def LcG (G : Hp → Prop) (n : Nat) (Y : Nat → Hp → V → Hp → Prop) (g : TG) (tt : TT) (te : TE) (vs : List Nat) (σ : L2.St) (H1 : Hp) (Q : VK) : Prop := ∀ D, H1 D = none → ∃ Iv : Nat → List V → Hp → Prop, Iv 0 [] (upd H1 D (.lst [])) ∧ (∀ i acc H, i ≤ n → H D = some (.lst acc) → Iv i acc H → G H) ∧
  (∀ i acc x H H', i < n → acc.length ≤ i → H D = some (.lst acc) → Iv i acc H → Y i H x H' → g x (wipe σ vs) H' fun σ2 H2 => wipe σ2 vs = wipe σ vs ∧ tt σ2 H2 fun b H3 =>
      if b = true then te σ2 H3 fun y H4 => ∃ acc, H4 D = some (.lst acc) ∧ acc.length < sizeLine ∧ Pa D Iv (i + 1) (upd H4 D (.lst (acc ++ [y]))) else Pa D Iv (i + 1) H3) ∧
  ∀ acc H, acc.length ≤ n → H D = some (.lst acc) → Iv n acc H → Q (.ref D) H
/-! what is walked -/
abbrev YR (lo : Int) : Nat → Hp → V → Hp → Prop := fun i H x H' => H' = H ∧ x = .int (lo + (i : Int))
abbrev YC (lo c : Int) : Nat → Hp → V → Hp → Prop := fun i H x H' => H' = H ∧ x = .int (lo + (i : Int) * c)
abbrev YS (l : List Nat) : Nat → Hp → V → Hp → Prop := fun i H v H' => H' = H ∧ ∃ c, l[i]? = some c ∧ v = .str (S [c])
abbrev YL (xs : List V) : Nat → Hp → V → Hp → Prop := fun i H v H' => H' = H ∧ xs[i]? = some v
/-- a new tuple -/
abbrev YT (Y : Nat → List V → Prop) : Nat → Hp → V → Hp → Prop := fun i H v H' => ∃ T xs, v = .ref T ∧ H T = none ∧ H' = upd H T (.tup xs) ∧ Y i xs
/-- the signs of a text with their places -/
abbrev YE (l : List Nat) : Nat → List V → Prop := fun i xs => ∃ c, l[i]? = some c ∧ xs = [.int (i : Nat), .str (S [c])]
section
variable {K : PySem.W.Frag} {g : TG} {tb : TS} {D : Ends} {σ : L2.St} {H H1 : Hp} {te : TE} {tt : TT} {vs : List Nat} {Q : VK} {n : Nat} {Y : Nat → Hp → V → Hp → Prop} {J : It} {G : Hp → Prop} {wi : TI} {R : It → Hp → Prop} {ta : TA}
theorem fo (h : ∀ R' : It → Hp → Prop, R' J H1 → wi σ H R') (k : ForJ J g tb D σ H1) : tFor wi g tb D σ H := h _ k
theorem foM (M : It → Hp → Prop) (h : ∀ R' : It → Hp → Prop, (∀ J H1, M J H1 → R' J H1) → wi σ H R') (k : ∀ J H1, M J H1 → ForJ J g tb D σ H1) : tFor wi g tb D σ H := h _ k
theorem lc (h : ∀ R' : It → Hp → Prop, R' J H1 → wi σ H R') (k : LcJ J g tt te vs σ H1 Q) : tLc wi g tt te vs σ H Q := h _ k
theorem lcM (M : It → Hp → Prop) (h : ∀ R' : It → Hp → Prop, (∀ J H1, M J H1 → R' J H1) → wi σ H R') (k : ∀ J H1, M J H1 → LcJ J g tt te vs σ H1 Q) : tLc wi g tt te vs σ H Q := h _ k
theorem forN_ok (w : Walk J n (fun _ => True) Y) (h : ForN n Y g tb D σ H) : ForJ J g tb D σ H := by
  obtain ⟨Pv, h0, hs, hd⟩ := h
  exact for_it w Pv h0 (fun _ _ _ _ _ => trivial) hs hd
theorem forG_ok (w : Walk J n G Y) (h : ForG G n Y g tb D σ H) : ForJ J g tb D σ H := by
  obtain ⟨Pv, h0, hG, hs, hd⟩ := h
  exact for_it w Pv h0 hG hs hd
theorem lcN_ok (w : Walk J n (fun _ => True) Y) (h : LcN n Y g tt te vs σ H Q) : LcJ J g tt te vs σ H Q := fun D nD => by
  obtain ⟨Iv, h0, hs, hd⟩ := h D nD
  exact lc_acc w Iv h0 (fun _ _ _ _ _ _ => trivial) hs hd
theorem lcG_ok (w : Walk J n G Y) (h : LcG G n Y g tt te vs σ H Q) : LcJ J g tt te vs σ H Q := fun D nD => by
  obtain ⟨Iv, h0, hG, hs, hd⟩ := h D nD
  exact lc_acc w Iv h0 hG hs hd
theorem f_r {lo : Int} (h : ForN n (YR lo) g tb D σ H) : ForJ (Itr lo n) g tb D σ H := forN_ok walk_range h
theorem f_c {lo c : Int} (h : ForN n (YC lo c) g tb D σ H) : ForJ (Itc lo c n) g tb D σ H := forN_ok walk_rangeC h
theorem f_s {l : List Nat} (h : ForN l.length (YS l) g tb D σ H) : ForJ (Its (S l)) g tb D σ H := forN_ok walk_S h
theorem f_l {a : Addr} {xs : List V} (h : ForG (fun H => SqL K H a xs) xs.length (YL xs) g tb D σ H) : ForJ (Itl K a) g tb D σ H := forG_ok walk_list h
theorem f_u {a : Addr} {xs : List V} (h : ForG (fun H => SqT K H a xs) xs.length (YL xs) g tb D σ H) : ForJ (Itt K a) g tb D σ H := forG_ok walk_tup h
theorem f_t {Y : Nat → List V → Prop} (h : ForN n (YT Y) g tb D σ H) : ForJ (ItT n Y) g tb D σ H := forN_ok walk_enumS h
theorem f_e {a : Addr} {xs : List V} (h : ForG (fun H => SqL K H a xs) xs.length (YT fun i zs => ∃ x, xs[i]? = some x ∧ zs = [.int (i : Nat), x]) g tb D σ H) : ForJ (Ite K a) g tb D σ H := by
  refine forG_ok (walk_enum.mono (fun _ h => h) fun i H x H' hi _ y => ?_) h
  obtain ⟨T, x1, x2, rfl, h2, rfl, h4, h5⟩ := y
  cases h4
  exact ⟨T, _, rfl, h2, rfl, x2, h5, rfl⟩
theorem c_r {lo : Int} (h : LcN n (YR lo) g tt te vs σ H Q) : LcJ (Itr lo n) g tt te vs σ H Q := lcN_ok walk_range h
theorem c_c {lo c : Int} (h : LcN n (YC lo c) g tt te vs σ H Q) : LcJ (Itc lo c n) g tt te vs σ H Q := lcN_ok walk_rangeC h
theorem c_s {l : List Nat} (h : LcN l.length (YS l) g tt te vs σ H Q) : LcJ (Its (S l)) g tt te vs σ H Q := lcN_ok walk_S h
theorem c_l {a : Addr} {xs : List V} (h : LcG (fun H => SqL K H a xs) xs.length (YL xs) g tt te vs σ H Q) : LcJ (Itl K a) g tt te vs σ H Q := lcG_ok walk_list h
theorem c_u {a : Addr} {xs : List V} (h : LcG (fun H => SqT K H a xs) xs.length (YL xs) g tt te vs σ H Q) : LcJ (Itt K a) g tt te vs σ H Q := lcG_ok walk_tup h
theorem c_t {Y : Nat → List V → Prop} (h : LcN n (YT Y) g tt te vs σ H Q) : LcJ (ItT n Y) g tt te vs σ H Q := lcN_ok walk_enumS h
theorem c_e {a : Addr} {xs : List V} (h : LcG (fun H => SqL K H a xs) xs.length (YT fun i zs => ∃ x, xs[i]? = some x ∧ zs = [.int (i : Nat), x]) g tt te vs σ H Q) : LcJ (Ite K a) g tt te vs σ H Q := by
  refine lcG_ok (walk_enum.mono (fun _ h => h) fun i H x H' hi _ y => ?_) h
  obtain ⟨T, x1, x2, rfl, h2, rfl, h4, h5⟩ := y
  cases h4
  exact ⟨T, _, rfl, h2, rfl, x2, h5, rfl⟩
/-! the steps to what is walked -/
theorem i_rng2 (h : ta σ H fun vs H1 => ∃ i j : Int, vs = [.int i, .int j] ∧ (-(2 ^ 62) ≤ i ∧ i < 2 ^ 62 ∧ -(2 ^ 62) ≤ j ∧ j < 2 ^ 62) ∧ R (Itr i (j - i).toNat) H1) : iRng2 ta σ H R := h
theorem i_rng3 (h : ta σ H fun vs H1 => ∃ (i j c : Int) (n : Nat), vs = [.int i, .int j, .int c] ∧ RgC i j c n ∧ R (Itc i c n) H1) : iRng3 ta σ H R := h
theorem i_enumS (h : ta σ H fun vs H1 => ∃ l : List Nat, vs = [.str (S l)] ∧ R (ItT l.length (YE l)) H1) : iEnumS ta σ H R := h
theorem i_enumL (h : ta σ H fun vs H1 => ∃ a xs, vs = [.ref a] ∧ SqL K H1 a xs ∧ R (Ite K a) H1) : iEnum K ta σ H R := h
theorem i_tupI (h : te σ H fun x H1 => ∃ a, x = .ref a ∧ (∃ xs, SqT K H1 a xs) ∧ R (Itt K a) H1) : iTup K te σ H R := h
theorem x_r1 {z : Int} (h0 : -(2 ^ 62) ≤ z) (h1 : z < 2 ^ 62) (h : R (Itr 0 z.toNat) H) : ∃ j : Int, [V.int z] = [.int j] ∧ -(2 ^ 62) ≤ j ∧ j < 2 ^ 62 ∧ R (Itr 0 j.toNat) H := ⟨z, rfl, h0, h1, h⟩
theorem x_r2 {x y : Int} (hb : -(2 ^ 62) ≤ x ∧ x < 2 ^ 62 ∧ -(2 ^ 62) ≤ y ∧ y < 2 ^ 62) (h : R (Itr x (y - x).toNat) H) : ∃ i j : Int, [V.int x, V.int y] = [.int i, .int j] ∧ (-(2 ^ 62) ≤ i ∧ i < 2 ^ 62 ∧ -(2 ^ 62) ≤ j ∧ j < 2 ^ 62) ∧ R (Itr i (j - i).toNat) H := ⟨x, y, rfl, hb, h⟩
theorem x_dn {x y : Int} (hb : -(2 ^ 62) ≤ x ∧ x < 2 ^ 62 ∧ -(2 ^ 62) ≤ y ∧ y < 2 ^ 62) (h : R (Itc x (-1) (x - y).toNat) H) : ∃ (i j c : Int) (n : Nat), [V.int x, V.int y, V.int (-1)] = [.int i, .int j, .int c] ∧ RgC i j c n ∧ R (Itc i c n) H := ⟨x, y, -1, _, rfl, RgC.neg hb.1 hb.2.1 hb.2.2.1 hb.2.2.2, h⟩
theorem x_str {l : List Nat} (h : R (Its (S l)) H) : ∃ x, V.str (S l) = .str x ∧ R (Its x) H := ⟨_, rfl, h⟩
theorem x_list {a : Addr} {xs : List V} (hL : SqL K H a xs) (h : R (Itl K a) H) : ∃ b, V.ref a = .ref b ∧ (∃ xs, SqL K H b xs) ∧ R (Itl K b) H := ⟨a, rfl, ⟨xs, hL⟩, h⟩
theorem x_tup {a : Addr} {xs : List V} (hL : SqT K H a xs) (h : R (Itt K a) H) : ∃ b, V.ref a = .ref b ∧ (∃ xs, SqT K H b xs) ∧ R (Itt K b) H := ⟨a, rfl, ⟨xs, hL⟩, h⟩
theorem x_enumS {l : List Nat} (h : R (ItT l.length (YE l)) H) : ∃ l' : List Nat, [V.str (S l)] = [.str (S l')] ∧ R (ItT l'.length (YE l')) H := ⟨l, rfl, h⟩
theorem x_enumL {a : Addr} {xs : List V} (hL : SqL K H a xs) (h : R (Ite K a) H) : ∃ b xs, [V.ref a] = [.ref b] ∧ SqL K H b xs ∧ R (Ite K b) H := ⟨a, xs, rfl, hL, h⟩
end
theorem i_augS {to ti te : TE} {tget : V → V → Hp → VK → Prop} {tip : TIp} {tset : TSet} {D : Ends} {σ : L2.St} {H : Hp} (h : to σ H fun o H1 => ti σ H1 fun i H2 => tget o i H2 fun x H3 => te σ H3 fun y H4 => tip x y H4 fun z H5 => tset o i z H5 fun H6 => D.nx σ H6) : tAugS to ti te tget tip tset D σ H := h
theorem x_nx {t b c : L2.St → Hp → Prop} {r : VK} {σ : L2.St} {H : Hp} (h : t σ H) : ({ nx := t, rt := r, bk := b, ct := c } : Ends).nx σ H := h
theorem ix_nat {n k : Nat} (h : k < n) : ixN n (k : Int) = some k := by
  unfold ixN
  rw [if_pos (by omega), if_pos (by omega)]
  rfl
end Lv

set_option Elab.async false
set_option linter.all false
set_option maxRecDepth 100000
set_option maxHeartbeats 2000000
namespace Lv
open PySem PySem.Spec PyProof.Rows L2 SX
theorem Hd.neC {H : Hp} {h p : Addr} {cs : List Nat} (hd : Hd H h) (hp : H p = some (.lst (cs.map vc))) (c1 : 1 ≤ cs.length) : p ≠ h := by
  obtain ⟨d, m, hh, _⟩ := hd
  refine ne_of hp hh fun z => ?_
  cases cs with
  | nil => simp at c1
  | cons c r =>
    injection z with z
    injection z with z1 z2
    cases z1
theorem sum_ones {α : Type} (l : List α) (f : α → List Nat) (hf : ∀ a, (f a).length = 1) : ((l.map f).map List.length).sum = l.length := by
  induction l with
  | nil => rfl
  | cons a l ih => rw [List.map_cons, List.map_cons, List.sum_cons, ih, hf, List.length_cons, Nat.add_comm]
theorem flat_ones (l : List Nat) : (l.map fun c => [c]).flatten = l := by
  induction l with
  | nil => rfl
  | cons a l ih => rw [List.map_cons, List.flatten_cons, ih]; rfl
/-- ''.join of single signs -/
theorem i_joinC {K : PySem.W.Frag} {p : Addr} {l : List Nat} {H : Hp} {Q : VK} (h1 : SqL K H p (l.map vc)) (hz : l.length ≤ 1000000) (h : Q (.str (S l)) H) : rJoin K (.str (S [])) [.ref p] H Q := by
  refine i_join (ys := l.map fun c => [c]) (by rw [List.map_map]; exact h1) ?_ ?_
  · rw [sum_ones l _ fun _ => rfl]; simp; omega
  · rw [joinL_nil]
    rw [flat_ones]
    exact h

theorem i_pickN {K : PySem.W.Frag} {p : Addr} {ns : List Int} {r : Int} {H : Hp} {Q : VK} (hp : SqL K H p (ns.map V.int)) (h0 : 0 ≤ r) (h1 : r < ns.length) (h : ∀ m, m ∈ ns → Q (.int m) H) : rIxL K (.ref p) (.int r) H Q := by
  refine i_pick hp h0 (by rw [List.length_map]; exact h1) fun v hv => ?_
  obtain ⟨m, hm, rfl⟩ := List.mem_map.mp hv
  exact h m hm
theorem low_az : Low [97, 122] := (Low.one (by decide : 97 ≤ 97 ∧ 97 ≤ 122)).app (Low.one (by decide : 97 ≤ 122 ∧ 122 ≤ 122))
theorem i_mulB {l : List Nat} {b : Bool} {H : Hp} {Q : VK} (hz : l.length ≤ 1000000) (h : Q (.str (S (if b = true then l else []))) H) : rMulS (.str (S l)) (.int (if b = true then 1 else 0)) H Q := by
  cases b
  · exact i_mulS (by decide) (by decide) (le_line (by simp)) h
  · refine i_mulS (by decide) (by decide) (le_line (by simp; omega)) ?_
    show Q (.str (S (List.replicate (Int.toNat 1) l).flatten)) H
    have e : (List.replicate (Int.toNat 1) l).flatten = l := by simp
    rw [e]
    exact h
theorem cutL_mid {α : Type} (l : List α) (a b : Nat) : cutL l (some (a : Int)) (some (((a : Nat) : Int) + (b : Nat))) = (l.drop a).take b := by
  unfold cutL
  rw [show HT.sIx l.length 0 (some (a : Int)) = min a l.length from HT.sIx_nat l.length 0 a, show ((a : Nat) : Int) + (b : Nat) = ((a + b : Nat) : Int) from rfl, show HT.sIx l.length l.length (some ((a + b : Nat) : Int)) = min (a + b) l.length from HT.sIx_nat l.length _ (a + b)]
  by_cases z : a ≤ l.length
  · rw [Nat.min_eq_left z]
    apply List.take_eq_take_iff.mpr
    rw [List.length_drop]
    omega
  · rw [List.drop_of_length_le (by omega), List.drop_of_length_le (by omega)]
    simp
theorem i_chain {r r' : R2} {ta tb tc : TE} {σ : L2.St} {H : Hp} {Q : VK} (h : ta σ H fun x H1 => tb σ H1 fun y H2 => r x y H2 fun z H3 => ∃ k, z = .bl k ∧ (if k = true then tc σ H3 fun w' H4 => r' y w' H4 Q else Q (.bl false) H3)) : tChain r r' ta tb tc σ H Q := h
theorem lt_one {a b : Nat} : ([a] < [b]) ↔ a < b := by
  constructor
  · intro h
    cases h with
    | rel h => exact h
    | cons h => cases h
  · exact fun h => .rel h
theorem iteNNF {a b : Prop} (h : b) : if (!!false) = true then a else b := h
theorem iteNNT {a b : Prop} (h : a) : if (!!true) = true then a else b := h
def rIsN : R2 := fun x y H Q => y = .non ∧ Q (.bl (decide (x = .non))) H
def rNotN : R2 := fun x y H Q => y = .non ∧ Q (.bl (!decide (x = .non))) H
theorem op_isN1 {X : Cx} : OpR X (compareOp .Is) rIsN := op_isN
theorem op_notN1 {X : Cx} : OpR X (compareOp .IsNot) rNotN := op_notN
section
variable {H : Hp} {Q : VK} {p : Addr} {n : Int} {x : Str}
theorem i_isN_n (h : Q (.bl true) H) : rIsN .non .non H Q := ⟨rfl, h⟩
theorem i_isN_r (h : Q (.bl false) H) : rIsN (.ref p) .non H Q := ⟨rfl, h⟩
theorem i_isN_i (h : Q (.bl false) H) : rIsN (.int n) .non H Q := ⟨rfl, h⟩
theorem i_isN_s (h : Q (.bl false) H) : rIsN (.str x) .non H Q := ⟨rfl, h⟩
theorem i_notN_n (h : Q (.bl false) H) : rNotN .non .non H Q := ⟨rfl, h⟩
theorem i_notN_r (h : Q (.bl true) H) : rNotN (.ref p) .non H Q := ⟨rfl, h⟩
theorem i_notN_i (h : Q (.bl true) H) : rNotN (.int n) .non H Q := ⟨rfl, h⟩
theorem i_notN_s (h : Q (.bl true) H) : rNotN (.str x) .non H Q := ⟨rfl, h⟩
end
theorem if_val {c : Bool} {t : TE} {σ : L2.St} {H : Hp} {Q : VK} (h : ∀ Q' : VK, (∀ b, Q' (.bl b) H) → t σ H Q') (k : ∀ b, Q (.bl b) H) : if c = true then t σ H Q else Q (.bl false) H := by
  cases c
  · exact k false
  · exact h Q k
def oV : Option Int → V
  | none => .non
  | some k => .int k
def oI (o : Option Nat) : V := oV (o.map fun k => (k : Int))
theorem i_ix1 {l : List Nat} {j c : Nat} {H : Hp} {Q : VK} (hz : l.length ≤ 1000000) (hc : l[j]? = some c) (h : Q (.str (S [c])) H) : rIxT1 (.str (S l)) (.int (j : Int)) H Q := i_ixS (le_line hz) (atI_nat hc) h
/-- isinstance of a thing of a built-in type -/
theorem i_isi {K : PySem.W.Frag} {H : Hp} {Q : VK} {x : V} {T U : String} {b : Bool} (t : TyOf K H x (.type T)) (h : kitB T U = some b) (q : Q (.bl b) H) : rIs1 K [x, .ty U] H Q := ⟨_, _, _, _, b, rfl, .ty _, .of <| .base t, kit_ty h, q⟩
/-- a place -/
def iv (k : Nat) : V := .int (k : Int)
theorem i_revL {K : PySem.W.Frag} {te : TE} {σ : L2.St} {H : Hp} {Q : VK} (h : te σ H fun x H1 => ∃ a xs, x = .ref a ∧ SqL K H1 a xs ∧ ∀ p, H1 p = none → Q (.ref p) (L2.upd H1 p (.lst xs.reverse))) : tRevL K te σ H Q := h
/-! lists of texts: == and != -/
section
variable {X : Cx}
abbrev vs (l : List Nat) : V := .str (S l)
theorem S_inj {l m : List Nat} : S l = S m ↔ l = m := ⟨fun h => by injection h with h; injection h, fun h => by rw [h]⟩
/-- signs that a text may hold -/
def Chr (l : List Nat) : Prop := ∀ c ∈ l, c < 1114112
theorem strOk_S {l : List Nat} (h : Chr l) : PyData.strOk (S l) = true := by
  unfold PyData.strOk
  rw [Array.all_eq_true']
  intro c hc
  exact decide_eq_true (h c (by simpa using hc))
theorem Low.chr {l : List Nat} (h : Low l) : Chr l := fun c hc => by have := h c hc; omega
theorem Chr.nil : Chr [] := fun c hc => nomatch hc
theorem Chr.one {c : Nat} (h : c < 1114112) : Chr [c] := fun d hd => by rw [List.mem_singleton.mp hd]; exact h
theorem dp_strs {K : PySem.W.Frag} {H : Hp} : ∀ ls : List (List Nat), DpAll K H (ls.map vs) (ls.map fun l => PyData.str (S l))
  | [] => .nil
  | l :: ls => .cons (.str _) (dp_strs ls)
theorem lay_strs : ∀ ls : List (List Nat), (∀ l ∈ ls, Chr l) → PyData.canLayAll0 (ls.map fun l => PyData.str (S l)) = true
  | [], _ => by simp [PyData.canLayAll0]
  | n :: ns, h => by
    simp only [List.map_cons, PyData.canLayAll0, PyData.canLay0, Bool.and_eq_true]
    exact ⟨strOk_S (h n (List.mem_cons_self ..)), lay_strs ns fun l hl => h l (List.mem_cons_of_mem _ hl)⟩
theorem depth_strs : ∀ ls : List (List Nat), PyData.depthAll (ls.map fun l => PyData.str (S l)) = 0
  | [] => by simp [PyData.depthAll]
  | n :: ns => by simp [PyData.depthAll, PyData.depth, depth_strs ns]
theorem shaped_strs {ls : List (List Nat)} (h : ∀ l ∈ ls, Chr l) : SeqAt.shaped (.list (ls.map fun l => PyData.str (S l))) = true := by
  unfold SeqAt.shaped
  rw [PyData.canLay0, lay_strs _ h, PyData.depth, depth_strs]
  rfl
theorem eqv_strs : ∀ ns ms : List (List Nat), PyData.eqvAll (ns.map fun l => PyData.str (S l)) (ms.map fun l => PyData.str (S l)) = decide (ns = ms)
  | [], [] => by simp [PyData.eqvAll]
  | [], _ :: _ => by simp [PyData.eqvAll]
  | _ :: _, [] => by simp [PyData.eqvAll]
  | n :: ns, m :: ms => by
    simp only [List.map_cons, PyData.eqvAll, PyData.eqv, eqv_strs ns ms, List.cons.injEq]
    by_cases h : n = m
    · subst h; simp
    · have : ¬ S n = S m := fun z => h (S_inj.mp z)
      simp [h, this]
def r2LS (K : PySem.W.Frag) (g : List (List Nat) → List (List Nat) → Bool) : R2 := fun x y H Q => ∃ (p q : Addr) (ns ms : List (List Nat)), x = .ref p ∧ y = .ref q ∧ SqL K H p (ns.map vs) ∧ SqL K H q (ms.map vs) ∧ (∀ l ∈ ns, Chr l) ∧ (∀ l ∈ ms, Chr l) ∧ Q (.bl (g ns ms)) H
abbrev rEqLS (K : PySem.W.Frag) : R2 := r2LS K fun a b => decide (a = b)
abbrev rNeLS (K : PySem.W.Frag) : R2 := r2LS K fun a b => !decide (a = b)
theorem op_eqLS (hu : X.A.units + 64 < cLine) : OpR X (compareOp .Eq) (rEqLS X.K) := by
  intro pins s σ H x y v u Q I rx ry h
  obtain ⟨p, q, ns, ms, rfl, rfl, h1, h2, c1, c2, k⟩ := h
  refine op_eqD hu pins s σ H _ _ v u Q I rx ry ⟨_, _, .lst h1 (dp_strs ns), .lst h2 (dp_strs ms), shaped_strs c1, shaped_strs c2, ?_⟩
  rw [PyData.eqv, eqv_strs]
  exact k
theorem op_neLS (hu : X.A.units + 64 < cLine) : OpR X (compareOp .NotEq) (rNeLS X.K) := by
  intro pins s σ H x y v u Q I rx ry h
  obtain ⟨p, q, ns, ms, rfl, rfl, h1, h2, c1, c2, k⟩ := h
  refine op_neD hu pins s σ H _ _ v u Q I rx ry ⟨_, _, .lst h1 (dp_strs ns), .lst h2 (dp_strs ms), shaped_strs c1, shaped_strs c2, ?_⟩
  rw [PyData.eqv, eqv_strs]
  exact k
/-! what is an int or None: == and != -/
def oD : Option Int → PyData
  | none => .none
  | some k => .int k
theorem oD_dp {K : PySem.W.Frag} {H : Hp} : ∀ o, Dp K H (oV o) (oD o)
  | none => .non
  | some k => .int k
theorem oD_shaped (o : Option Int) : SeqAt.shaped (oD o) = true := by cases o <;> simp [oD, SeqAt.shaped, PyData.canLay0, PyData.depth]
theorem oD_eqv (a b : Option Int) : PyData.eqv (oD a) (oD b) = decide (a = b) := by
  cases a <;> cases b <;> simp [oD, PyData.eqv, BEq.beq]
def r2O (g : Option Int → Option Int → Bool) : R2 := fun x y H Q => ∃ a b : Option Int, x = oV a ∧ y = oV b ∧ Q (.bl (g a b)) H
abbrev rEqO : R2 := r2O fun a b => decide (a = b)
abbrev rNeO : R2 := r2O fun a b => !decide (a = b)
theorem op_eqO (hu : X.A.units + 64 < cLine) : OpR X (compareOp .Eq) rEqO := by
  intro pins s σ H x y v u Q I rx ry h
  obtain ⟨a, b, rfl, rfl, k⟩ := h
  refine op_eqD hu pins s σ H _ _ v u Q I rx ry ⟨_, _, oD_dp a, oD_dp b, oD_shaped a, oD_shaped b, ?_⟩
  rw [oD_eqv]
  exact k
theorem op_neO (hu : X.A.units + 64 < cLine) : OpR X (compareOp .NotEq) rNeO := by
  intro pins s σ H x y v u Q I rx ry h
  obtain ⟨a, b, rfl, rfl, k⟩ := h
  refine op_neD hu pins s σ H _ _ v u Q I rx ry ⟨_, _, oD_dp a, oD_dp b, oD_shaped a, oD_shaped b, ?_⟩
  rw [oD_eqv]
  exact k
/-- a row that is never reached -/
def tNever : TS := fun _ _ _ => False
theorem ps_never {st : Stmt} : PS X st tNever := ⟨fun _ _ _ _ _ _ h => False.elim h⟩
end
section
variable {K : PySem.W.Frag} {H : Hp} {Q : VK}
theorem i_r2LS {g : List (List Nat) → List (List Nat) → Bool} {p q : Addr} {ns ms : List (List Nat)} (h1 : SqL K H p (ns.map vs)) (h2 : SqL K H q (ms.map vs)) (c1 : ∀ l ∈ ns, Chr l) (c2 : ∀ l ∈ ms, Chr l) (h : Q (.bl (g ns ms)) H) : r2LS K g (.ref p) (.ref q) H Q := ⟨p, q, ns, ms, rfl, rfl, h1, h2, c1, c2, h⟩
theorem i_r2O {g : Option Int → Option Int → Bool} {a b : Option Int} (h : Q (.bl (g a b)) H) : r2O g (oV a) (oV b) H Q := ⟨a, b, rfl, rfl, h⟩
theorem vc_vs (l : List Nat) : l.map vc = (l.map fun c => [c]).map vs := by rw [List.map_map]; rfl
theorem i_isi_str_str {l : List Nat} (q : Q (.bl true) H) : rIs1 K [.str (S l), .ty "str"] H Q := ⟨_, _, _, _, true, rfl, .ty _, .of <| .base (.str _), kit_ty (by decide +kernel), q⟩
end
end Lv

set_option Elab.async false
set_option linter.all false
set_option maxRecDepth 100000
set_option maxHeartbeats 3200000
namespace Lv
open PySem PySem.Spec PyProof.Rows L2 SX
/-! ### sets of texts: made of a text or of a list of texts, sorted -/
def kyS (e : Int × Value) : Str := match e.2 with | .str k _ => k | _ => ⟨#[]⟩
def GdS (w : World) (e : Int × Value) : Prop := ∃ k tk, e.2 = Value.str k tk ∧ e.1 = hashStr w k
def SetT (w : World) (h : Heap) (a : Addr) (L : List Str) : Prop :=
  ∃ o es ep t, h.get? a = some o ∧ o.ExactSet ∧ o.data = .set es ep t ∧ (∀ e ∈ es.toList, GdS w e) ∧ (es.toList.map kyS).Nodup ∧ (∀ k, k ∈ L ↔ k ∈ es.toList.map kyS) ∧
    es.size ≤ L.length ∧ es.size < scanBound ∧ t.fits es.size = true ∧ Ris t.place.toList ∧ (w.params.followText "set-order" = true ∨ t.led = true)
theorem SetT.at {w : World} {h h' : Heap} {a : Addr} {L : List Str} (R : SetT w h a L) (k : ∀ o, h.get? a = some o → h'.get? a = some o) : SetT w h' a L := by
  obtain ⟨o, es, ep, t, qo, r⟩ := R
  exact ⟨o, es, ep, t, k o qo, r⟩
section
variable {P : Program} {w : World}
theorem isS (k : Str) (u : Tok) : (strKind P w).is k (.str k u) = true := by
  show (k == k) = true
  exact beq_self_eq_true k
theorem gds_elems {l : List (Int × Value)} (g : ∀ e ∈ l, GdS w e) : ElemsOf (strKind P w) l := fun e he => by
  obtain ⟨k, tk, h1, h2⟩ := g e he
  exact ⟨⟨k, by rw [h1]; exact isS k tk, h2⟩, by rw [h1] <;> rfl⟩
theorem gds_is {e : Int × Value} (g : GdS w e) (k : Str) : (strKind P w).is k e.2 = true ↔ kyS e = k := by
  obtain ⟨k0, tk, h1, _⟩ := g
  unfold kyS
  rw [h1]
  show ((k0 == k) = true) ↔ k0 = k
  exact beq_iff_eq
theorem gds_mem {l : List (Int × Value)} (g : ∀ e ∈ l, GdS w e) (k : Str) : k ∈ l.map kyS ↔ ∃ e ∈ l, (strKind P w).is k e.2 = true := by
  rw [List.mem_map]
  exact ⟨fun ⟨e, he, q⟩ => ⟨e, he, (gds_is (g e he) k).2 q⟩, fun ⟨e, he, q⟩ => ⟨e, he, (gds_is (g e he) k).1 q⟩⟩
end
section
variable {P : Program} {w : World} {A : Around} {E : Value → Shared → Prop} {s : Shared} {a : Addr} {L : List Str}
theorem setT_tail {gg : Bool → Sem Unit} (hgg : ∀ (b : Bool) (s₁ : Shared) (Q' : Unit → Shared → Prop), Q' () s₁ → wpAny (model P w) A (gg b) Q' E s₁)
    {o : Obj} {es : Array (Int × Value)} {ep : Nat} {t : SetTable} (qo : s.heap.get? a = some o) (qx : o.ExactSet) (qd : o.data = .set es ep t)
    {es1 : Array (Int × Value)} {t2 : SetTable} {L' : List Str} (g1 : ∀ e ∈ es1.toList, GdS w e) (d1 : (es1.toList.map kyS).Nodup) (m1 : ∀ k, k ∈ L' ↔ k ∈ es1.toList.map kyS) (z1 : es1.size ≤ L'.length)
    (b1 : es1.size < scanBound) (f2 : t2.fits es1.size = true) (r2 : Ris t2.place.toList) (l2 : w.params.followText "set-order" = true ∨ t2.led = true) {dummy : Bool} {R : Option Bool → Shared → Prop}
    (hR : ∀ h', Heap.SameBut a s.heap h' → SetT w h' a L' → R (some true) { s with heap := h' }) :
    wpAny (model P w) A (do
        storeSet a es1 t2
        if (!dummy && t2.tooFull) = true then do
            gg (relayAll t2 es1 (SetTable.grown es1.size)).2.2
            storeSet a (relayAll t2 es1 (SetTable.grown es1.size)).1 (relayAll t2 es1 (SetTable.grown es1.size)).2.1
            pure (some true)
          else pure (some true)) R E s := by
  refine wpAny_bind (wpAny_storeSet_of qo qd ?_ (fits_of_scanBound b1))
  have qo1 := store_at (es' := es1) (t' := t2) qo qd
  have same1 := Heap.SameBut.update s.heap a (Obj.putSet es1 t2)
  split
  · have pm := relayAll_perm t2 es1 (SetTable.grown es1.size)
    have f3 := relayAll_fits t2 es1 (SetTable.grown es1.size)
    have r3 := relayAll_ris t2 es1 (SetTable.grown es1.size)
    have l3 := relayAll_led t2 es1 (SetTable.grown es1.size)
    generalize relayAll t2 es1 (SetTable.grown es1.size) = Z at pm f3 r3 l3 ⊢
    obtain ⟨es2, t3, gave⟩ := Z
    dsimp only at pm f3 r3 l3 ⊢
    have zz : es2.size = es1.size := by rw [← Array.length_toList, pm.length_eq, Array.length_toList]
    have b2 : es2.size < scanBound := by rw [zz]; exact b1
    refine wpAny_bind (hgg _ _ _ (wpAny_bind (wpAny_storeSet_of qo1 rfl ?_ (fits_of_scanBound b2))))
    have qo2 := store_at (es' := es2) (t' := t3) qo1 rfl
    refine wpAny_pure (hR _ (same1.trans (Heap.SameBut.update _ a _)) ⟨_, es2, _, t3, qo2, qx, rfl, fun e he => g1 e (pm.mem_iff.mp he), (pm.map kyS).nodup_iff.mpr d1, fun k => (m1 k).trans (pm.map kyS).mem_iff.symm, by omega, b2, f3, r3, ?_⟩)
    exact l2.imp id fun z => by rw [l3]; exact z
  · exact wpAny_pure (hR _ same1 ⟨_, es1, _, t2, qo1, qx, rfl, g1, d1, m1, z1, b1, f2, r2, l2⟩)
theorem setT_add {k : Str} {tk : Tok} {Q : Bool → Shared → Prop} (R : SetT w s.heap a L) (room : L.length + 1 < scanBound)
    (hQ : ∀ h' b, Heap.SameBut a s.heap h' → SetT w h' a (k :: L) → Q b { s with heap := h' }) : wpAny (model P w) A (setAddHashed a (.str k tk) ((strKind P w).hash k)) Q E s := by
  obtain ⟨o, es, ep, t, qo, qx, qd, g, nd, hm, hz, hb, hf, hr, hl⟩ := R
  have isk : (strKind P w).is k (.str k tk) = true := isS k tk
  have scn : (Value.str k tk).scannable = true := rfl
  have el : ElemsOf (strKind P w) es.toList := gds_elems g
  unfold setAddHashed setAddHashedIn
  refine wpAny_holding (wpAny_bind (wpAny_setState_of qo qd hf ?_))
  dsimp only
  rw [byScan_of scn hb el]
  simp only [↓reduceIte]
  unfold setAddByScan
  refine wpAny_bind (wpAny_bind (wpAny_rule (wpAny_bind (wpAny_setScan_of isk qo qd hf el ?_))))
  cases hfi : List.findIdx? (fun e => (strKind P w).is k e.2) es.toList with
  | some j =>
    dsimp only
    obtain ⟨hj, pj, _⟩ := List.findIdx?_eq_some_iff_getElem.mp hfi
    have inL : k ∈ L := (hm k).2 ((gds_mem (P := P) (w := w) g k).2 ⟨es.toList[j], List.getElem_mem hj, pj⟩)
    refine wpAny_pure (wpAny_pure (hQ s.heap _ (Heap.SameBut.refl a s.heap) ⟨o, es, ep, t, qo, qx, qd, g, nd, fun i => ?_, by rw [List.length_cons]; omega, hb, hf, hr, hl⟩))
    rw [← hm i, List.mem_cons]
    exact ⟨fun z => z.elim (fun e => e ▸ inL) id, .inr⟩
  | none =>
    dsimp only
    have out : k ∉ es.toList.map kyS := fun z => by
      obtain ⟨e, he, q⟩ := (gds_mem (P := P) (w := w) g k).1 z
      have c := List.findIdx?_eq_none_iff.mp hfi e he
      rw [q] at c
      cases c
    have gave_ok : ∀ (b : Bool) {s₁ : Shared} {Q' : Unit → Shared → Prop}, Q' () s₁ → wpAny (model P w) A (match b with | true => rule "set.scan.the-table-gave-way" | false => pure ()) Q' E s₁ :=
      fun b s₁ Q' q => by cases b <;> first | exact wpAny_pure q | exact wpAny_rule q
    have pm := layNew_perm t es ((strKind P w).hash k) (.str k tk)
    have f1 := layNew_fits t es ((strKind P w).hash k) (.str k tk)
    have r1 := layNew_ris t es ((strKind P w).hash k) (.str k tk) hr
    have l1 := layNew_led t es ((strKind P w).hash k) (.str k tk)
    generalize layNew t es ((strKind P w).hash k) (.str k tk) = Z at pm f1 r1 l1 ⊢
    obtain ⟨es1, t1, dummy, gave⟩ := Z
    dsimp only at pm f1 r1 l1 ⊢
    rw [Array.toList_push] at pm
    have pc : es1.toList.Perm (((strKind P w).hash k, Value.str k tk) :: es.toList) := pm.trans (List.perm_append_singleton _ _)
    have pk : (es1.toList.map kyS).Perm (k :: es.toList.map kyS) := pc.map kyS
    have g1 : ∀ e ∈ es1.toList, GdS w e := fun e he => by
      rcases List.mem_cons.mp (pc.mem_iff.mp he) with z | z
      · rw [z]; exact ⟨k, tk, rfl, rfl⟩
      · exact g e z
    have d1 : (es1.toList.map kyS).Nodup := pk.nodup_iff.mpr (List.nodup_cons.mpr ⟨out, nd⟩)
    have m1 : ∀ i, i ∈ k :: L ↔ i ∈ es1.toList.map kyS := fun i => by
      rw [pk.mem_iff, List.mem_cons, List.mem_cons, hm i]
    have zz : es1.size = es.size + 1 := by rw [← Array.length_toList, pc.length_eq, List.length_cons, Array.length_toList]
    have b1 : es1.size < scanBound := by omega
    have z1 : es1.size ≤ (k :: L).length := by rw [List.length_cons]; omega
    have ld : w.params.followText "set-order" = true ∨ t1.led = true := hl.imp id fun z => by rw [l1]; exact z
    refine wpAny_bind (gave_ok _ ?_)
    split
    · refine wpAny_bind ?_
      rw [hashByValue_scannable 8 scn]
      refine wpAny_pure (setT_tail (L' := k :: L) ?_ qo qx qd g1 d1 m1 z1 b1 ?_ ?_ ?_ ?_)
      · intro b s₁ Q' q; cases b <;> first | exact wpAny_pure q | exact wpAny_rule q
      · first | (split <;> first | exact f1 | exact SetTable.fits_plain_off f1) | exact f1
      · first | (split <;> exact r1) | exact r1
      · first | (split <;> exact ld) | exact ld
      · intro h' sb r; dsimp only; exact wpAny_pure (hQ h' _ sb r)
    · refine wpAny_bind (wpAny_pure ?_)
      simp only [↓reduceIte]
      refine setT_tail (L' := k :: L) ?_ qo qx qd g1 d1 m1 z1 b1 f1 r1 ld ?_
      · intro b s₁ Q' q; cases b <;> first | exact wpAny_pure q | exact wpAny_rule q
      · intro h' sb r; dsimp only; exact wpAny_pure (hQ h' _ sb r)
/-- the loop of set.update over texts -/
theorem setT_update {I : Addr} {fp wr : List Addr} {n : Nat} {Pv : Nat → Value → Prop} {St : Nat → Heap → Prop} {R : Result → Shared → Prop}
    (W : Walks P w A.in1 I fp wr n Pv St) (D : Addr) (hD : D ∉ fp) (xs : List Str) (hn : n = xs.length) (hb : xs.length + 1 < scanBound) (hval : ∀ i v, Pv i v → ∃ k t, xs[i]? = some k ∧ v = .str k t) :
    ∀ (m i : Nat) (s : Shared), n - i = m → i ≤ n → St i s.heap → SetT w s.heap D (xs.take i).reverse →
      (∀ h' tk, (∀ b o, b ∉ D :: wr → s.heap.get? b = some o → h'.get? b = some o) → SetT w h' D xs.reverse → R (.ok (.ret .none)) { s with heap := h', toks := tk }) →
      codeAny (model P w) A (.builtin "set.update.loop" ⟨[.ref D, .ref I], []⟩) R s := by
  have hDw : D ∉ wr := fun h => hD (W.sub _ h)
  intro m
  induction m with
  | zero =>
    intro i s hm hi hst hS hR
    have hin : i = n := by omega
    subst hin
    refine codeAny_builtin F.entry_set_update_loop ?_
    rw [Around.under_plainId F.plain_set_update_loop _]
    show wpAny _ A.in1 (pyNext (.ref I) >>= _) _ _ s
    refine wpAny_bind (W.done s _ _ hst fun h' tk keep => ?_)
    show wpAny _ A.in1 (ret Value.none) _ _ _
    rw [List.take_of_length_le (by omega)] at hS
    exact wpAny_pure (hR h' tk (fun b o hb2 e => keep b o (fun z => hb2 (List.mem_cons_of_mem _ z)) e) (hS.at fun o e => keep D o hDw e))
  | succ m ih =>
    intro i s hm hi hst hS hR
    have hlt : i < n := by omega
    refine codeAny_builtin F.entry_set_update_loop ?_
    rw [Around.under_plainId F.plain_set_update_loop _]
    show wpAny _ A.in1 (pyNext (.ref I) >>= _) _ _ s
    refine wpAny_bind (W.item i s _ _ hlt hst fun v h1 tk1 hP hst1 keep1 => ?_)
    obtain ⟨z, t, hz, rfl⟩ := hval i v hP
    have hS1 : SetT w h1 D (xs.take i).reverse := hS.at fun o e => keep1 D o hDw e
    show wpAny _ A.in1 (holding [Value.str z t] (setAdd D (.str z t)) >>= _) _ _ _
    refine wpAny_bind (wpAny_holding ?_)
    unfold setAdd
    refine wpAny_holding (wpAny_bind ((strKind P w).pyHash (k := z) (isS _ _) ?_))
    refine setT_add (s := { s with heap := h1, toks := tk1 + 1 }) hS1 (by rw [List.length_reverse, List.length_take]; omega) fun h2 bb sb hS2 => ?_
    have hS3 : SetT w h2 D (xs.take (i + 1)).reverse := by
      rw [List.take_add_one, hz]
      simpa using hS2
    refine wpAny_pure ⟨plainId_quiet F.plain_set_update_loop _, ih (i + 1) _ (by omega) hlt (W.frame _ _ _ hst1 fun b hb2 o e => ?_) hS3 fun h3 tk3 keep3 hS4 => ?_⟩
    · rw [sb.2 b (fun h : b = D => hD (by rw [← h]; exact hb2))]; exact e
    · refine hR h3 tk3 (fun b o hb2 e => keep3 b o hb2 ?_) hS4
      show h2.get? b = some o
      rw [sb.2 b (fun h : b = D => hb2 (by rw [h]; exact List.mem_cons_self))]
      exact keep1 b o (fun z => hb2 (List.mem_cons_of_mem _ z)) e
/-- the new empty set -/
abbrev newSet (w : World) : Obj := { cls := .type "set", dict := none, data := .set #[] 0 (.fresh 0 0 (!w.params.followText "set-order")) }
theorem setT_new {h : Heap} (ho : h.get? a = some (newSet w)) : SetT w h a ([] : List Str) :=
  ⟨_, #[], 0, _, ho, ⟨rfl, rfl, rfl⟩, rfl, (fun e he => by simp at he), (by simp), (fun k => by simp), Nat.le_refl _, (by decide), (by rfl), List.Pairwise.nil, by
    show _ ∨ (!w.params.followText "set-order") = true
    cases w.params.followText "set-order"
    · exact .inr rfl
    · exact .inl rfl⟩
theorem sub_str_set : isSubtype (.type "str") (.type "set") = pure false := by rw [isSubtype_type]; kernel_rfl
theorem sub_str_frozenset : isSubtype (.type "str") (.type "frozenset") = pure false := by rw [isSubtype_type]; kernel_rfl
set_option maxHeartbeats 6400000 in
theorem call_setText {x : Str} {t : Tok} {xs : List Str} (hx : xs = x.cps.toList.map fun c => (⟨#[c]⟩ : Str)) {Q : Value → Shared → Prop} (hh : A.handled = none) (hb : xs.length + 1 < scanBound)
    (h : ∀ (h' : Heap) (tk : Nat), SetT w h' s.heap.objs.size xs.reverse → (∀ b o, s.heap.get? b = some o → h'.get? b = some o) → Q (.ref s.heap.objs.size) { s with heap := h', toks := tk }) :
    wpAny (model P w) A (call (.type "set") [.str x t]) Q E s := by
  obtain ⟨cc, tl, mroE⟩ := F.called_set.mro
  have madeE := F.called_set.made
  have subE := F.called_set.sub
  refine wpAny_call (codeAny_of_tree (show wpAny _ _ (callAny (.type "set") _) _ _ _ from ?_))
  refine wpAny_pure ⟨Code.quiet_builtin _ (by decide +kernel), codeAny_builtin F.entry_type_call ?_⟩
  rw [Around.under_plain (weight_type_call_type "set" [.str x t] []) rfl]
  have c1 := F.called_set.notType
  have c2 := F.called_set.canCreate
  have c3 := F.typeCall_set_1 (.str x t)
  repeat (any_goals (first | assumption | wp_step))

  refine codeAny_mono (code_set_led1 (.str x t) (E := E) (Q₁ := fun obj s₁ => obj = .ref s.heap.objs.size ∧ s₁ = { s with heap := s.heap.push (newSet w) }) ⟨rfl, rfl⟩) fun r s₁ hr => ?_
  cases r with
  | error e => exact hr
  | ok fl =>
    cases fl with
    | ret obj =>
      obtain ⟨rfl, rfl⟩ := hr
      have qS : (s.heap.push (newSet w)).get? s.heap.objs.size = some (newSet w) := Heap.get?_push_size _ rfl
      have qT : Shared.TypeIs { s with heap := s.heap.push (newSet w) } (.ref s.heap.objs.size) "set" := ⟨_, qS, rfl⟩
      have i1 := F.called_set.init.lookup
      have i2 := F.called_set.init.bind (.ref s.heap.objs.size)
      repeat (any_goals (first | assumption | wp_step))

      refine codeAny_mono (codeAny_call_builtin (R := wants (fun r s₂ => r = .none ∧ ∃ h' tk, s₂ = { s with heap := h', toks := tk } ∧ SetT w h' s.heap.objs.size xs.reverse ∧
          (∀ b o, s.heap.get? b = some o → h'.get? b = some o)) E) F.called_set.init.plain F.entry_set_init (check_set_init_1 qT ?_)) fun r₂ s₂ hr₂ => ?_
      · have hne : (Value.type "str" == Value.type "dict") = false := by decide
        have hs1 := sub_str_set
        have hs2 := sub_str_frozenset
        unfold Builtin.«set.__init__» noKeywords Builtin.Frozenset.updateFrom
        generalize hPI : pyIter = PI
        wp_walk
        subst hPI
        refine wpAny_pyIter_str fun o St hW hst => ?_
        refine wpAny_bind (wpAny_runValue ?_)
        have sz1 : (s.heap.push (newSet w)).objs.size = s.heap.objs.size + 1 := Heap.size_push ..
        refine setT_update (hW _ (by simp [hh])) s.heap.objs.size (by rw [sz1]; simp) xs (by rw [hx]; simp) hb ?_ _ 0 _ rfl (Nat.zero_le _) hst ?_ ?_
        · rintro i v ⟨c, u, hc, rfl⟩
          exact ⟨⟨#[c]⟩, u, by rw [hx, List.getElem?_map, Array.getElem?_toList, hc]; rfl, rfl⟩
        · exact setT_new (Heap.get?_push_of_some _ qS)
        · intro h' tk' keep S1
          refine wpAny_pure (show wpAny _ _ (ret Value.none) _ _ _ from wpAny_pure ⟨rfl, h', tk', rfl, S1, fun b o e => ?_⟩)
          have lt0 : b < s.heap.objs.size := Heap.lt_size e
          refine keep b o ?_ (Heap.get?_push_of_some _ (Heap.get?_push_of_some _ e))
          rw [sz1]
          simp only [List.mem_cons, List.not_mem_nil, or_false, not_or]
          exact ⟨Nat.ne_of_lt lt0, Nat.ne_of_lt (Nat.lt_succ_of_lt lt0)⟩
      · cases r₂ with
        | error e => exact hr₂
        | ok fl₂ =>
          cases fl₂ with
          | ret r =>
            obtain ⟨rfl, h', tk, rfl, S1, keep1⟩ := hr₂
            repeat (any_goals (first | assumption | wp_step))
            exact h _ _ S1 keep1
          | _ => exact hr₂.elim
    | _ => exact hr.elim
end
end Lv

set_option Elab.async false
set_option linter.all false
set_option maxRecDepth 100000
set_option maxHeartbeats 3200000
namespace Lv
open PySem PySem.Spec PyProof.Rows L2 SX
theorem strs_at : ∀ {vs : List Value} {xs : List Str}, StrsAre vs xs → ∀ {i : Nat} {v : Value}, vs[i]? = some v → ∃ k t, xs[i]? = some k ∧ v = .str k t
  | _, _, .nil, i, v, h => by simp at h
  | _, _, .cons x t r, 0, v, h => ⟨x, t, rfl, (Option.some.inj h).symm⟩
  | _, _, .cons x t r, i + 1, v, h => strs_at r (i := i) h
section
variable {P : Program} {w : World} {A : Around} {E : Value → Shared → Prop} {s : Shared} {a : Addr} {L : List Str}
set_option maxHeartbeats 6400000 in
theorem call_setList {l : Addr} {items : Array Value} {xs : List Str} (hl : s.heap.IsList l items) (hx : StrsAre items.toList xs) {Q : Value → Shared → Prop} (hh : A.handled = none) (hb : xs.length + 1 < scanBound)
    (h : ∀ (h' : Heap) (tk : Nat), SetT w h' s.heap.objs.size xs.reverse → (∀ b o, s.heap.get? b = some o → h'.get? b = some o) → Q (.ref s.heap.objs.size) { s with heap := h', toks := tk }) :
    wpAny (model P w) A (call (.type "set") [.ref l]) Q E s := by
  obtain ⟨cc, tl, mroE⟩ := F.called_set.mro
  have madeE := F.called_set.made
  have subE := F.called_set.sub
  refine wpAny_call (codeAny_of_tree (show wpAny _ _ (callAny (.type "set") _) _ _ _ from ?_))
  refine wpAny_pure ⟨Code.quiet_builtin _ (by decide +kernel), codeAny_builtin F.entry_type_call ?_⟩
  rw [Around.under_plain (weight_type_call_type "set" [.ref l] []) rfl]
  have c1 := F.called_set.notType
  have c2 := F.called_set.canCreate
  have c3 := F.typeCall_set_1 (.ref l)
  repeat (any_goals (first | assumption | wp_step))

  refine codeAny_mono (code_set_led1 (.ref l) (E := E) (Q₁ := fun obj s₁ => obj = .ref s.heap.objs.size ∧ s₁ = { s with heap := s.heap.push (newSet w) }) ⟨rfl, rfl⟩) fun r s₁ hr => ?_
  cases r with
  | error e => exact hr
  | ok fl =>
    cases fl with
    | ret obj =>
      obtain ⟨rfl, rfl⟩ := hr
      have qS : (s.heap.push (newSet w)).get? s.heap.objs.size = some (newSet w) := Heap.get?_push_size _ rfl
      have qT : Shared.TypeIs { s with heap := s.heap.push (newSet w) } (.ref s.heap.objs.size) "set" := ⟨_, qS, rfl⟩
      have i1 := F.called_set.init.lookup
      have i2 := F.called_set.init.bind (.ref s.heap.objs.size)
      repeat (any_goals (first | assumption | wp_step))

      refine codeAny_mono (codeAny_call_builtin (R := wants (fun r s₂ => r = .none ∧ ∃ h' tk, s₂ = { s with heap := h', toks := tk } ∧ SetT w h' s.heap.objs.size xs.reverse ∧
          (∀ b o, s.heap.get? b = some o → h'.get? b = some o)) E) F.called_set.init.plain F.entry_set_init (check_set_init_1 qT ?_)) fun r₂ s₂ hr₂ => ?_
      · have hne : (Value.type "list" == Value.type "dict") = false := by decide
        have hs1 := F.sub_list_set
        have hs2 := F.sub_list_frozenset
        have lst1 := hl.push (newSet w)
        obtain ⟨lo, hlo, hlc, ln, hld⟩ := hl
        obtain ⟨ocls, odict, odata, oslots⟩ := lo
        simp only at hlc hld
        subst hlc; subst hld
        have hlo' : (s.heap.push (newSet w)).get? l = some { cls := .type "list", dict := odict, data := .seq items ln, slots := oslots } := Heap.get?_push_of_some _ hlo
        unfold Builtin.«set.__init__» noKeywords Builtin.Frozenset.updateFrom
        generalize hPI : pyIter = PI
        wp_walk
        subst hPI
        refine wpAny_pyIter_list lst1 ?_
        refine wpAny_bind (wpAny_runValue ?_)
        have sz1 : (s.heap.push (newSet w)).objs.size = s.heap.objs.size + 1 := Heap.size_push ..
        have ltl : l < s.heap.objs.size := Heap.lt_size hlo
        have nel : l ≠ (s.heap.push (newSet w)).objs.size := by rw [sz1]; exact Nat.ne_of_lt (Nat.lt_succ_of_lt ltl)
        have lenE : items.size = xs.length := by rw [← hx.length, Array.length_toList]
        refine setT_update (Walks.list (by simp [hh]) _ l nel items) s.heap.objs.size ?_ xs lenE hb ?_ _ 0 _ rfl (Nat.zero_le _) ⟨⟨_, Heap.get?_push_size _ rfl, rfl, rfl⟩, lst1.push _⟩ ?_ ?_
        · rw [sz1]
          simp only [List.mem_cons, List.not_mem_nil, or_false, not_or]
          exact ⟨Nat.ne_of_lt (Nat.lt_succ_self _), Nat.ne_of_gt ltl⟩
        · intro i v hv
          exact strs_at hx (by rw [Array.getElem?_toList]; exact hv)
        · exact setT_new (Heap.get?_push_of_some _ qS)
        · intro h' tk' keep S1
          refine wpAny_pure (show wpAny _ _ (ret Value.none) _ _ _ from wpAny_pure ⟨rfl, h', tk', rfl, S1, fun b o e => ?_⟩)
          have lt0 : b < s.heap.objs.size := Heap.lt_size e
          refine keep b o ?_ (Heap.get?_push_of_some _ (Heap.get?_push_of_some _ e))
          rw [sz1]
          simp only [List.mem_cons, List.not_mem_nil, or_false, not_or]
          exact ⟨Nat.ne_of_lt lt0, Nat.ne_of_lt (Nat.lt_succ_of_lt lt0)⟩
      · cases r₂ with
        | error e => exact hr₂
        | ok fl₂ =>
          cases fl₂ with
          | ret r =>
            obtain ⟨rfl, h', tk, rfl, S1, keep1⟩ := hr₂
            repeat (any_goals (first | assumption | wp_step))
            exact h _ _ S1 keep1
          | _ => exact hr₂.elim
    | _ => exact hr.elim
end
end Lv

set_option Elab.async false
set_option linter.all false
set_option maxRecDepth 100000
set_option maxHeartbeats 3200000
namespace Lv
open PySem PySem.Spec PyProof.Rows L2 SX
/-! ### sorted(set(x)), len(set(x)) of texts -/
theorem strs_of : ∀ (l : List Value), (∀ v ∈ l, ∃ k tk, v = Value.str k tk) → StrsAre l (l.map fun v => kyS (0, v))
  | [], _ => .nil
  | v :: l, h => by
    obtain ⟨k, tk, rfl⟩ := h v List.mem_cons_self
    exact .cons k tk (strs_of l fun u hu => h u (List.mem_cons_of_mem _ hu))
section
variable {P : Program} {w : World} {A : Around} {E : Value → Shared → Prop} {s : Shared} {a : Addr} {L : List Str}
theorem sorted_setT {Q : Value → Shared → Prop} (R : SetT w s.heap a L) (hh : A.handled = none)
    (hQ : ∀ s' p (out : Array Value) (c : Nat) (ys : List Str), (∀ b o, s.heap.get? b = some o → s'.heap.get? b = some o) → s'.gens = s.gens → s'.os = s.os → s.heap.objs.size ≤ p →
      s'.heap.get? p = some (seqObj "list" out c) → StrsAre out.toList ys → sortedS ys = true → ys.Nodup → (∀ k, k ∈ ys ↔ k ∈ L) → ys.length ≤ L.length → Q (.ref p) s') :
    wpAny (model P w) A (call (.builtin "sorted") [.ref a]) Q E s := by
  obtain ⟨o, es, ep, t, qo, qx, qd, g, nd, hm, hz, hb, hf, hr, hl⟩ := R
  refine Calls.call_function_entry kind_sorted plain_sorted entry_sorted (args_sorted1 _) ?_
  unfold Builtin.«sorted»
  refine wpAny_bind (m := checkCount "sorted" 1 1 _) (wpAny_pure (wpAny_bind (collect_set (A := A.in1) hh ⟨o, qo, qx.1, qd⟩ hf hb hr hl fun s1 vs k1 z1 g1 o1 pm => ?_)))
  have lenV : vs.length = es.size := by rw [pm.length_eq, List.length_map, Array.length_toList]
  have strV : StrsAre vs (vs.map fun v => kyS (0, v)) := strs_of vs fun v hv => by
    obtain ⟨e, he, q⟩ := List.mem_map.mp (pm.mem_iff.mp hv)
    obtain ⟨k, tk, h1, _⟩ := g e he
    exact ⟨k, tk, by rw [← q]; exact h1⟩
  have pk : (vs.map fun v => kyS (0, v)).Perm (es.toList.map kyS) := by
    have q := pm.map fun v => kyS (0, v)
    rw [List.map_map] at q
    exact q
  have lenL : vs.length ≤ sizeLine := by
    rw [lenV, sizeLine_eq]
    have : es.size < scanBound := hb
    unfold scanBound at this
    omega
  refine wpAny_bind (wpAny_newList ?_ lenL)
  have qL : (s1.heap.push (seqObj "list" vs.toArray 0)).get? s1.heap.objs.size = some (seqObj "list" vs.toArray 0) := Heap.get?_push_size _ rfl
  refine wpAny_bind (wpAny_holding (wpAny_call_entry slot_list_sort ⟨_, qL, rfl⟩ entry_list_sort (list_sort_treeKAny strKind_oneLt qL strV.keysOf (fun v₁ v₂ rest e => keyKind_strs (by rw [← e]; exact strV)) lenL fun st' hp hs => ⟨_, rfl, ?_⟩) (args_list_sort _)))
  obtain ⟨ys, a1, a2, a3⟩ := sorted_out_str strV hp hs
  obtain ⟨c, hc⟩ := sortedHeap_at (vs := vs) (out := (arrOf st').map (·.2)) qL
  have pn : ys.Perm (es.toList.map kyS) := a2.trans pk
  refine wpAny_pure ⟨_, rfl, hQ _ s1.heap.objs.size _ c ys (fun b u e => ?_) g1 o1 z1 hc a1 a3 (pn.nodup_iff.mpr nd) (fun k => by rw [pn.mem_iff, ← hm k]) (by rw [pn.length_eq, List.length_map, Array.length_toList]; exact hz)⟩
  have q := k1 b u e
  have lt1 := Heap.lt_size q
  show (sortedHeap (s1.heap.push (seqObj "list" vs.toArray 0)) s1.heap.objs.size vs _).get? b = some u
  rw [sortedHeap_old (Nat.ne_of_lt lt1) (by rw [size_push']; exact Nat.lt_succ_of_lt lt1)]
  exact Heap.get?_push_of_some _ q
end
theorem lt_trichotomyL : ∀ a b : List Nat, a < b ∨ a = b ∨ b < a
  | [], [] => .inr (.inl rfl)
  | [], _ :: _ => .inl .nil
  | _ :: _, [] => .inr (.inr .nil)
  | x :: a, y :: b => by
    rcases Nat.lt_trichotomy x y with h | h | h
    · exact .inl (.rel h)
    · subst h
      rcases lt_trichotomyL a b with z | z | z
      · exact .inl (.cons z)
      · exact .inr (.inl (by rw [z]))
      · exact .inr (.inr (.cons z))
    · exact .inr (.inr (.rel h))
theorem ltCps_iff : ∀ (a b : List Nat), ltCps a b = true ↔ a < b
  | [], [] => ⟨fun h => (nomatch h), fun h => (nomatch h)⟩
  | [], _ :: _ => ⟨fun _ => .nil, fun _ => rfl⟩
  | _ :: _, [] => ⟨fun h => (nomatch h), fun h => (nomatch h)⟩
  | x :: a, y :: b => by
    show (decide (x < y) || (x == y && ltCps a b)) = true ↔ _
    rw [Bool.or_eq_true, Bool.and_eq_true, decide_eq_true_iff, beq_iff_eq, ltCps_iff a b]
    constructor
    · rintro (h | ⟨h, k⟩)
      · exact .rel h
      · subst h; exact .cons k
    · intro h
      cases h with
      | rel h => exact .inl h
      | cons h => exact .inr ⟨rfl, h⟩
/-- rising texts that are unlike rise strictly -/
theorem sortedS_lt : ∀ {ys : List Str}, sortedS ys = true → ys.Nodup → (ys.map fun y => y.cps.toList).Pairwise (· < ·)
  | [], _, _ => List.Pairwise.nil
  | [x], _, _ => List.pairwise_singleton _ _
  | x :: y :: r, h, d => by
    have h2 : (!ltCps y.cps.toList x.cps.toList && risingS y r) = true := h
    rw [Bool.and_eq_true] at h2
    have ih := sortedS_lt (ys := y :: r) h2.2 (List.nodup_cons.mp d).2
    have n1 : ¬ y.cps.toList < x.cps.toList := fun z => by
      have := (ltCps_iff _ _).mpr z
      rw [this] at h2
      exact absurd h2.1 (by decide)
    have ne : x.cps.toList ≠ y.cps.toList := fun z => by
      have e : x = y := by
        cases x; cases y
        exact congrArg Str.mk (Array.toList_inj.mp z)
      exact (List.nodup_cons.mp d).1 (by rw [e]; exact List.mem_cons_self)
    have lt1 : x.cps.toList < y.cps.toList := by
      rcases lt_trichotomyL x.cps.toList y.cps.toList with z | z | z
      · exact z
      · exact absurd z ne
      · exact absurd z n1
    refine List.pairwise_cons.mpr ⟨fun z hz => ?_, ih⟩
    rcases List.mem_cons.mp hz with q | q
    · rw [q]; exact lt1
    · exact List.lt_trans lt1 ((List.pairwise_cons.mp ih).1 z q)
/-- the unlike signs of a text, rising -/
def tSortSetS (ta : TA) : TE := fun σ H Q => ta σ H fun vs H1 => ∃ l : List Nat, vs = [.str (S l)] ∧ l.length ≤ 1000 ∧ ∀ (ys : List Nat) (p : Addr), ys.Pairwise (· < ·) → (∀ c, c ∈ ys ↔ c ∈ l) → H1 p = none → Q (.ref p) (upd H1 p (.lst (ys.map vc)))
section
variable {X : Cx} {e : Expr} {ta : TA} {p1 p2 pos pos2 : Pos}
theorem pe_sortSetS (hc : X.calm = true) (hg1 : Gl X "sorted") (hm1 : X.mg "sorted" = none) (hg2 : Gl X "set") (hm2 : X.mg "set" = none) (ha : PA X [e] ta)
    (hs : starEach [e] X.env = [(false, eval e X.env)] := by rfl) (hs2 : starEach [.Call (.Name "set" p2) [e] [] pos2] X.env = [(false, eval (.Call (.Name "set" p2) [e] [] pos2) X.env)] := by rfl) :
    PE X (.Call (.Name "sorted" p1) [.Call (.Name "set" p2) [e] [] pos2] [] pos) (tSortSetS ta) := by
  refine ⟨fun pins s σ H Q I h => ?_⟩
  refine wpAny_Call_Name_kw (ld_blt I hg1 hm1 (by decide +kernel : bootBuiltins "sorted" = some (.builtin "sorted")) ?_)
  refine callWith_builtin1 ?_ hs2 rfl
  rw [hs2]
  refine Calls.spliced_cons ?_
  refine wpAny_Call_Name_kw (ld_blt I hg2 hm2 boot_set (callWith_type1 (thn (ha.run pos2 pins s σ H _ I h) fun us s1 ⟨vs, H1, I1, r1, q1⟩ => ?_) hs rfl))
  obtain ⟨l, rfl, hl, q⟩ := q1
  cases r1 with
  | cons r rr =>
    cases rr
    obtain ⟨t, rfl⟩ := r
    have hd := I1.ok.hd hc
    refine call_setText (xs := l.map fun c => (⟨#[c]⟩ : Str)) (by simp [S]) hd (by rw [List.length_map]; unfold scanBound; omega) fun h' tk R1 keep => ?_
    refine Calls.spliced_nil ?_
    refine sorted_setT (s := { s1 with heap := h', toks := tk }) R1 hd fun s' p out c ys k g o hp hq hi hs3 hn hm hle => ?_
    have one : ∀ y ∈ ys, ∃ c, c ∈ l ∧ y = S [c] := fun y hy => by
      have := (hm y).mp hy
      rw [List.mem_reverse, List.mem_map] at this
      obtain ⟨c, h1, h2⟩ := this
      exact ⟨c, h1, h2.symm⟩
    have pw := sortedS_lt hs3 hn
    have eys : ys = (ys.map fun y => y.cps.toList.headD 0).map fun c => S [c] := by
      rw [List.map_map]
      refine (List.map_id ys).symm.trans (List.map_congr_left fun y hy => ?_)
      obtain ⟨c, _, rfl⟩ := one y hy
      rfl
    generalize ezs : (ys.map fun y => y.cps.toList.headD 0) = zs at eys
    subst eys
    have pz : zs.Pairwise (· < ·) := by
      rw [List.map_map, List.pairwise_map] at pw
      exact pw.imp fun h => lt_one.mp h
    have mz : ∀ c, c ∈ zs ↔ c ∈ l := fun c => by
      have h1 := hm (S [c])
      rw [List.mem_reverse] at h1
      constructor
      · intro hc
        obtain ⟨d, h2, h3⟩ := List.mem_map.mp (h1.mp (List.mem_map.mpr ⟨c, hc, rfl⟩))
        have : d = c := by
          have h4 : S [d] = S [c] := h3
          have h5 := S_inj.mp h4
          injection h5
        rw [← this]; exact h2
      · intro hc
        obtain ⟨d, h2, h3⟩ := List.mem_map.mp (h1.mpr (List.mem_map.mpr ⟨c, hc, rfl⟩))
        have : d = c := by
          have h5 := S_inj.mp h3
          injection h5
        rw [← this]; exact h2
    have lenZ : (zs.map vc).length ≤ sizeLine := by
      rw [List.length_map]
      refine le_line ?_
      rw [List.length_map, List.length_reverse, List.length_map] at hle
      omega
    have k' : ∀ b u, s1.heap.get? b = some u → s'.heap.get? b = some u := fun b u e => k b u (keep b u e)
    have hp' : s1.heap.objs.size ≤ p := by
      obtain ⟨o1, _, _, _, qo1, _⟩ := R1
      exact Nat.le_trans (Nat.le_of_lt (Heap.lt_size qo1)) hp
    have hn1 : H1 p = none := I1.hok.fresh hp'
    have J : Inv X pins σ (upd H1 p (.lst (zs.map vc))) { s1 with heap := s'.heap, gens := s'.gens, drawn := s'.drawn, toks := s'.toks } :=
      I1.call (ch := []) (Un.laid k' hp' hn1) (I1.hok.laid k' hp' ⟨lenZ, out.toList, c, ?_, hq⟩) (by rw [g]; exact I1.bare) (fun _ z => nomatch z)
    · have es : s' = { s1 with heap := s'.heap, gens := s'.gens, drawn := s'.drawn, toks := s'.toks } := by
        cases s'
        cases o
        rfl
      rw [es]
      exact ⟨.ref p, _, J, rfl, q zs p pz mz hn1⟩
    · have := vals_of_strs hi
      rw [List.map_map] at this
      exact this
end
/-- the unlike texts of a list, rising -/
def tSortSetL (K : PySem.W.Frag) (ta : TA) : TE := fun σ H Q => ta σ H fun xs H1 => ∃ (a : Addr) (ls : List (List Nat)), xs = [.ref a] ∧ SqL K H1 a (ls.map vs) ∧ ls.length ≤ 1000 ∧ ∀ (ys : List (List Nat)) (p : Addr), ys.Pairwise (· < ·) → (∀ c, c ∈ ys ↔ c ∈ ls) → H1 p = none → Q (.ref p) (upd H1 p (.lst (ys.map vs)))
section
variable {X : Cx} {e : Expr} {ta : TA} {p1 p2 pos pos2 : Pos}
theorem pe_sortSetL (hc : X.calm = true) (hg1 : Gl X "sorted") (hm1 : X.mg "sorted" = none) (hg2 : Gl X "set") (hm2 : X.mg "set" = none) (ha : PA X [e] ta)
    (hs : starEach [e] X.env = [(false, eval e X.env)] := by rfl) (hs2 : starEach [.Call (.Name "set" p2) [e] [] pos2] X.env = [(false, eval (.Call (.Name "set" p2) [e] [] pos2) X.env)] := by rfl) :
    PE X (.Call (.Name "sorted" p1) [.Call (.Name "set" p2) [e] [] pos2] [] pos) (tSortSetL X.K ta) := by
  refine ⟨fun pins s σ H Q I h => ?_⟩
  refine wpAny_Call_Name_kw (ld_blt I hg1 hm1 (by decide +kernel : bootBuiltins "sorted" = some (.builtin "sorted")) ?_)
  refine callWith_builtin1 ?_ hs2 rfl
  rw [hs2]
  refine Calls.spliced_cons ?_
  refine wpAny_Call_Name_kw (ld_blt I hg2 hm2 boot_set (callWith_type1 (thn (ha.run pos2 pins s σ H _ I h) fun us s1 ⟨vs, H1, I1, r1, q1⟩ => ?_) hs rfl))
  obtain ⟨lp, ls, rfl, hq1, hl, q⟩ := q1
  cases r1 with
  | cons r rr =>
    cases rr
    cases r
    have hd := I1.ok.hd hc
    obtain ⟨its, rv, pt, hz0⟩ := I1.list hq1
    have st1 : StrsAre its (ls.map fun l => S l) := by
      have e : ls.map vs = (ls.map fun l => S l).map V.str := by rw [List.map_map]; rfl
      rw [e] at rv
      exact rv.strs
    have st2 : StrsAre its.toArray.toList (ls.map fun l => S l) := by simpa using st1
    have pt2 : s1.heap.IsList lp its.toArray := pt.isList
    refine call_setList (xs := ls.map fun l => S l) pt2 st2 hd (by rw [List.length_map]; unfold scanBound; omega) fun h' tk R1 keep => ?_
    refine Calls.spliced_nil ?_
    refine sorted_setT (s := { s1 with heap := h', toks := tk }) R1 hd fun s' p out c ys k g o hp hq hi hs3 hn hm hle => ?_
    have one : ∀ y ∈ ys, ∃ c, c ∈ ls ∧ y = S c := fun y hy => by
      have := (hm y).mp hy
      rw [List.mem_reverse, List.mem_map] at this
      obtain ⟨c, h1, h2⟩ := this
      exact ⟨c, h1, h2.symm⟩
    have pw := sortedS_lt hs3 hn
    have eys : ys = (ys.map fun y => y.cps.toList).map fun c => S c := by
      rw [List.map_map]
      refine (List.map_id ys).symm.trans (List.map_congr_left fun y hy => ?_)
      obtain ⟨c, _, rfl⟩ := one y hy
      rfl
    generalize ezs : (ys.map fun y => y.cps.toList) = zs at eys pw
    subst eys
    have mz : ∀ c, c ∈ zs ↔ c ∈ ls := fun c => by
      have h1 := hm (S c)
      rw [List.mem_reverse] at h1
      constructor
      · intro hc
        obtain ⟨d, h2, h3⟩ := List.mem_map.mp (h1.mp (List.mem_map.mpr ⟨c, hc, rfl⟩))
        rw [← S_inj.mp h3]; exact h2
      · intro hc
        obtain ⟨d, h2, h3⟩ := List.mem_map.mp (h1.mpr (List.mem_map.mpr ⟨c, hc, rfl⟩))
        rw [← S_inj.mp h3]; exact h2
    have lenZ : (zs.map vs).length ≤ sizeLine := by
      rw [List.length_map]
      refine le_line ?_
      rw [List.length_map, List.length_reverse, List.length_map] at hle
      omega
    have k' : ∀ b u, s1.heap.get? b = some u → s'.heap.get? b = some u := fun b u e => k b u (keep b u e)
    have hp' : s1.heap.objs.size ≤ p := by
      obtain ⟨o1, _, _, _, qo1, _⟩ := R1
      exact Nat.le_trans (Nat.le_of_lt (Heap.lt_size qo1)) hp
    have hn1 : H1 p = none := I1.hok.fresh hp'
    have J : Inv X pins σ (upd H1 p (.lst (zs.map vs))) { s1 with heap := s'.heap, gens := s'.gens, drawn := s'.drawn, toks := s'.toks } :=
      I1.call (ch := []) (Un.laid k' hp' hn1) (I1.hok.laid k' hp' ⟨lenZ, out.toList, c, ?_, hq⟩) (by rw [g]; exact I1.bare) (fun _ z => nomatch z)
    · have es : s' = { s1 with heap := s'.heap, gens := s'.gens, drawn := s'.drawn, toks := s'.toks } := by
        cases s'
        cases o
        rfl
      rw [es]
      exact ⟨.ref p, _, J, rfl, q zs p pw mz hn1⟩
    · have := vals_of_strs hi
      rw [List.map_map] at this
      exact this
end
section
variable {K : PySem.W.Frag} {σ : L2.St} {H : Hp} {Q : VK} {ta : TA}
theorem i_sortSetS (h : ta σ H fun vs H1 => ∃ l : List Nat, vs = [.str (S l)] ∧ l.length ≤ 1000 ∧ ∀ (ys : List Nat) (p : Addr), ys.Pairwise (· < ·) → (∀ c, c ∈ ys ↔ c ∈ l) → H1 p = none → Q (.ref p) (upd H1 p (.lst (ys.map vc)))) : tSortSetS ta σ H Q := h
theorem i_sortSetL (h : ta σ H fun xs H1 => ∃ (a : Addr) (ls : List (List Nat)), xs = [.ref a] ∧ SqL K H1 a (ls.map vs) ∧ ls.length ≤ 1000 ∧ ∀ (ys : List (List Nat)) (p : Addr), ys.Pairwise (· < ·) → (∀ c, c ∈ ys ↔ c ∈ ls) → H1 p = none → Q (.ref p) (upd H1 p (.lst (ys.map vs)))) : tSortSetL K ta σ H Q := h
end
end Lv

set_option Elab.async false
set_option linter.all false
set_option maxRecDepth 100000
set_option maxHeartbeats 2000000
namespace Lv
open PySem PySem.Spec PyProof.Rows L2 SX
/-! ### text.count(sign), text.index(sign) -/
section
open Builtin Builtin.Str
theorem at_S {l : List Nat} {c i : Nat} : (i + (S [c]).length ≤ (S l).length ∧ subAt (S l) (S [c]) i = true) ↔ l[i]? = some c := by
  have := StrLaws.subAt_one (S l) c i
  simpa [S] using this
theorem occ_count (l : List Nat) (c limit : Nat) : ∀ (n a : Nat) (arr : Array Nat) (f : Nat), f ≤ a → arr.size + n ≤ limit →
    (forIn (List.range' a n) (arr, f) (StrLaws.occBody (S l) (S [c]) (S l).length limit)).run.fst.size = arr.size + ((l.drop a).take n).count c
  | 0, a, arr, f, _, _ => by simp
  | n + 1, a, arr, f, hf, hl => by
    rw [List.range'_succ, List.forIn_cons]
    unfold StrLaws.occBody
    by_cases z : l[a]? = some c
    · obtain ⟨z1, z2⟩ := at_S.mpr z
      rw [if_pos ⟨⟨⟨by show arr.size < limit; omega, hf⟩, z1⟩, z2⟩]
      have ih := occ_count l c limit n (a + 1) (arr.push a) (a + (S [c]).length) (by simp [S_len]) (by simp; omega)
      have e1 : (l.drop a) = c :: l.drop (a + 1) := by
        obtain ⟨h1, h2⟩ := List.getElem?_eq_some_iff.mp z
        rw [List.drop_eq_getElem_cons h1, h2]
      rw [e1, List.take_succ_cons, List.count_cons_self]
      have : (arr.push a).size = arr.size + 1 := by simp
      rw [this] at ih
      exact ih.trans (by omega)
    · rw [if_neg fun h => z (at_S.mp ⟨h.1.2, h.2⟩)]
      have ih := occ_count l c limit n (a + 1) arr f (by omega) (by omega)
      refine ih.trans (congrArg (arr.size + ·) ?_)
      by_cases h : a < l.length
      · rw [List.drop_eq_getElem_cons h, List.take_succ_cons, List.count_cons_of_ne]
        intro e
        exact z (List.getElem?_eq_some_iff.mpr ⟨h, e⟩)
      · rw [List.drop_of_length_le (by omega), List.drop_of_length_le (by omega)]
        simp
theorem count_S (l : List Nat) (c : Nat) : Txt.count (S l) (S [c]) = ((l.count c : Nat) : Int) := by
  unfold Txt.count
  rw [StrLaws.occ_eq, Array.length_toList, occ_count l c _ _ _ _ _ (Nat.le_refl _) (by simp)]
  have e : (l.drop 0).take ((S l).length + 1 - 0) = l := by
    rw [List.drop_zero, S_len, List.take_of_length_le (by omega)]
  rw [e]
  simp
theorem index_S {l : List Nat} {c k : Nat} (h : nextP l 0 c = some k) : ∃ r, occurrences (S l) (S [c]) 0 (S l).length 1 = k :: r := by
  obtain ⟨_, h1, h2⟩ := nextP_some.mp h
  rcases StrLaws.occ_head (S l) (S [c]) 1 (Nat.le_refl _) with ⟨_, z⟩ | ⟨i, r, e, z1, z2⟩
  · exact absurd (at_S.mpr h1) (z k)
  · refine ⟨r, ?_⟩
    have e1 := at_S.mp z1
    rcases Nat.lt_trichotomy i k with q | q | q
    · exact absurd e1 (h2 i (Nat.zero_le _) q)
    · rw [e, q]
    · exact absurd (at_S.mpr h1) (z2 k q)
end
def rCount (x : V) (xs : List V) (H : Hp) (Q : VK) : Prop := ∃ (l : List Nat) (c : Nat), x = .str (S l) ∧ xs = [.str (S [c])] ∧ Q (.int ((l.count c : Nat) : Int)) H
def rIndex1 (x : V) (xs : List V) (H : Hp) (Q : VK) : Prop := ∃ (l : List Nat) (c k : Nat), x = .str (S l) ∧ xs = [.str (S [c])] ∧ nextP l 0 c = some k ∧ Q (.int (k : Int)) H
/-- xs < ys of lists of ints -/
def rLtL (K : PySem.W.Frag) : R2 := fun x y H Q => ∃ (a b : Addr) (ns ms : List Int), x = .ref a ∧ y = .ref b ∧ SqL K H a (ns.map V.int) ∧ SqL K H b (ms.map V.int) ∧ Q (.bl (HT.lexLt ns ms)) H
section
variable {X : Cx}
theorem firstLt_lex : ∀ (ns ms : List Int), SeqAt.firstLt (fun j => decide (ns.getD j 0 = ms.getD j 0)) (fun j => decide (ns.getD j 0 < ms.getD j 0)) (decide (ns.length < ms.length)) (List.range (min ns.length ms.length)) = HT.lexLt ns ms := by
  have gen : ∀ (ns ms : List Int) (a b : List Int), a.length = b.length → SeqAt.firstLt (fun j => decide ((a ++ ns).getD j 0 = (b ++ ms).getD j 0)) (fun j => decide ((a ++ ns).getD j 0 < (b ++ ms).getD j 0)) (decide (ns.length < ms.length)) (List.range' a.length (min ns.length ms.length)) = HT.lexLt ns ms := by
    intro ns
    induction ns with
    | nil =>
      intro ms a b e
      cases ms with
      | nil => rfl
      | cons m ms => rfl
    | cons n ns ih =>
      intro ms a b e
      cases ms with
      | nil => rfl
      | cons m ms =>
        have e1 : (a ++ n :: ns).getD a.length 0 = n := by simp
        have e2 : (b ++ m :: ms).getD a.length 0 = m := by rw [e]; simp
        have e3 : min (n :: ns).length (m :: ms).length = min ns.length ms.length + 1 := by simp only [List.length_cons]; omega
        rw [e3, List.range'_succ, HT.lexLt_cons]
        have u1 : (decide ((a ++ n :: ns).getD a.length 0 = (b ++ m :: ms).getD a.length 0)) = decide (n = m) := by rw [e1, e2]
        have u2 : (decide ((a ++ n :: ns).getD a.length 0 < (b ++ m :: ms).getD a.length 0)) = decide (n < m) := by rw [e1, e2]
        by_cases z : n = m
        · have ih2 := ih ms (a ++ [n]) (b ++ [m]) (by simp [e])
          simp only [List.append_assoc, List.singleton_append, List.length_append, List.length_singleton] at ih2
          have e4 : decide ((n :: ns).length < (m :: ms).length) = decide (ns.length < ms.length) := by simp
          rw [SeqAt.firstLt_yes (u1.trans (decide_eq_true z)), if_pos z, e4, ← ih2]
        · rw [SeqAt.firstLt_no (u1.trans (decide_eq_false z)), if_neg z]
          exact u2
  intro ns ms
  have := gen ns ms [] [] rfl
  rw [List.range_eq_range']
  exact this
theorem op_ltL (hu : X.A.units + 64 < cLine) : OpR X (compareOp .Lt) (rLtL X.K) := by
  intro pins s σ H x y v u Q I rx ry h
  obtain ⟨a, b, ns, ms, rfl, rfl, ha, hb, q⟩ := h
  cases rx
  cases ry
  obtain ⟨its, r1, p1, _⟩ := I.list ha
  obtain ⟨its2, r2, p2, _⟩ := I.list hb
  have i1 : IntsAre its ns := intsAre_of r1
  have i2 : IntsAre its2 ms := intsAre_of r2
  have l1 : s.heap.IsList a its.toArray := p1.isList
  have l2 : s.heap.IsList b its2.toArray := p2.isList
  have e1 : its.toArray.size = ns.length := by rw [List.size_toArray]; exact i1.length
  have e2 : its2.toArray.size = ms.length := by rw [List.size_toArray]; exact i2.length
  have at1 : ∀ j (h1 : j < its.toArray.size), ∃ t, its.toArray[j] = .int (ns.getD j 0) t := fun j h1 => PyProof.Rows.IntsAre.int_at i1 j _ (by rw [List.size_toArray] at h1; rw [List.getElem?_eq_getElem h1]; simp)
  have at2 : ∀ j (h1 : j < its2.toArray.size), ∃ t, its2.toArray[j] = .int (ms.getD j 0) t := fun j h1 => PyProof.Rows.IntsAre.int_at i2 j _ (by rw [List.size_toArray] at h1; rw [List.getElem?_eq_getElem h1]; simp)
  have key := SeqAt.RcLt.lists (A := X.A) (s := s) (e := fun j => decide (ns.getD j 0 = ms.getD j 0)) (r := fun j => decide (ns.getD j 0 < ms.getD j 0)) l1 l2 (by omega) (fun j h1 h2 => by
      obtain ⟨t1, q1⟩ := at1 j h1
      obtain ⟨t2, q2⟩ := at2 j h2
      rw [q1, q2]
      exact SeqAt.EqAt.int_int _ _ _ _) (fun j h1 h2 _ => by
      obtain ⟨t1, q1⟩ := at1 j h1
      obtain ⟨t2, q2⟩ := at2 j h2
      rw [q1, q2]
      exact fun prog w E Q hq => PyProof.Rows.lt_int hq)
  rw [e1, e2, firstLt_lex] at key
  exact key X.prog X.w _ _ ⟨.bl _, H, I, rfl, q⟩
theorem mt_countS : MtR X "str.count" rCount := by
  intro pins s σ H x xs v us Q I rx r h
  obtain ⟨l, c, rfl, rfl, q⟩ := h
  refine mt_count pins s σ H _ _ v us Q I rx r ⟨_, _, rfl, rfl, ?_⟩
  rw [count_S]
  exact q
theorem mt_index1S : MtR X "str.index" rIndex1 := by
  intro pins s σ H x xs v us Q I rx r h
  obtain ⟨l, c, k, rfl, rfl, hk, q⟩ := h
  obtain ⟨rest, e⟩ := index_S hk
  exact mt_sindex pins s σ H _ _ v us Q I rx r ⟨_, _, k, rest, rfl, rfl, e, q⟩
end
section
variable {K : PySem.W.Frag} {H : Hp} {Q : VK}
theorem i_count {l : List Nat} {c : Nat} (h : Q (.int ((l.count c : Nat) : Int)) H) : rCount (.str (S l)) [.str (S [c])] H Q := ⟨l, c, rfl, rfl, h⟩
theorem i_index1 {l : List Nat} {c k : Nat} (hk : nextP l 0 c = some k) (h : Q (.int (k : Int)) H) : rIndex1 (.str (S l)) [.str (S [c])] H Q := ⟨l, c, k, rfl, rfl, hk, h⟩
end
/-- while: an invariant with what falls -/
theorem wh {tt : TT} {tb : TS} {D : Ends} {σ : L2.St} {H : Hp} (W : Nat → L2.St → Hp → Prop) (m : Nat) (h0 : W m σ H)
    (step : ∀ m σ H, W m σ H → tt σ H fun b H1 => if b = true then ∃ N : L2.St → Hp → Prop, (∀ σ' H', N σ' H' → ∃ m', m' < m ∧ W m' σ' H') ∧ tb { D with nx := N, ct := N, bk := D.nx } σ H1 else D.nx σ H1) : tWhile tt tb D σ H :=
  ⟨W, ⟨m, h0⟩, step⟩
theorem i_turn {tb : TS} {σ : L2.St} {H1 : Hp} {r : VK} {b : L2.St → Hp → Prop} {W : Nat → L2.St → Hp → Prop} {m : Nat} (h : tb { nx := fun σ' H' => ∃ m', m' < m ∧ W m' σ' H', rt := r, bk := b, ct := fun σ' H' => ∃ m', m' < m ∧ W m' σ' H' } σ H1) :
    ∃ N : L2.St → Hp → Prop, (∀ σ' H', N σ' H' → ∃ m', m' < m ∧ W m' σ' H') ∧ tb { nx := N, rt := r, bk := b, ct := N } σ H1 := ⟨_, fun _ _ h => h, h⟩
end Lv

set_option Elab.async false
set_option linter.all false
set_option maxRecDepth 100000
set_option maxHeartbeats 2000000
namespace Lv
open PySem PySem.Spec PyProof.Rows L2 SX
/-! zip of two lists -/
section
variable {K : PySem.W.Frag} {g : TG} {tb : TS} {D : Ends} {σ : L2.St} {H : Hp} {te : TE} {tt : TT} {vs : List Nat} {Q : VK} {R : It → Hp → Prop} {ta : TA} {a b : Addr} {xs ys : List V}
abbrev YZ (xs ys : List V) : Nat → List V → Prop := fun i zs => ∃ x y, xs[i]? = some x ∧ ys[i]? = some y ∧ zs = [x, y]
theorem c_z (h : LcG (fun H => SqL K H a xs ∧ SqL K H b ys) (min xs.length ys.length) (YT (YZ xs ys)) g tt te vs σ H Q) : LcJ (Itz K a b) g tt te vs σ H Q := by
  refine lcG_ok ((walk_zip rfl).mono (fun _ h => h) fun i H x H' hi _ y => ?_) h
  obtain ⟨T, x1, y1, h1, h2, h3, h4, h5⟩ := y
  exact ⟨T, _, h1, h2, h3, x1, y1, h4, h5, rfl⟩
theorem f_z (h : ForG (fun H => SqL K H a xs ∧ SqL K H b ys) (min xs.length ys.length) (YT (YZ xs ys)) g tb D σ H) : ForJ (Itz K a b) g tb D σ H := by
  refine forG_ok ((walk_zip rfl).mono (fun _ h => h) fun i H x H' hi _ y => ?_) h
  obtain ⟨T, x1, y1, h1, h2, h3, h4, h5⟩ := y
  exact ⟨T, _, h1, h2, h3, x1, y1, h4, h5, rfl⟩
theorem i_zip (h : ta σ H fun vs H1 => ∃ a b xs ys, vs = [.ref a, .ref b] ∧ SqL K H1 a xs ∧ SqL K H1 b ys ∧ R (Itz K a b) H1) : iZip K ta σ H R := h
end
theorem iteR {α : Type} {a : α} {i : Decidable (a = a)} {A B : Prop} (h : A) : if decide (a = a) = true then A else B := by rw [if_pos (decide_eq_true rfl)]; exact h
theorem iteNR {α : Type} {a : α} {i : Decidable (a = a)} {A B : Prop} (h : B) : if (!decide (a = a)) = true then A else B := by rw [if_neg (by simp)]; exact h
/-- quotients of any size -/
abbrev rDivW : R2 := rI CDivW fun i j => .int (i / j)
theorem divW_ok {i j : Int} (h : 0 < j) (h2 : j.natAbs < 2 ^ 200) : CDivW i j := wide_div (b := 200) h h2 (by decide) (by decide)
/-- products of any size -/
abbrev rMulW : R2 := rI CMulW fun i j => .int (i * j)
theorem mulW_ok {i j : Int} (h1 : i.natAbs < 2 ^ 200) (h2 : j.natAbs < 2 ^ 200) : CMulW i j := wide_mul (a := 200) (b := 200) h1 h2 (by decide) (by decide) (by decide)
/-! small calls -/
def rAbs : List V → Hp → VK → Prop := fun xs H Q => ∃ i : Int, xs = [.int i] ∧ Q (.int (if i < 0 then -i else i)) H
def rMax2 : List V → Hp → VK → Prop := fun xs H Q => ∃ i j : Int, xs = [.int i, .int j] ∧ Q (.int (if j > i then j else i)) H
def rMin2 : List V → Hp → VK → Prop := fun xs H Q => ∃ i j : Int, xs = [.int i, .int j] ∧ Q (.int (if j < i then j else i)) H
section
variable {X : Cx}
theorem call_absI : CallR X (.builtin "abs") rAbs := call_abs
theorem call_maxI (hc : X.calm = true) : CallR X (.builtin "max") rMax2 := call_max2 hc
theorem call_minI (hc : X.calm = true) : CallR X (.builtin "min") rMin2 := call_min2 hc
end
section
variable {K : PySem.W.Frag} {H : Hp} {Q : VK} {σ : L2.St}
theorem i_abs {i : Int} (h : Q (.int (if i < 0 then -i else i)) H) : rAbs [.int i] H Q := ⟨i, rfl, h⟩
theorem i_max2 {i j : Int} (h : Q (.int (if j > i then j else i)) H) : rMax2 [.int i, .int j] H Q := ⟨i, j, rfl, h⟩
theorem i_min2 {i j : Int} (h : Q (.int (if j < i then j else i)) H) : rMin2 [.int i, .int j] H Q := ⟨i, j, rfl, h⟩
theorem i_maxL {a : Addr} {ns : List Int} (hp : SqL K H a (ns.map V.int)) (h0 : 0 < ns.length) (h : ∀ m, m ∈ ns → (∀ y, y ∈ ns → y ≤ m) → Q (.int m) H) : rMax K [.ref a] H Q := ⟨a, ns, rfl, hp, h0, h⟩
theorem i_minL {a : Addr} {ns : List Int} (hp : SqL K H a (ns.map V.int)) (h0 : 0 < ns.length) (h : ∀ m, m ∈ ns → (∀ y, y ∈ ns → m ≤ y) → Q (.int m) H) : rMin K [.ref a] H Q := ⟨a, ns, rfl, hp, h0, h⟩
theorem i_reverse {a : Addr} {xs : List V} (hp : H a = some (.lst xs)) (h : Q .non (L2.upd H a (.lst xs.reverse))) : rReverse (.ref a) [] H Q := ⟨a, xs, rfl, rfl, hp, h⟩
theorem i_lstRg {te : L2.St → Hp → (Int → Int → Hp → Prop) → Prop} (h : te σ H fun a b H1 => RgOk a b ∧ ∀ q, H1 q = none → Q (.ref q) (L2.upd H1 q (.lst (rgV a b)))) : tLstRg te σ H Q := h
theorem i_rg1 {ta : TE} {R : Int → Int → Hp → Prop} (h : ta σ H fun x H1 => ∃ n, x = .int n ∧ R 0 n H1) : tRg1 ta σ H R := h
theorem i_ixT {p : Addr} {xs : List V} {n : Int} {v : V} (hp : SqT K H p xs) (hn : atI xs n = some v) (h : Q v H) : rIxT K (.ref p) (.int n) H Q := ⟨p, xs, n, v, rfl, rfl, hp, hn, h⟩
end
end Lv

set_option Elab.async false
set_option linter.all false
set_option maxRecDepth 100000
set_option maxHeartbeats 3200000
namespace Lv
open PySem PySem.Spec PyProof.Rows L2 SX
section
variable {P : Program} {w : World} {A : Around} {E : Value → Shared → Prop} {s : Shared} {a : Addr}
set_option maxHeartbeats 6400000 in
theorem call_setListI {l : Addr} {items : Array Value} {ns : List Int} (hl : s.heap.IsList l items) (hx : IntsAre items.toList ns) {Q : Value → Shared → Prop} (hh : A.handled = none) (hb : ns.length + 1 < scanBound)
    (h : ∀ (h' : Heap) (tk c : Nat), c ≤ ns.length → SetR w h' s.heap.objs.size (fun j => decide (j ∈ ns)) c → (∀ b o, s.heap.get? b = some o → h'.get? b = some o) → Q (.ref s.heap.objs.size) { s with heap := h', toks := tk }) :
    wpAny (model P w) A (call (.type "set") [.ref l]) Q E s := by
  obtain ⟨cc, tl, mroE⟩ := F.called_set.mro
  have madeE := F.called_set.made
  have subE := F.called_set.sub
  refine wpAny_call (codeAny_of_tree (show wpAny _ _ (callAny (.type "set") _) _ _ _ from ?_))
  refine wpAny_pure ⟨Code.quiet_builtin _ (by decide +kernel), codeAny_builtin F.entry_type_call ?_⟩
  rw [Around.under_plain (weight_type_call_type "set" [.ref l] []) rfl]
  have c1 := F.called_set.notType
  have c2 := F.called_set.canCreate
  have c3 := F.typeCall_set_1 (.ref l)
  repeat (any_goals (first | assumption | wp_step))

  refine codeAny_mono (code_set_led1 (.ref l) (E := E) (Q₁ := fun obj s₁ => obj = .ref s.heap.objs.size ∧ s₁ = { s with heap := s.heap.push (newSet w) }) ⟨rfl, rfl⟩) fun r s₁ hr => ?_
  cases r with
  | error e => exact hr
  | ok fl =>
    cases fl with
    | ret obj =>
      obtain ⟨rfl, rfl⟩ := hr
      have qS : (s.heap.push (newSet w)).get? s.heap.objs.size = some (newSet w) := Heap.get?_push_size _ rfl
      have qT : Shared.TypeIs { s with heap := s.heap.push (newSet w) } (.ref s.heap.objs.size) "set" := ⟨_, qS, rfl⟩
      have i1 := F.called_set.init.lookup
      have i2 := F.called_set.init.bind (.ref s.heap.objs.size)
      repeat (any_goals (first | assumption | wp_step))

      refine codeAny_mono (codeAny_call_builtin (R := wants (fun r s₂ => r = .none ∧ ∃ h' tk c, s₂ = { s with heap := h', toks := tk } ∧ c ≤ ns.length ∧ SetR w h' s.heap.objs.size (fun j => decide (j ∈ ns)) c ∧
          (∀ b o, s.heap.get? b = some o → h'.get? b = some o)) E) F.called_set.init.plain F.entry_set_init (check_set_init_1 qT ?_)) fun r₂ s₂ hr₂ => ?_
      · have hne : (Value.type "list" == Value.type "dict") = false := by decide
        have hs1 := F.sub_list_set
        have hs2 := F.sub_list_frozenset
        have lst1 := hl.push (newSet w)
        obtain ⟨lo, hlo, hlc, ln, hld⟩ := hl
        obtain ⟨ocls, odict, odata, oslots⟩ := lo
        simp only at hlc hld
        subst hlc; subst hld
        have hlo' : (s.heap.push (newSet w)).get? l = some { cls := .type "list", dict := odict, data := .seq items ln, slots := oslots } := Heap.get?_push_of_some _ hlo
        unfold Builtin.«set.__init__» noKeywords Builtin.Frozenset.updateFrom
        generalize hPI : pyIter = PI
        wp_walk
        subst hPI
        refine wpAny_pyIter_list lst1 ?_
        refine wpAny_bind (wpAny_runValue ?_)
        have sz1 : (s.heap.push (newSet w)).objs.size = s.heap.objs.size + 1 := Heap.size_push ..
        have ltl : l < s.heap.objs.size := Heap.lt_size hlo
        have nel : l ≠ (s.heap.push (newSet w)).objs.size := by rw [sz1]; exact Nat.ne_of_lt (Nat.lt_succ_of_lt ltl)
        have lenE : items.size = ns.length := by rw [← hx.length, Array.length_toList]
        have hh3 : A.in1.in1.in1.handled = none := by simp [hh]
        refine set_update_ints ((Walks.list hh3 _ l nel items).toS) s.heap.objs.size ?_ ns lenE hb ?_ (items.size - 0) 0 _ (by omega) (Nat.zero_le _) ⟨⟨_, Heap.get?_push_size _ rfl, rfl, rfl⟩, lst1.push _⟩ ?_ ?_
        · rw [sz1]
          simp only [List.mem_cons, List.not_mem_nil, or_false, not_or]
          exact ⟨Nat.ne_of_lt (Nat.lt_succ_self _), Nat.ne_of_gt ltl⟩
        · intro i v hv
          have hi : i < ns.length := by rw [← lenE]; exact (Array.getElem?_eq_some_iff.mp hv).1
          obtain ⟨t1, e1⟩ := PyProof.Rows.IntsAre.int_at hx i v (by rw [Array.getElem?_toList]; exact hv)
          refine ⟨ns[i], t1, List.getElem?_eq_getElem hi, ?_⟩
          rw [e1, List.getD_eq_getElem?_getD, List.getElem?_eq_getElem hi]
          rfl
        · exact ⟨0, Nat.le_refl 0, setR_new_at (Heap.get?_push_of_some _ qS)⟩
        · intro s' c1 hm hc1 S1
          obtain ⟨h', g2, d2, tk2, os2⟩ := s'
          have eg : g2 = s.gens := hm.gens
          have ed : d2 = s.drawn := hm.drawn
          have eo : os2 = s.os := hm.os
          subst eg; subst ed; subst eo
          rw [lenE] at hc1
          refine wpAny_pure (show wpAny _ _ (ret Value.none) _ _ _ from wpAny_pure ⟨rfl, h', tk2, c1, rfl, hc1, S1, fun b o e => ?_⟩)
          have lt0 : b < s.heap.objs.size := Heap.lt_size e
          refine hm.heap b o ?_ (Heap.get?_push_of_some _ (Heap.get?_push_of_some _ e))
          rw [sz1]
          simp only [List.mem_cons, List.not_mem_nil, or_false, not_or]
          exact ⟨Nat.ne_of_lt lt0, Nat.ne_of_lt (Nat.lt_succ_of_lt lt0)⟩
      · cases r₂ with
        | error e => exact hr₂
        | ok fl₂ =>
          cases fl₂ with
          | ret r =>
            obtain ⟨rfl, h', tk, c0, rfl, C1, S1, keep1⟩ := hr₂
            repeat (any_goals (first | assumption | wp_step))
            exact h _ _ _ C1 S1 keep1
          | _ => exact hr₂.elim
    | _ => exact hr.elim
end
end Lv

set_option Elab.async false
set_option linter.all false
set_option maxRecDepth 100000
set_option maxHeartbeats 3200000
namespace Lv
open PySem PySem.Spec PyProof.Rows L2 SX
/-! ### sorted(set(list of ints)), any number of them -/
section
variable {P : Program} {w : World} {A : Around} {E : Value → Shared → Prop} {s : Shared} {a : Addr}
theorem sorted_setI {Z : Int → Bool} {n : Nat} {Q : Value → Shared → Prop} (R : SetR w s.heap a Z n) (hh : A.handled = none)
    (hQ : ∀ s' p (out : Array Value) (c : Nat) (ys : List Int), (∀ b o, s.heap.get? b = some o → s'.heap.get? b = some o) → s'.gens = s.gens → s'.os = s.os → s.heap.objs.size ≤ p →
      s'.heap.get? p = some (seqObj "list" out c) → IntsAre out.toList ys → ys.Pairwise (· < ·) → (∀ k, k ∈ ys ↔ Z k = true) → ys.length = n → Q (.ref p) s') :
    wpAny (model P w) A (call (.builtin "sorted") [.ref a]) Q E s := by
  obtain ⟨o, es, ep, t, qo, qx, qd, g, nd, hm, hb, hf, hn, hr, hl⟩ := R
  refine Calls.call_function_entry kind_sorted plain_sorted entry_sorted (args_sorted1 _) ?_
  unfold Builtin.«sorted»
  refine wpAny_bind (m := checkCount "sorted" 1 1 _) (wpAny_pure (wpAny_bind (collect_set (A := A.in1) hh ⟨o, qo, qx.1, qd⟩ hf hb hr hl fun s1 vs k1 z1 g1 o1 pm => ?_)))
  have lenV : vs.length = es.size := by rw [pm.length_eq, List.length_map, Array.length_toList]
  have intV : IntsAre vs (vs.map Builtin.Re.reRawOf) := ints_of vs fun v hv => by
    obtain ⟨e, he, q⟩ := List.mem_map.mp (pm.mem_iff.mp hv)
    obtain ⟨k, tk, h1, _⟩ := g e he
    exact ⟨k, tk, by rw [← q]; exact h1⟩
  have pk : (vs.map Builtin.Re.reRawOf).Perm (es.toList.map keyOf) := by
    have q := pm.map Builtin.Re.reRawOf
    rw [List.map_map] at q
    exact q
  have lenL : vs.length ≤ sizeLine := by
    rw [lenV, sizeLine_eq]
    have : es.size < scanBound := hb
    unfold scanBound at this
    omega
  refine wpAny_bind (wpAny_newList ?_ lenL)
  have qL : (s1.heap.push (seqObj "list" vs.toArray 0)).get? s1.heap.objs.size = some (seqObj "list" vs.toArray 0) := Heap.get?_push_size _ rfl
  refine wpAny_bind (wpAny_holding (wpAny_call_entry slot_list_sort ⟨_, qL, rfl⟩ entry_list_sort (SrtO.list_sort_ord SrtO.swo_int qL lenL (fun h2 => SrtO.ints_sortable intV h2) fun out hs hp => ⟨_, rfl, ?_⟩) (args_list_sort _)))
  obtain ⟨a1, a2, a3⟩ := SrtO.ints_out intV hs hp
  obtain ⟨c, hc⟩ := sortedHeap_at (vs := vs) (out := out.toArray) qL
  have pn : (out.map SrtO.iv).Perm (es.toList.map keyOf) := a2.trans pk
  refine wpAny_pure ⟨_, rfl, hQ _ s1.heap.objs.size _ c (out.map SrtO.iv) (fun b u e => ?_) g1 o1 z1 hc (by simpa using a1) (lt_of_le_nodup _ a3 (pn.nodup_iff.mpr nd)) (fun k => by rw [pn.mem_iff, ← hm k]) (by rw [pn.length_eq, List.length_map, Array.length_toList]; exact hn)⟩
  have q := k1 b u e
  have lt1 := Heap.lt_size q
  show (sortedHeap (s1.heap.push (seqObj "list" vs.toArray 0)) s1.heap.objs.size vs _).get? b = some u
  rw [sortedHeap_old (Nat.ne_of_lt lt1) (by rw [size_push']; exact Nat.lt_succ_of_lt lt1)]
  exact Heap.get?_push_of_some _ q
end
/-- the unlike ints of a list, rising -/
def tSortSetI (K : PySem.W.Frag) (ta : TA) : TE := fun σ H Q => ta σ H fun xs H1 => ∃ (a : Addr) (ns : List Int), xs = [.ref a] ∧ SqL K H1 a (ns.map V.int) ∧ ns.length ≤ 1000 ∧ ∀ (ys : List Int) (p : Addr), ys.Pairwise (· < ·) → (∀ c, c ∈ ys ↔ c ∈ ns) → H1 p = none → Q (.ref p) (upd H1 p (.lst (ys.map V.int)))
theorem i_sortSetI {K : PySem.W.Frag} {σ : L2.St} {H : Hp} {Q : VK} {ta : TA} (h : ta σ H fun xs H1 => ∃ (a : Addr) (ns : List Int), xs = [.ref a] ∧ SqL K H1 a (ns.map V.int) ∧ ns.length ≤ 1000 ∧ ∀ (ys : List Int) (p : Addr), ys.Pairwise (· < ·) → (∀ c, c ∈ ys ↔ c ∈ ns) → H1 p = none → Q (.ref p) (upd H1 p (.lst (ys.map V.int)))) : tSortSetI K ta σ H Q := h
section
variable {X : Cx} {e : Expr} {ta : TA} {p1 p2 pos pos2 : Pos}
theorem pe_sortSetI (hc : X.calm = true) (hg1 : Gl X "sorted") (hm1 : X.mg "sorted" = none) (hg2 : Gl X "set") (hm2 : X.mg "set" = none) (ha : PA X [e] ta)
    (hs : starEach [e] X.env = [(false, eval e X.env)] := by rfl) (hs2 : starEach [.Call (.Name "set" p2) [e] [] pos2] X.env = [(false, eval (.Call (.Name "set" p2) [e] [] pos2) X.env)] := by rfl) :
    PE X (.Call (.Name "sorted" p1) [.Call (.Name "set" p2) [e] [] pos2] [] pos) (tSortSetI X.K ta) := by
  refine ⟨fun pins s σ H Q I h => ?_⟩
  refine wpAny_Call_Name_kw (ld_blt I hg1 hm1 (by decide +kernel : bootBuiltins "sorted" = some (.builtin "sorted")) ?_)
  refine callWith_builtin1 ?_ hs2 rfl
  rw [hs2]
  refine Calls.spliced_cons ?_
  refine wpAny_Call_Name_kw (ld_blt I hg2 hm2 boot_set (callWith_type1 (thn (ha.run pos2 pins s σ H _ I h) fun us s1 ⟨vs, H1, I1, r1, q1⟩ => ?_) hs rfl))
  obtain ⟨lp, ns, rfl, hq1, hl, q⟩ := q1
  cases r1 with
  | cons r rr =>
    cases rr
    cases r
    have hd := I1.ok.hd hc
    obtain ⟨its, rv, pt, hz0⟩ := I1.list hq1
    have st2 : IntsAre its.toArray.toList ns := by
      have := rv.ints
      simpa using this
    have pt2 : s1.heap.IsList lp its.toArray := pt.isList
    refine call_setListI pt2 st2 hd (by unfold scanBound; omega) fun h' tk c0 hc0 R1 keep => ?_
    refine Calls.spliced_nil ?_
    refine sorted_setI (s := { s1 with heap := h', toks := tk }) R1 hd fun s' p out c ys k g o hp hq hi hs3 hm hle => ?_
    have lenZ : (ys.map V.int).length ≤ sizeLine := by
      rw [List.length_map]
      exact le_line (by omega)
    have k' : ∀ b u, s1.heap.get? b = some u → s'.heap.get? b = some u := fun b u e => k b u (keep b u e)
    have hp' : s1.heap.objs.size ≤ p := Nat.le_trans (Nat.le_of_lt R1.lt) hp
    have hn1 : H1 p = none := I1.hok.fresh hp'
    have J : Inv X pins σ (upd H1 p (.lst (ys.map V.int))) { s1 with heap := s'.heap, gens := s'.gens, drawn := s'.drawn, toks := s'.toks } :=
      I1.call (ch := []) (Un.laid k' hp' hn1) (I1.hok.laid k' hp' ⟨lenZ, out.toList, c, vals_of_ints hi, hq⟩) (by rw [g]; exact I1.bare) (fun _ z => nomatch z)
    have es : s' = { s1 with heap := s'.heap, gens := s'.gens, drawn := s'.drawn, toks := s'.toks } := by
      cases s'
      cases o
      rfl
    rw [es]
    refine ⟨.ref p, _, J, rfl, q ys p hs3 (fun j => ?_) hn1⟩
    rw [hm j, decide_eq_true_iff]
end
/-- a test behind a test: what it tells is known -/
theorem if_ttF {c : Bool} {t : TT} {σ : L2.St} {H : Hp} {Q : Bool → Hp → Prop} (h : c = true → ∀ Q' : Bool → Hp → Prop, Q' false H → t σ H Q') (k : Q false H) : if c = true then t σ H Q else Q false H := by
  cases c
  · exact k
  · exact h rfl Q k
section
variable {A B : Prop}
theorem iteFT {i : Decidable (false = true)} (h : B) : if decide (false = true) = true then A else B := by rw [if_neg (by simp)]; exact h
theorem iteTF {i : Decidable (true = false)} (h : B) : if decide (true = false) = true then A else B := by rw [if_neg (by simp)]; exact h
theorem iteNFT {i : Decidable (false = true)} (h : A) : if (!decide (false = true)) = true then A else B := by rw [if_pos (by simp)]; exact h
theorem iteNTF {i : Decidable (true = false)} (h : A) : if (!decide (true = false)) = true then A else B := by rw [if_pos (by simp)]; exact h
end
end Lv

set_option Elab.async false
set_option linter.all false
set_option maxRecDepth 100000
set_option maxHeartbeats 3200000
namespace Lv
open PySem PySem.Spec PyProof.Rows L2 SX
/-! ### comprehensions whose turns leave what stood -/
section
variable {J : It} {n : Nat} {G : Hp → Prop} {Y : Nat → Hp → V → Hp → Prop} {g : TG} {tt : TT} {te : TE} {vs : List Nat} {σ : L2.St} {H : Hp} {Q : VK} {K : PySem.W.Frag}
theorem range_fm {α β : Type} (f : α → Option β) : ∀ (xs : List α) (i : Nat) (c : α), xs[i]? = some c → (xs.take (i + 1)).filterMap f = (xs.take i).filterMap f ++ (f c).toList := fun xs i c h => by
  rw [List.take_add_one, h, List.filterMap_append]
  cases e : f c <;> simp [e]
theorem lcP (w : Walk J n G Y) {α : Type} (items : List α) (hn : items.length = n) (f : α → Option V) (h6 : n ≤ 1000000) (hG : ∀ H', Same H H' → G H')
    (step : ∀ i c x H' H'', items[i]? = some c → Same H H' → Y i H' x H'' → Same H' H'' ∧ ∀ (Yk : VK) (N : Hp → Prop), (∀ y, f c = some y → ∀ H4, Same H'' H4 → Yk y H4) → (f c = none → ∀ H4, Same H'' H4 → N H4) →
      g x (wipe σ vs) H'' fun σ2 H2 => wipe σ2 vs = wipe σ vs ∧ tt σ2 H2 fun b H3 => if b = true then te σ2 H3 Yk else N H3)
    (fin : ∀ D H', H D = none → Same H H' → H' D = some (.lst (items.filterMap f)) → Q (.ref D) H') : LcJ J g tt te vs σ H Q := by
  refine lcG_ok w fun D nD => ⟨fun i acc H' => acc = (items.take i).filterMap f ∧ Same H H', ⟨rfl, same_new nD⟩, fun i acc H' _ _ z => hG H' z.2, ?_, ?_⟩
  · rintro i acc x H' H'' hi hll hD ⟨rfl, sm⟩ y
    obtain ⟨c, hc⟩ : ∃ c, items[i]? = some c := ⟨items[i]'(by omega), List.getElem?_eq_getElem (by omega)⟩
    obtain ⟨s1, st⟩ := step i c x H' H'' hc sm y
    have e := range_fm f items i c hc
    refine st _ _ (fun v hv H4 s4 => ?_) (fun hv H4 s4 => ?_)
    · refine lc_put (s4 _ _ (s1 _ _ hD)) hll (by omega) ⟨?_, ?_⟩
      · rw [e, hv]; rfl
      · exact (sm.trans (s1.trans s4)).updN nD
    · refine lc_skip (s4 _ _ (s1 _ _ hD)) hll ⟨?_, sm.trans (s1.trans s4)⟩
      rw [e, hv]; simp
  · rintro acc H' _ hD ⟨rfl, sm⟩
    rw [List.take_of_length_le (by omega)] at hD
    exact fin D H' nD sm hD
/-- [e for x in list] by pure turns -/
theorem c_lP {α : Type} {a : Addr} (items : List α) (v : α → V) (f : α → Option V) (ha : SqL K H a (items.map v)) (h6 : items.length ≤ 1000000)
    (step : ∀ c H', c ∈ items → Same H H' → ∀ (Yk : VK) (N : Hp → Prop), (∀ y, f c = some y → ∀ H4, Same H' H4 → Yk y H4) → (f c = none → ∀ H4, Same H' H4 → N H4) →
      g (v c) (wipe σ vs) H' fun σ2 H2 => wipe σ2 vs = wipe σ vs ∧ tt σ2 H2 fun b H3 => if b = true then te σ2 H3 Yk else N H3)
    (fin : ∀ D H', H D = none → Same H H' → H' D = some (.lst (items.filterMap f)) → Q (.ref D) H') : LcJ (Itl K a) g tt te vs σ H Q := by
  refine lcP (walk_list (xs := items.map v)) items (by simp) f (by simpa using h6) (fun H' s => s.seq ha) ?_ fin
  rintro i c x H' H'' hc sm ⟨rfl, hx⟩
  rw [List.getElem?_map, hc] at hx
  have : v c = x := Option.some.inj hx
  subst this
  exact ⟨Same.refl _, step c H'' (List.mem_of_getElem? hc) sm⟩
theorem c_sP {l : List Nat} (f : Nat → Option V) (h6 : l.length ≤ 1000000)
    (step : ∀ c H', c ∈ l → Same H H' → ∀ (Yk : VK) (N : Hp → Prop), (∀ y, f c = some y → ∀ H4, Same H' H4 → Yk y H4) → (f c = none → ∀ H4, Same H' H4 → N H4) →
      g (.str (S [c])) (wipe σ vs) H' fun σ2 H2 => wipe σ2 vs = wipe σ vs ∧ tt σ2 H2 fun b H3 => if b = true then te σ2 H3 Yk else N H3)
    (fin : ∀ D H', H D = none → Same H H' → H' D = some (.lst (l.filterMap f)) → Q (.ref D) H') : LcJ (Its (S l)) g tt te vs σ H Q := by
  refine lcP walk_S l rfl f h6 (fun _ _ => trivial) ?_ fin
  rintro i c x H' H'' hc sm ⟨rfl, c2, hc2, rfl⟩
  rw [hc] at hc2
  cases hc2
  exact ⟨Same.refl _, step c H'' (List.mem_of_getElem? hc) sm⟩
theorem c_rP {lo : Int} (f : Nat → Option V) (h6 : n ≤ 1000000)
    (step : ∀ k H', k < n → Same H H' → ∀ (Yk : VK) (N : Hp → Prop), (∀ y, f k = some y → ∀ H4, Same H' H4 → Yk y H4) → (f k = none → ∀ H4, Same H' H4 → N H4) →
      g (.int (lo + (k : Int))) (wipe σ vs) H' fun σ2 H2 => wipe σ2 vs = wipe σ vs ∧ tt σ2 H2 fun b H3 => if b = true then te σ2 H3 Yk else N H3)
    (fin : ∀ D H', H D = none → Same H H' → H' D = some (.lst ((List.range n).filterMap f)) → Q (.ref D) H') : LcJ (Itr lo n) g tt te vs σ H Q := by
  refine lcP walk_range (List.range n) (by simp) f h6 (fun _ _ => trivial) ?_ fin
  rintro i c x H' H'' hc sm ⟨rfl, rfl⟩
  have e : c = i := by
    have := List.getElem?_eq_some_iff.mp hc
    obtain ⟨_, h⟩ := this
    rw [← h, List.getElem_range]
  subst e
  exact ⟨Same.refl _, step c H'' (List.mem_range.mp (List.mem_of_getElem? hc)) sm⟩
end
theorem fm_map {α β : Type} (f : α → β) (l : List α) : l.filterMap (fun x => some (f x)) = l.map f := by
  induction l with
  | nil => rfl
  | cons a l ih => simp
theorem fm_if {α β : Type} {p : α → Prop} [DecidablePred p] (f : α → β) (l : List α) : l.filterMap (fun x => if p x then some (f x) else none) = (l.filter (fun x => decide (p x))).map f := by
  induction l with
  | nil => rfl
  | cons a l ih =>
    by_cases h : p a
    · rw [List.filterMap_cons, if_pos h, List.filter_cons_of_pos (by simp [h]), List.map_cons, ih]
    · rw [List.filterMap_cons, if_neg h, List.filter_cons_of_neg (by simp [h]), ih]
/-! ### text.index(sign, place) -/
section
open Builtin Builtin.Str
theorem index2_S {l : List Nat} {c i k : Nat} (hi : i ≤ l.length) (h : nextP l i c = some k) : ∃ r, occurrences (S l) (S [c]) (fromIndex (S l).length (i : Int)) (S l).length 1 = k :: r := by
  have e := find3_S l c i hi
  unfold findI at e
  rw [h] at e
  unfold Txt.find3 at e
  cases q : occurrences (S l) (S [c]) (fromIndex (S l).length (i : Int)) (S l).length 1 with
  | nil => rw [q] at e; simp at e
  | cons a r =>
    rw [q] at e
    refine ⟨r, ?_⟩
    have : (a : Int) = (k : Int) := e
    have : a = k := by omega
    rw [this]
end
def rIndex2 (x : V) (xs : List V) (H : Hp) (Q : VK) : Prop := ∃ (l : List Nat) (c i k : Nat), x = .str (S l) ∧ xs = [.str (S [c]), .int (i : Int)] ∧ i ≤ l.length ∧ nextP l i c = some k ∧ Q (.int (k : Int)) H
theorem mt_index2S {X : Cx} : MtR X "str.index" rIndex2 := by
  intro pins s σ H x xs v us Q I rx rs h
  obtain ⟨l, c, i, k, rfl, rfl, hi, hk, q⟩ := h
  obtain ⟨t, rfl⟩ := rx
  obtain ⟨rest, ho⟩ := index2_S hi hk
  cases rs with
  | cons r1 rs =>
    cases rs with
    | cons r2 rs =>
      cases rs
      obtain ⟨u, rfl⟩ := r1
      obtain ⟨z, rfl⟩ := r2
      exact call_gives PySem.F.slot_str_index (typeIs_str _ _ _) PySem.F.entry_str_index (PySem.F.args_str_index_3 _ _ _) (gives_str_index_from (S l) (S [c]) (i : Int) t u z k rest ho) ⟨.int (k : Nat), H, I.tok _, ⟨_, rfl⟩, q⟩
theorem i_index2 {l : List Nat} {c i k : Nat} {H : Hp} {Q : VK} (hi : i ≤ l.length) (hk : nextP l i c = some k) (h : Q (.int (k : Int)) H) : rIndex2 (.str (S l)) [.str (S [c]), .int (i : Int)] H Q := ⟨l, c, i, k, rfl, rfl, hi, hk, h⟩
/-! ### dicts by texts -/
section
variable {K : PySem.W.Frag} {D : Ends} {σ : L2.St} {H : Hp} {Q : VK} {td ty tv te : TE} {p : Addr} {kvs : List (Key × V)} {v : V} {l : List Nat}
theorem i_dnewK (h : ∀ p, H p = none → Q (.ref p) (upd H p (.dK []))) : tDNewK σ H Q := h
theorem i_dIn (h : ty σ H fun y H1 => td σ H1 fun x H2 => ∃ a o, x = .ref a ∧ DGet H2 a y o ∧ Q (.bl o.isSome) H2) : tDIn ty td σ H Q := h
theorem i_dNotIn (h : ty σ H fun y H1 => td σ H1 fun x H2 => ∃ a o, x = .ref a ∧ DGet H2 a y o ∧ Q (.bl (!o.isSome)) H2) : tDNotIn ty td σ H Q := h
theorem i_dGet (h : td σ H fun x H1 => ty σ H1 fun y H2 => ∃ a v, x = .ref a ∧ DGet H2 a y (some v) ∧ Q v H2) : tDGet td ty σ H Q := h
theorem i_dPut (h : tv σ H fun v H1 => td σ H1 fun x H2 => ty σ H2 fun y H3 => ∃ a H4, x = .ref a ∧ DPut H3 a y v H4 ∧ D.nx σ H4) : sDPut td ty tv D σ H := h
theorem i_dGet1 (h : td σ H fun x H1 => ∃ a, x = .ref a ∧ IsD H1 a ∧ ty σ H1 fun y H2 => ∃ o, DGet H2 a y o ∧ Q (o.getD .non) H2) : tDGet1 td ty σ H Q := h
theorem x_dGetS {R : V → Prop} (hd : Rd H p (.dK kvs)) (hv : valV kvs (.inr (S l)) = some v) (h : R v) : ∃ a v, V.ref p = .ref a ∧ DGet H a (.str (S l)) (some v) ∧ R v := ⟨p, v, rfl, .inl ⟨kvs, .inr (S l), hd, rfl, hv.symm⟩, h⟩
theorem x_dInS {R : Option V → Prop} (hd : Rd H p (.dK kvs)) (h : R (valV kvs (.inr (S l)))) : ∃ a o, V.ref p = .ref a ∧ DGet H a (.str (S l)) o ∧ R o := ⟨p, _, rfl, .inl ⟨kvs, .inr (S l), hd, rfl, rfl⟩, h⟩
theorem x_dPutS {R : Hp → Prop} (hd : H p = some (.dK kvs)) (hl : kvs.length < sizeLine) (h : R (upd H p (.dK (putK kvs (.inr (S l)) v)))) : ∃ a H4, V.ref p = .ref a ∧ DPut H a (.str (S l)) v H4 ∧ R H4 := ⟨p, _, rfl, .inl ⟨kvs, .inr (S l), hd, rfl, hl, rfl⟩, h⟩
end
def rDictD : List V → Hp → VK → Prop := fun xs H Q => ∃ (a : Addr) (kvs : List (Key × V)), xs = [.ref a] ∧ Rd H a (.dK kvs) ∧ ∀ p, H p = none → Q (.ref p) (upd H p (.dK kvs))
theorem call_dictD1 {X : Cx} : CallR X (.type "dict") rDictD := call_dictD
theorem i_dictD {a : Addr} {kvs : List (Key × V)} {H : Hp} {Q : VK} (hd : Rd H a (.dK kvs)) (h : ∀ p, H p = none → Q (.ref p) (upd H p (.dK kvs))) : rDictD [.ref a] H Q := ⟨a, kvs, rfl, hd, h⟩
/-- sorted(d): all keys texts, any number of them -/
def rSortedD : List V → Hp → VK → Prop := fun xs H Q => ∃ (a : Addr) (kvs : List (Key × V)) (ks : List (List Nat)), xs = [.ref a] ∧ Rd H a (.dK kvs) ∧ kvs.map (·.1) = ks.map (fun k => Sum.inr (S k)) ∧ ks.Nodup ∧ ks.length ≤ 1000000 ∧
  ∀ (ys : List (List Nat)) (p : Addr), ys.Pairwise (· < ·) → (∀ c, c ∈ ys ↔ c ∈ ks) → H p = none → Q (.ref p) (upd H p (.lst (ys.map Lv.vs)))
theorem call_sortedD1 {X : Cx} (hcalm : X.calm = true) : CallR X (.builtin "sorted") rSortedD := by
  intro pins s σ H xs us Q I r q
  obtain ⟨a, kvs, ks0, ex, hd, hks, hnd, h64, q⟩ := q
  subst ex
  obtain ⟨u, eu, rx⟩ := vals1 r
  subst eu
  cases rx
  obtain ⟨z, lo, vs, rel, dd⟩ := dk_rd I.hok hd
  obtain ⟨ep, hat⟩ := dd.dictAt
  have hks' : kvs.map (·.1) = (ks0.map S).map Sum.inr := by rw [hks, List.map_map]; rfl
  have hlen0 : (ks0.map S).length = ks0.length := List.length_map _
  have hnd' : (ks0.map S).Nodup := by
    refine List.Pairwise.map _ (fun a b h z => h (S_inj.mp z)) hnd
  have hmem : ∀ c, S c ∈ ks0.map S ↔ c ∈ ks0 := fun c => by
    rw [List.mem_map]
    exact ⟨fun ⟨d, h1, h2⟩ => by rw [← S_inj.mp h2]; exact h1, fun h => ⟨c, h, rfl⟩⟩
  have hall : ∀ y ∈ ks0.map S, ∃ c, y = S c := fun y hy => by
    obtain ⟨d, _, h2⟩ := List.mem_map.mp hy
    exact ⟨d, h2.symm⟩
  generalize ks0.map S = ks at hks' hlen0 hnd' hmem hall
  have hkeys : vs.map (·.1) = ks.map Sum.inr := rel.keys.symm.trans hks'
  have hl : vs.length = ks.length := by
    have e := congrArg List.length hkeys
    rw [List.length_map, List.length_map] at e
    exact e
  have h16 : vs.length ≤ sizeLine := by rw [hl, hlen0, sizeLine_eq]; omega
  refine Calls.call_function_entry PyProof.Rows.kind_sorted PyProof.Rows.plain_sorted PyProof.Rows.entry_sorted (PyProof.Rows.args_sorted1 _) ?_
  unfold Builtin.«sorted»
  refine wpAny_bind (m := checkCount "sorted" 1 1 _) (wpAny_pure ?_)
  refine wpAny_bind (PySem.W.kdu_collect (A := X.A.in1) (PySem.W.kdl_dict (knd := mixKind X.prog X.w) (kvs := vs) (ep := ep) lo) (I.ok.hd hcalm) hat h16 fun h' tk acc hk hacc => ?_)
  have hal : acc.toList.length = ks.length := by rw [Array.length_toList, hacc.1, hl]
  have hS : StrsAre acc.toList ks := L2.strs_at hal fun j v e => by
    obtain ⟨k, x, e1, e2⟩ := hacc.2 j v (by rw [← Array.getElem?_toList]; exact e)
    have e3 : (vs.map (·.1))[j]? = some k := by rw [List.getElem?_map, e1]; all_goals rfl
    rw [hkeys, List.getElem?_map] at e3
    cases e4 : ks[j]? with
    | none => rw [e4] at e3; cases e3
    | some y =>
      rw [e4] at e3
      have e5 : Sum.inr y = k := Option.some.inj e3
      subst e5
      obtain ⟨t, ev⟩ := Value.isStrOf_shape (x := y) (v := v) e2
      exact ⟨y, t, rfl, ev⟩
  have I1 : Inv X pins σ H { s with heap := h', toks := tk } := I.kept hk
  have lenL : acc.toList.length ≤ sizeLine := by rw [hal, hlen0, sizeLine_eq]; omega
  refine wpAny_bind (wpAny_newList ?_ lenL)
  have hoL : (h'.push (seqObj "list" acc.toList.toArray 0)).get? h'.objs.size = some (seqObj "list" acc.toList.toArray 0) := Heap.get?_push_size _ rfl
  show wpAny _ _ _ _ _ { s with heap := h'.push (seqObj "list" acc.toList.toArray 0), toks := tk }
  refine wpAny_bind (wpAny_holding (wpAny_call_entry PyProof.Rows.slot_list_sort ⟨_, hoL, rfl⟩ PyProof.Rows.entry_list_sort
    (list_sort_treeKAny strKind_oneLt (s := { s with heap := h'.push (seqObj "list" acc.toList.toArray 0), toks := tk }) hoL hS.keysOf (fun v₁ v₂ rest e => keyKind_strs (by rw [← e]; exact hS)) lenL fun st' hp hs => ⟨_, rfl, ?_⟩)
    (PyProof.Rows.args_list_sort _)))
  obtain ⟨ys, g1, g2, g3⟩ := sorted_out_str hS hp hs
  obtain ⟨e', he'⟩ := PyProof.Rows.sortedHeap_at (vs := acc.toList) (out := (arrOf st').map (·.2)) hoL
  have hlen : (ys.map V.str).length ≤ sizeLine := by
    rw [List.length_map, g2.length_eq, ← hal]
    exact lenL
  have pw := sortedS_lt g3 (g2.nodup_iff.mpr hnd')
  have eys : ys = (ys.map fun y => y.cps.toList).map S := by
    rw [List.map_map]
    refine (List.map_id ys).symm.trans (List.map_congr_left fun y hy => ?_)
    obtain ⟨c, rfl⟩ := hall y (g2.mem_iff.mp hy)
    rfl
  have mz : ∀ c, c ∈ (ys.map fun y => y.cps.toList) ↔ c ∈ ks0 := fun c => by
    rw [← hmem c, ← g2.mem_iff]
    constructor
    · intro hc
      rw [eys]
      exact List.mem_map.mpr ⟨c, hc, rfl⟩
    · intro hc
      rw [eys] at hc
      obtain ⟨d, h1, h2⟩ := List.mem_map.mp hc
      rw [← S_inj.mp h2]
      exact h1
  have ev : ys.map V.str = (ys.map fun y => y.cps.toList).map Lv.vs := by
    conv => lhs; rw [eys]
    rw [List.map_map]
    rfl
  refine wpAny_pure ⟨_, rfl, .ref h'.objs.size, upd H h'.objs.size (.lst (ys.map V.str)), I1.laid (t' := tk) (fun b u e => ?_) (Nat.le_refl _)
    (show ObjOk X.prog X.w _ _ _ (.lst (ys.map V.str)) from ⟨hlen, ((arrOf st').map (·.2)).toList, e', vals_of_strs g1, by rw [Array.toArray_toList]; exact he'⟩), rfl, by rw [ev]; exact q _ _ pw mz (I1.hok.fresh (Nat.le_refl _))⟩
  have hb : b < h'.objs.size := Heap.lt_size e
  rw [PyProof.Rows.sortedHeap_old (Nat.ne_of_lt hb) (by rw [size_push']; exact Nat.lt_succ_of_lt hb)]
  exact Heap.get?_push_of_some _ e
/-! ### [.. for k in d ..] -/
section
variable {K : PySem.W.Frag} {σ : L2.St} {H : Hp} {Q : VK} {g : TG} {tt : TT} {te td : TE} {vs : List Nat}
/-- a comprehension over a dict's keys (texts), by pure turns -/
theorem lcKeys {d : Addr} {kvs : List (Key × V)} {ks : List (List Nat)} (f : List Nat → Option V) (hd : H d = some (.dK kvs)) (hk : kvs.map (·.1) = ks.map (fun k => Sum.inr (S k))) (h6 : ks.length ≤ 1000000)
    (htd : ∀ (o : Obj) (Q' : VK), Q' (.ref d) (upd H d (.frz o (.dK kvs))) → td σ (upd H d (.frz o (.dK kvs))) Q')
    (step : ∀ (o : Obj) (c : List Nat) (H' : Hp), c ∈ ks → Same (upd H d (.frz o (.dK kvs))) H' → ∀ (Yk : VK) (N : Hp → Prop), (∀ y, f c = some y → ∀ H4, Same H' H4 → Yk y H4) → (f c = none → ∀ H4, Same H' H4 → N H4) →
      g (.str (S c)) (wipe σ vs) H' fun σ2 H2 => wipe σ2 vs = wipe σ vs ∧ tt σ2 H2 fun b H3 => if b = true then te σ2 H3 Yk else N H3)
    (fin : ∀ D H', H D = none → Same H H' → H' D = some (.lst (ks.filterMap f)) → Q (.ref D) H') : tLockE (tLc (iKeys td) g tt te vs) σ H Q := by
  refine ⟨d, .dK kvs, hd, trivial, fun o => ?_⟩
  have hlen : ks.length = kvs.length := by
    have := congrArg List.length hk
    rw [List.length_map, List.length_map] at this
    exact this.symm
  refine lcM (fun J H1 => J = Itk d o kvs ∧ H1 = upd H d (.frz o (.dK kvs))) (fun R k => htd o _ ⟨d, o, rfl, .inl ⟨kvs, upd_same, k _ _ ⟨rfl, rfl⟩⟩⟩) ?_
  rintro J H1 ⟨rfl, rfl⟩
  refine lcP walk_keys ks hlen f (by omega) (fun H' s => s _ _ upd_same) ?_ ?_
  · rintro i c x H' H'' hc sm ⟨rfl, k, v, hkv, rfl⟩
    have e : (kvs.map (·.1))[i]? = some k := by rw [List.getElem?_map, hkv]; rfl
    rw [hk, List.getElem?_map, hc] at e
    have : Sum.inr (S c) = k := Option.some.inj e
    subst this
    exact ⟨Same.refl _, step o c H'' (List.mem_of_getElem? hc) sm⟩
  · intro D H' nD sm hD
    have ne : D ≠ d := fun z => by subst z; rw [upd_same] at nD; cases nD
    rw [upd_ne ne] at nD
    refine ⟨sm _ _ upd_same, fin D _ nD (fun b o' hb => ?_) (by rw [upd_ne ne]; exact hD)⟩
    by_cases z : b = d
    · subst z; rw [upd_same, ← hb, hd]
    · rw [upd_ne z]; exact sm _ _ (by rw [upd_ne z]; exact hb)
end
end Lv

set_option Elab.async false
set_option linter.all false
set_option maxRecDepth 100000
set_option maxHeartbeats 3200000
namespace Lv
open PySem PySem.Spec PyProof.Rows L2 SX
/-! ### d.update(e), dict(pairs), {k: v}, constants of the module -/
section
variable {X : Cx}
def rUpd (x : V) (xs : List V) (H : Hp) (Q : VK) : Prop := ∃ (d o : Addr) (kvs more : List (Key × V)), x = .ref d ∧ xs = [.ref o] ∧ H d = some (.dK kvs) ∧ Rd H o (.dK more) ∧ d ≠ o ∧ kvs.length + more.length ≤ sizeLine ∧ Q .non (upd H d (.dK (mergeK kvs more)))
theorem mt_upd : MtR X "dict.update" rUpd := by
  intro pins s σ H x xs v us Q I rx rs h
  obtain ⟨d, o, kvs, more, rfl, rfl, hd, ho, hne, hz, q⟩ := h
  cases rx
  obtain ⟨u, eu, r1⟩ := vals1 rs
  subst eu
  cases r1
  obtain ⟨z1, m1, vs1, rel1, dd1⟩ := dk_of I.hok hd
  obtain ⟨z2, m2, vs2, rel2, dd2⟩ := dk_rd I.hok ho
  refine call_meetsIn PySem.F.slot_dict_update dd1.typeIs PySem.F.entry_dict_update (PySem.F.args_dict_update_2 _ _) (meets_dict_update (mixKind X.prog X.w) d o hne m2) ⟨vs1, vs2, dd1, dd2, by rw [← rel1.length, ← rel2.length]; exact hz, fun h' dd' _ hs => ?_⟩
  have he : ∃ q, h'.get? d = some q := let ⟨q, _, _, hq, _⟩ := dd'; ⟨q, hq⟩
  exact ⟨.non, _, d_write I (by rw [hd]; exact True.intro) hs he (dk_new (Nat.le_trans (length_mergeK more kvs) hz) m1 (KV.merge rel2 rel1) dd'), rfl, q⟩
theorem i_upd {d o : Addr} {kvs more : List (Key × V)} {H : Hp} {Q : VK} (hd : H d = some (.dK kvs)) (ho : Rd H o (.dK more)) (hne : d ≠ o) (hz : kvs.length + more.length ≤ sizeLine) (q : Q .non (upd H d (.dK (mergeK kvs more)))) : rUpd (.ref d) [.ref o] H Q := ⟨d, o, kvs, more, rfl, rfl, hd, ho, hne, hz, q⟩
def rDictP (K : PySem.W.Frag) : List V → Hp → VK → Prop := fun xs H Q => ∃ (a : Addr) (ps : List Addr) (kvs : List (Key × V)), xs = [.ref a] ∧ SqL K H a (ps.map V.ref) ∧ Paired (fun p kv => SqT K H p [kV kv.1, kv.2]) ps kvs ∧
    ∀ p, H p = none → Q (.ref p) (upd H p (.dK (mergeK [] kvs)))
theorem call_dictP1 (hcalm : X.calm = true) : CallR X (.type "dict") (rDictP X.K) := call_dictP hcalm
theorem pe_globS {x : Str} {pos : Pos} {l : List Nat} {t : Tok} (hg : Gl X x) (hm : X.mg x = some (.str (S l) t)) (hd : (x == ("__debug__" : Str)) = false := by decide) : PE X (.Name x pos) (tC (.str (S l))) := pe_glob hg hm ⟨t, rfl⟩ hd
theorem pe_globI {x : Str} {pos : Pos} {i : Int} {t : Tok} (hg : Gl X x) (hm : X.mg x = some (.int i t)) (hd : (x == ("__debug__" : Str)) = false := by decide) : PE X (.Name x pos) (tC (.int i)) := pe_glob hg hm ⟨t, rfl⟩ hd
end
/-- a dict by letters: f tells what stands for each -/
def LD (kvs : List (Key × V)) (f : Nat → Option V) : Prop := ∃ ks : List Nat, kvs.map (·.1) = ks.map (fun c => Sum.inr (S [c])) ∧ ks.Nodup ∧ (∀ c, valV kvs (.inr (S [c])) = f c) ∧ ∀ c, c ∈ ks ↔ (f c).isSome
theorem LD.nil : LD [] fun _ => none := ⟨[], rfl, List.nodup_nil, fun _ => rfl, fun c => by simp⟩
theorem LD.val {kvs : List (Key × V)} {f : Nat → Option V} (h : LD kvs f) (c : Nat) : valV kvs (.inr (S [c])) = f c := by obtain ⟨_, _, _, h, _⟩ := h; exact h c
theorem inr_S {c d : Nat} : (Sum.inr (S [c]) : Key) = Sum.inr (S [d]) ↔ c = d := by
  constructor
  · intro h
    have := S_inj.mp (Sum.inr.inj h)
    simpa using this
  · rintro rfl; rfl
theorem keys_map {kvs : List (Key × V)} {k : Key} {v : V} : (kvs.map fun kv => if kv.1 = k then (kv.1, v) else kv).map (·.1) = kvs.map (·.1) := by
  rw [List.map_map]
  apply List.map_congr_left
  intro a _
  by_cases h : a.1 = k <;> simp [h]
theorem LD.put {kvs : List (Key × V)} {f : Nat → Option V} (h : LD kvs f) (c : Nat) (v : V) : LD (putK kvs (.inr (S [c])) v) (fun d => if d = c then some v else f d) := by
  obtain ⟨ks, h1, h2, h3, h4⟩ := h
  have hv : ∀ d, valV (putK kvs (.inr (S [c])) v) (.inr (S [d])) = if d = c then some v else f d := fun d => by
    rw [valV_put, h3 d]
    by_cases z : d = c
    · subst z; rw [if_pos rfl, if_pos rfl]
    · rw [if_neg z, if_neg fun q => z (inr_S.mp q)]
  cases e : f c with
  | none =>
    have hn : valV kvs (.inr (S [c])) = none := by rw [h3, e]
    have hc : c ∉ ks := fun z => by have := (h4 c).mp z; rw [e] at this; cases this
    refine ⟨ks ++ [c], ?_, ?_, hv, fun d => ?_⟩
    · rw [putK_new v hn, List.map_append, h1, List.map_append]; rfl
    · rw [List.nodup_append]
      exact ⟨h2, by simp, fun a ha b hb => by rw [List.mem_singleton.mp hb]; rintro rfl; exact hc ha⟩
    · rw [List.mem_append, List.mem_singleton, h4 d]
      by_cases z : d = c
      · subst z; simp
      · simp [z]
  | some x =>
    have hs : (kvs.any fun kv => decide (kv.1 = (Sum.inr (S [c]) : Key))) = true := by rw [valV_any, h3, e]; rfl
    refine ⟨ks, ?_, h2, hv, fun d => ?_⟩
    · unfold putK
      rw [if_pos hs, keys_map, h1]
    · rw [h4 d]
      by_cases z : d = c
      · subst z; rw [e]; simp
      · simp [z]
theorem LD.congr {kvs : List (Key × V)} {f g : Nat → Option V} (h : LD kvs f) (e : ∀ c, f c = g c) : LD kvs g := by
  have : f = g := funext e
  rw [← this]; exact h
theorem nodup_len {α : Type} [DecidableEq α] : ∀ (xs ys : List α), xs.Nodup → (∀ c ∈ xs, c ∈ ys) → xs.length ≤ ys.length
  | [], ys, _, _ => Nat.zero_le _
  | x :: xs, ys, h, hs => by
    have hx := hs x List.mem_cons_self
    have h1 := nodup_len xs (ys.erase x) (List.nodup_cons.mp h).2 fun c hc => by
      have hne : c ≠ x := fun z => (List.nodup_cons.mp h).1 (z ▸ hc)
      exact (List.mem_erase_of_ne hne).mpr (hs c (List.mem_cons_of_mem _ hc))
    rw [List.length_erase_of_mem hx] at h1
    have := List.length_pos_of_mem hx
    rw [List.length_cons]
    omega
theorem LD.len {kvs : List (Key × V)} {f : Nat → Option V} (h : LD kvs f) (hf : ∀ c, (f c).isSome → 97 ≤ c ∧ c ≤ 122) : kvs.length ≤ 26 := by
  obtain ⟨ks, h1, h2, h3, h4⟩ := h
  have e := congrArg List.length h1
  rw [List.length_map, List.length_map] at e
  rw [e]
  refine nodup_len ks abc h2 fun c hc => ?_
  have := hf c ((h4 c).mp hc)
  have q : ∀ d : Fin 26, d.val + 97 ∈ abc := by decide
  have q := q ⟨c - 97, by omega⟩
  rw [show c - 97 + 97 = c by omega] at q
  exact q
/-- sorted(d) of a dict by letters -/
theorem i_sortedLD {a : Addr} {kvs : List (Key × V)} {f : Nat → Option V} {H : Hp} {Q : VK} (hd : Rd H a (.dK kvs)) (h : LD kvs f) (hl : kvs.length ≤ 1000000) (q : ∀ (ys : List Nat) (p : Addr), ys.Pairwise (· < ·) → (∀ c, c ∈ ys ↔ (f c).isSome) → H p = none → Q (.ref p) (upd H p (.lst (ys.map vc)))) : rSortedD [.ref a] H Q := by
  obtain ⟨ks, h1, h2, h3, h4⟩ := h
  have e := congrArg List.length h1
  rw [List.length_map, List.length_map] at e
  refine ⟨a, kvs, ks.map fun c => [c], rfl, hd, by rw [h1, List.map_map]; rfl, ?_, by rw [List.length_map]; omega, fun ys p up hm np => ?_⟩
  · refine List.Pairwise.map _ (fun a b h z => h ?_) h2
    simpa using z
  · have ey : ys = (ys.map fun y => y.headD 0).map fun c => [c] := by
      rw [List.map_map]
      refine (List.map_id ys).symm.trans (List.map_congr_left fun y hy => ?_)
      obtain ⟨c, _, rfl⟩ := List.mem_map.mp ((hm y).mp hy)
      rfl
    rw [ey, List.map_map]
    refine q (ys.map fun y => y.headD 0) p ?_ (fun c => ?_) np
    · rw [ey, List.pairwise_map] at up
      exact up.imp fun h => lt_one.mp h
    · rw [← h4 c]
      have := hm [c]
      rw [List.mem_map] at this
      constructor
      · intro hc
        have : [c] ∈ ys := by rw [ey]; exact List.mem_map.mpr ⟨c, hc, rfl⟩
        obtain ⟨d, hd, e⟩ := List.mem_map.mp ((hm _).mp this)
        cases e
        exact hd
      · intro hc
        have : [c] ∈ ys := (hm _).mpr (List.mem_map.mpr ⟨c, hc, rfl⟩)
        exact List.mem_map.mpr ⟨[c], this, rfl⟩
/-- all keys as texts; each stands once -/
def TD (kvs : List (Key × V)) (ks : List (List Nat)) (v : V) : Prop := kvs = ks.map fun k => (Sum.inr (S k), v)
theorem putK_old {v : V} {ks : List (List Nat)} {m : List Nat} (h : m ∈ ks) : putK (ks.map fun k => ((Sum.inr (S k) : Key), v)) (.inr (S m)) v = ks.map fun k => (Sum.inr (S k), v) := by
  have hs : ((ks.map fun k => ((Sum.inr (S k) : Key), v)).any fun kv => decide (kv.1 = (Sum.inr (S m) : Key))) = true := by
    rw [List.any_eq_true]
    exact ⟨(Sum.inr (S m), v), List.mem_map.mpr ⟨m, h, rfl⟩, by simp⟩
  unfold putK
  rw [if_pos hs, List.map_map]
  apply List.map_congr_left
  intro k _
  show (if (Sum.inr (S k) : Key) = Sum.inr (S m) then _ else _) = _
  split <;> rfl
/-- keys in the order met -/
def addK (ks : List (List Nat)) : List (List Nat) → List (List Nat)
  | [] => ks
  | m :: ms => addK (if m ∈ ks then ks else ks ++ [m]) ms
theorem merge_add {v : V} : ∀ (ms ks : List (List Nat)), mergeK (ks.map fun k => (Sum.inr (S k), v)) (ms.map fun k => (Sum.inr (S k), v)) = (addK ks ms).map fun k => (Sum.inr (S k), v)
  | [], ks => rfl
  | m :: ms, ks => by
    show mergeK (putK _ _ _) _ = _
    rw [addK]
    by_cases h : m ∈ ks
    · rw [if_pos h, putK_old h]; exact merge_add ms ks
    · rw [if_neg h]
      have hn : valV (ks.map fun k => ((Sum.inr (S k) : Key), v)) (.inr (S m)) = none := by
        cases e : valV (ks.map fun k => ((Sum.inr (S k) : Key), v)) (.inr (S m)) with
        | none => rfl
        | some x =>
          have := valV_in e
          rw [List.map_map] at this
          obtain ⟨k, hk, e2⟩ := List.mem_map.mp this
          have : k = m := S_inj.mp (Sum.inr.inj e2)
          subst this
          exact absurd hk h
      rw [putK_new v hn, ← merge_add ms (ks ++ [m]), List.map_append]
      rfl
theorem addK_mem {x : List Nat} : ∀ (ms ks : List (List Nat)), x ∈ addK ks ms ↔ x ∈ ks ∨ x ∈ ms
  | [], ks => by simp [addK]
  | m :: ms, ks => by
    rw [addK, addK_mem ms]
    by_cases h : m ∈ ks
    · rw [if_pos h, List.mem_cons]
      constructor
      · rintro (a | a)
        · exact .inl a
        · exact .inr (.inr a)
      · rintro (a | a | a)
        · exact .inl a
        · subst a; exact .inl h
        · exact .inr a
    · rw [if_neg h, List.mem_append, List.mem_singleton, List.mem_cons, or_assoc]
theorem addK_nodup : ∀ (ms ks : List (List Nat)), ks.Nodup → (addK ks ms).Nodup
  | [], ks, h => h
  | m :: ms, ks, h => by
    rw [addK]
    by_cases z : m ∈ ks
    · rw [if_pos z]; exact addK_nodup ms ks h
    · rw [if_neg z]
      refine addK_nodup ms _ ?_
      rw [List.nodup_append]
      exact ⟨h, by simp, fun a ha b hb => by rw [List.mem_singleton.mp hb]; rintro rfl; exact z ha⟩
theorem addK_len : ∀ (ms ks : List (List Nat)), (addK ks ms).length ≤ ks.length + ms.length
  | [], ks => Nat.le_refl _
  | m :: ms, ks => by
    rw [addK]
    have := addK_len ms (if m ∈ ks then ks else ks ++ [m])
    have h2 : (if m ∈ ks then ks else ks ++ [m]).length ≤ ks.length + 1 := by
      split
      · omega
      · simp
    rw [List.length_cons]
    omega
end Lv

set_option Elab.async false
set_option linter.all false
set_option maxRecDepth 100000
set_option maxHeartbeats 3200000
namespace Lv
open PySem PySem.Spec PyProof.Rows L2 SX
/-! ### comprehensions whose turns make new objects -/
theorem paired_imp {α β : Type} {F G : α → β → Prop} : ∀ {xs : List α} {ys : List β}, Paired F xs ys → (∀ x ∈ xs, ∀ y, F x y → G x y) → Paired G xs ys
  | _, _, .nil, _ => .nil
  | _, _, .cons h t, k => .cons (k _ List.mem_cons_self _ h) (paired_imp t fun x hx => k x (List.mem_cons_of_mem _ hx))
theorem paired_at {α β : Type} {F : α → β → Prop} : ∀ {xs : List α} {ys : List β}, Paired F xs ys → ∀ (i : Nat) (y : β), ys[i]? = some y → ∃ x, xs[i]? = some x ∧ F x y
  | _, _, .nil, i, y, h => by simp at h
  | _, _, .cons h t, 0, y, e => by cases e; exact ⟨_, rfl, h⟩
  | _, _, .cons h t, i + 1, y, e => paired_at t i y e
theorem paired_at1 {α β : Type} {F : α → β → Prop} : ∀ {xs : List α} {ys : List β}, Paired F xs ys → ∀ (i : Nat) (x : α), xs[i]? = some x → ∃ y, ys[i]? = some y ∧ F x y
  | _, _, .nil, i, y, h => by simp at h
  | _, _, .cons h t, 0, y, e => by cases e; exact ⟨_, rfl, h⟩
  | _, _, .cons h t, i + 1, y, e => paired_at1 t i y e
theorem paired_len {α β : Type} {F : α → β → Prop} : ∀ {xs : List α} {ys : List β}, Paired F xs ys → xs.length = ys.length
  | _, _, .nil => rfl
  | _, _, .cons h t => by rw [List.length_cons, List.length_cons, paired_len t]
theorem paired_map {α β γ : Type} {F : α → γ → Prop} (g : β → γ) : ∀ {xs : List α} {ys : List β}, Paired (fun x y => F x (g y)) xs ys → Paired F xs (ys.map g)
  | _, _, .nil => .nil
  | _, _, .cons h t => .cons h (paired_map g t)
theorem paired_unmap {α β γ : Type} {F : α → γ → Prop} (g : β → γ) : ∀ {xs : List α} {ys : List β}, Paired F xs (ys.map g) → Paired (fun x y => F x (g y)) xs ys
  | _, [], .nil => .nil
  | _, _ :: _, .cons h t => .cons h (paired_unmap g t)
section
variable {J : It} {n : Nat} {G : Hp → Prop} {Y : Nat → Hp → V → Hp → Prop} {g : TG} {tt : TT} {te : TE} {vs : List Nat} {σ : L2.St} {H : Hp} {Q : VK} {K : PySem.W.Frag}
theorem lcO (w : Walk J n G Y) {α : Type} (items : List α) (hn : items.length = n) (f : α → Option HO) (h6 : n ≤ 1000000) (hG : ∀ H', Same H H' → G H')
    (step : ∀ i c x H' H'', items[i]? = some c → Same H H' → Y i H' x H'' → Same H' H'' ∧ ∀ (Yk : VK) (N : Hp → Prop), (∀ o, f c = some o → ∀ p H4, Same H'' H4 → H'' p = none → H4 p = some o → Yk (.ref p) H4) → (f c = none → ∀ H4, Same H'' H4 → N H4) →
      g x (wipe σ vs) H'' fun σ2 H2 => wipe σ2 vs = wipe σ vs ∧ tt σ2 H2 fun b H3 => if b = true then te σ2 H3 Yk else N H3)
    (fin : ∀ D ps H', H D = none → Same H H' → ps.Nodup → D ∉ ps → (∀ p ∈ ps, H p = none) → Paired (fun p o => H' p = some o) ps (items.filterMap f) → H' D = some (.lst (ps.map V.ref)) → Q (.ref D) H') : LcJ J g tt te vs σ H Q := by
  refine lcG_ok w fun D nD => ⟨fun i acc H' => Same H H' ∧ ∃ ps : List Addr, acc = ps.map V.ref ∧ ps.Nodup ∧ D ∉ ps ∧ (∀ p ∈ ps, H p = none) ∧ Paired (fun p o => H' p = some o) ps ((items.take i).filterMap f), ⟨same_new nD, [], rfl, List.nodup_nil, by simp, by simp, by simpa using Paired.nil⟩, fun i acc H' _ _ z => hG H' z.1, ?_, ?_⟩
  · rintro i acc x H' H'' hi hll hD ⟨sm, ps, rfl, nd, hDn, hnew, pr⟩ y
    obtain ⟨c, hc⟩ : ∃ c, items[i]? = some c := ⟨items[i]'(by omega), List.getElem?_eq_getElem (by omega)⟩
    obtain ⟨s1, st⟩ := step i c x H' H'' hc sm y
    have e := range_fm f items i c hc
    refine st _ _ (fun o ho p H4 s4 np hp => ?_) (fun hv H4 s4 => ?_)
    · have np' : H' p = none := s1.free np
      have hDp : D ≠ p := ne_of_none hD np'
      have npp : p ∉ ps := fun z => by
        obtain ⟨j, hj⟩ := List.mem_iff_getElem?.mp z
        obtain ⟨o', _, ho'⟩ := paired_at1 pr j p hj
        rw [np'] at ho'
        cases ho'
      refine lc_put (s4 _ _ (s1 _ _ hD)) hll (by omega) ⟨(sm.trans (s1.trans s4)).updN nD, ps ++ [p], by rw [List.map_append]; rfl, ?_, ?_, ?_, ?_⟩
      · rw [List.nodup_append]
        exact ⟨nd, by simp, fun a ha b hb => by rw [List.mem_singleton.mp hb]; exact fun z => npp (z ▸ ha)⟩
      · intro z
        rcases List.mem_append.mp z with z | z
        · exact hDn z
        · exact hDp (List.mem_singleton.mp z)
      · intro a ha
        rcases List.mem_append.mp ha with z | z
        · exact hnew a z
        · rw [List.mem_singleton.mp z]; exact sm.free np'
      · rw [e, ho]
        refine Paired.snoc (paired_imp pr fun a ha o' h' => ?_) ?_
        · rw [upd_ne (fun z : a = D => hDn (z ▸ ha))]; exact s4 _ _ (s1 _ _ h')
        · rw [upd_ne hDp.symm]; exact hp
    · refine lc_skip (s4 _ _ (s1 _ _ hD)) hll ⟨sm.trans (s1.trans s4), ps, rfl, nd, hDn, hnew, ?_⟩
      rw [e, hv]
      simp only [Option.toList_none, List.append_nil]
      exact paired_imp pr fun a ha o' h' => s4 _ _ (s1 _ _ h')
  · rintro acc H' _ hD ⟨sm, ps, rfl, nd, hDn, hnew, pr⟩
    rw [List.take_of_length_le (by omega)] at pr
    exact fin D ps H' nD sm nd hDn hnew pr hD
theorem c_lO {α : Type} {a : Addr} (items : List α) (v : α → V) (f : α → Option HO) (ha : SqL K H a (items.map v)) (h6 : items.length ≤ 1000000)
    (step : ∀ c H', c ∈ items → Same H H' → ∀ (Yk : VK) (N : Hp → Prop), (∀ o, f c = some o → ∀ p H4, Same H' H4 → H' p = none → H4 p = some o → Yk (.ref p) H4) → (f c = none → ∀ H4, Same H' H4 → N H4) →
      g (v c) (wipe σ vs) H' fun σ2 H2 => wipe σ2 vs = wipe σ vs ∧ tt σ2 H2 fun b H3 => if b = true then te σ2 H3 Yk else N H3)
    (fin : ∀ D ps H', H D = none → Same H H' → ps.Nodup → D ∉ ps → (∀ p ∈ ps, H p = none) → Paired (fun p o => H' p = some o) ps (items.filterMap f) → H' D = some (.lst (ps.map V.ref)) → Q (.ref D) H') : LcJ (Itl K a) g tt te vs σ H Q := by
  refine lcO (walk_list (xs := items.map v)) items (by simp) f (by simpa using h6) (fun H' s => s.seq ha) ?_ fin
  rintro i c x H' H'' hc sm ⟨rfl, hx⟩
  rw [List.getElem?_map, hc] at hx
  have : v c = x := Option.some.inj hx
  subst this
  exact ⟨Same.refl _, step c H'' (List.mem_of_getElem? hc) sm⟩
theorem c_rO {lo : Int} (f : Nat → Option HO) (h6 : n ≤ 1000000)
    (step : ∀ k H', k < n → Same H H' → ∀ (Yk : VK) (N : Hp → Prop), (∀ o, f k = some o → ∀ p H4, Same H' H4 → H' p = none → H4 p = some o → Yk (.ref p) H4) → (f k = none → ∀ H4, Same H' H4 → N H4) →
      g (.int (lo + (k : Int))) (wipe σ vs) H' fun σ2 H2 => wipe σ2 vs = wipe σ vs ∧ tt σ2 H2 fun b H3 => if b = true then te σ2 H3 Yk else N H3)
    (fin : ∀ D ps H', H D = none → Same H H' → ps.Nodup → D ∉ ps → (∀ p ∈ ps, H p = none) → Paired (fun p o => H' p = some o) ps ((List.range n).filterMap f) → H' D = some (.lst (ps.map V.ref)) → Q (.ref D) H') : LcJ (Itr lo n) g tt te vs σ H Q := by
  refine lcO walk_range (List.range n) (by simp) f h6 (fun _ _ => trivial) ?_ fin
  rintro i c x H' H'' hc sm ⟨rfl, rfl⟩
  have e : c = i := by
    obtain ⟨_, h⟩ := List.getElem?_eq_some_iff.mp hc
    rw [← h, List.getElem_range]
  subst e
  exact ⟨Same.refl _, step c H'' (List.mem_range.mp (List.mem_of_getElem? hc)) sm⟩
/-- over a dict's keys (texts) -/
theorem lcKeysO {td : TE} {d : Addr} {kvs : List (Key × V)} {ks : List (List Nat)} (f : List Nat → Option HO) (hd : H d = some (.dK kvs)) (hk : kvs.map (·.1) = ks.map (fun k => Sum.inr (S k))) (h6 : ks.length ≤ 1000000)
    (htd : ∀ (o : Obj) (Q' : VK), Q' (.ref d) (upd H d (.frz o (.dK kvs))) → td σ (upd H d (.frz o (.dK kvs))) Q')
    (step : ∀ (o : Obj) (c : List Nat) (H' : Hp), c ∈ ks → Same (upd H d (.frz o (.dK kvs))) H' → ∀ (Yk : VK) (N : Hp → Prop), (∀ o, f c = some o → ∀ p H4, Same H' H4 → H' p = none → H4 p = some o → Yk (.ref p) H4) → (f c = none → ∀ H4, Same H' H4 → N H4) →
      g (.str (S c)) (wipe σ vs) H' fun σ2 H2 => wipe σ2 vs = wipe σ vs ∧ tt σ2 H2 fun b H3 => if b = true then te σ2 H3 Yk else N H3)
    (fin : ∀ D ps H', H D = none → Same H H' → ps.Nodup → D ∉ ps → (∀ p ∈ ps, H p = none) → Paired (fun p o => H' p = some o) ps (ks.filterMap f) → H' D = some (.lst (ps.map V.ref)) → Q (.ref D) H') : tLockE (tLc (iKeys td) g tt te vs) σ H Q := by
  refine ⟨d, .dK kvs, hd, trivial, fun o => ?_⟩
  have hlen : ks.length = kvs.length := by
    have := congrArg List.length hk
    rw [List.length_map, List.length_map] at this
    exact this.symm
  refine lcM (fun J H1 => J = Itk d o kvs ∧ H1 = upd H d (.frz o (.dK kvs))) (fun R k => htd o _ ⟨d, o, rfl, .inl ⟨kvs, upd_same, k _ _ ⟨rfl, rfl⟩⟩⟩) ?_
  rintro J H1 ⟨rfl, rfl⟩
  have up : ∀ p, upd H d (.frz o (.dK kvs)) p = none → p ≠ d ∧ H p = none := fun p np => by
    have ne : p ≠ d := fun z => by subst z; rw [upd_same] at np; cases np
    rw [upd_ne ne] at np
    exact ⟨ne, np⟩
  refine lcO walk_keys ks hlen f (by omega) (fun H' s => s _ _ upd_same) ?_ ?_
  · rintro i c x H' H'' hc sm ⟨rfl, k, v, hkv, rfl⟩
    have e : (kvs.map (·.1))[i]? = some k := by rw [List.getElem?_map, hkv]; rfl
    rw [hk, List.getElem?_map, hc] at e
    have : Sum.inr (S c) = k := Option.some.inj e
    subst this
    exact ⟨Same.refl _, step o c H'' (List.mem_of_getElem? hc) sm⟩
  · intro D ps H' nD sm nd hDn hnew pr hD
    obtain ⟨ne, nD⟩ := up D nD
    refine ⟨sm _ _ upd_same, fin D ps _ nD (fun b o' hb => ?_) nd hDn (fun p hp => (up p (hnew p hp)).2) (paired_imp pr fun p hp o' h' => ?_) (by rw [upd_ne ne]; exact hD)⟩
    · by_cases z : b = d
      · subst z; rw [upd_same, ← hb, hd]
      · rw [upd_ne z]; exact sm _ _ (by rw [upd_ne z]; exact hb)
    · rw [upd_ne (up p (hnew p hp)).1]; exact h'
theorem i_lockSet {D : Ends} {i : Nat} {te : TE} (h : tLockE te σ H fun x H1 => D.nx (σ.set i (some x)) H1) : tLock (tAsg te (gName i)) D σ H := h
end
theorem if_ttS {c : Bool} {t : TT} {σ : L2.St} {H : Hp} {Q : Bool → Hp → Prop} (h : c = true → ∀ Q' : Bool → Hp → Prop, (∀ H', Same H H' → Q' false H') → t σ H Q') (k : ∀ H', Same H H' → Q false H') : if c = true then t σ H Q else Q false H := by
  cases c with
  | true => exact iteT (h rfl Q k)
  | false => exact iteF (k _ (Same.refl _))
theorem dec_int {a b : Nat} : decide ((a : Int) = (b : Int)) = decide (a = b) := by
  by_cases h : a = b
  · subst h; simp
  · rw [decide_eq_false h, decide_eq_false (by omega)]
theorem i_mulR {c n : Nat} {m : Int} {H : Hp} {Q : VK} (hm : m = (n : Int)) (hn : n ≤ 1000000) (h : Q (.str (S (List.replicate n c))) H) : rMulS (.str (S [c])) (.int m) H Q := by
  subst hm
  refine i_mulS (by omega) (by omega) (le_line (by simpa using hn)) ?_
  rw [Int.toNat_natCast]
  have e : (List.replicate n [c]).flatten = List.replicate n c := by
    clear h hn
    induction n with
    | zero => rfl
    | succ n ih => rw [List.replicate_succ, List.flatten_cons, ih, List.replicate_succ]; rfl
  rw [e]
  exact h
theorem Low.rep1 {c n : Nat} (h : 97 ≤ c ∧ c ≤ 122) : Low (List.replicate n c) := fun d hd => by rw [(List.mem_replicate.mp hd).2]; exact h
theorem Low.cons {c : Nat} {l : List Nat} (h : 97 ≤ c ∧ c ≤ 122) (hl : Low l) : Low (c :: l) := fun d hd => by
  rcases List.mem_cons.mp hd with z | z
  · subst z; exact h
  · exact hl d z
theorem Low.drop {l : List Nat} (h : Low l) (n : Nat) : Low (l.drop n) := h.sub fun c hc => List.mem_of_mem_drop hc
theorem Low.take {l : List Nat} (h : Low l) (n : Nat) : Low (l.take n) := h.sub fun c hc => List.mem_of_mem_take hc
def ipAddS : TIp := rAddS
theorem ip_addS {X : Cx} : PIp X .Add ipAddS := fun pins s σ H x y v u Q I rx ry h => by
  obtain ⟨a, b, rfl, rfl, hz, q⟩ := h
  refine iop_add_str pins s σ H _ _ v u Q I rx ry ⟨_, _, rfl, rfl, ?_, ?_⟩
  · rw [S_len, S_len]; exact hz
  · rw [S_cat]; exact q
theorem i_augS1 {a b : List Nat} {H : Hp} {Q : VK} (hz : a.length + b.length ≤ sizeLine) (h : Q (.str (S (a ++ b))) H) : ipAddS (.str (S a)) (.str (S b)) H Q := ⟨a, b, rfl, rfl, hz, h⟩
theorem atI_m1 {α : Type} {xs : List α} {v : α} {n : Nat} (hn : xs.length = n + 1) (h : xs[n]? = some v) : atI xs (-1) = some v := by
  unfold atI ixN
  rw [if_neg (by omega), if_pos (by omega), show ((-1 : Int) + (xs.length : Nat)).toNat = n by omega]
  exact h
theorem range_map_get {α : Type} (f : Nat → α) {n i : Nat} (h : i < n) : ((List.range n).map f)[i]? = some (f i) := by
  rw [List.getElem?_map, List.getElem?_range h]; rfl
theorem rev_range_map {α : Type} (f : Nat → α) (n : Nat) : ((List.range (n + 1)).map fun j => f (n - j)).reverse = (List.range (n + 1)).map f := by
  apply List.ext_getElem?
  intro i
  by_cases h : i < n + 1
  · rw [List.getElem?_reverse (by simp; exact h), List.length_map, List.length_range, range_map_get _ (by omega), range_map_get _ h, show n - (n + 1 - 1 - i) = i by omega]
  · rw [List.getElem?_eq_none (by simp; omega), List.getElem?_eq_none (by simp; omega)]
theorem rep_one {α : Type} (n : Nat) (x : α) : (List.replicate n [x]).flatten = (List.range n).map fun _ => x := by
  induction n with
  | zero => rfl
  | succ n ih => rw [List.replicate_succ', List.flatten_append, ih, List.range_succ, List.map_append]; rfl
theorem range_set {α : Type} (f g : Nat → α) {n k : Nat} (h : ∀ j, j ≠ k → f j = g j) : ((List.range n).map f).set k (g k) = (List.range n).map g := by
  apply List.ext_getElem?
  intro j
  by_cases hj : j < n
  · rw [List.getElem?_set]
    by_cases e : k = j
    · subst e; rw [if_pos rfl, if_pos (by simpa using hj), range_map_get _ hj]
    · rw [if_neg e, range_map_get _ hj, range_map_get _ hj, h j (Ne.symm e)]
  · rw [List.getElem?_eq_none (by simp; omega), List.getElem?_eq_none (by simp; omega)]
theorem fm_map2 {α β γ : Type} (f : α → β) (g : β → γ) (l : List α) : l.filterMap (fun c => some (g (f c))) = (l.map f).map g := by rw [fm_map, List.map_map]; rfl
theorem fm_iv {α : Type} (f : α → Nat) (l : List α) : l.filterMap (fun c => some (iv (f c))) = (l.map f).map iv := by rw [fm_map, List.map_map]; rfl
theorem sum_cast (ns : List Nat) : (ns.map fun n : Nat => (n : Int)).sum = ((ns.sum : Nat) : Int) := by
  induction ns with
  | nil => rfl
  | cons n ns ih => rw [List.map_cons, List.sum_cons, ih, List.sum_cons]; omega
theorem ivs (ns : List Nat) : ns.map iv = (ns.map fun n : Nat => (n : Int)).map V.int := by rw [List.map_map]; rfl
theorem i_sumN {K : PySem.W.Frag} {a : Addr} {ns : List Nat} {H : Hp} {Q : VK} (h1 : SqL K H a (ns.map iv)) (h : Q (.int ((ns.sum : Nat) : Int)) H) : rSum K [.ref a] H Q := by
  rw [ivs] at h1
  refine i_sum h1 ?_
  rw [sum_cast]
  exact h
/-! ### new objects, told without naming the heap -/
section
variable {K : PySem.W.Frag} {D : Ends} {σ : L2.St} {H : Hp} {Q : VK} {te td ty tv : TE} {targs : TA}
def lstK (Q : VK) : List V → Hp → Prop := fun xs H1 => xs.length ≤ sizeLine ∧ ∀ p, H1 p = none → Q (.ref p) (upd H1 p (.lst xs))
def tupK (Q : VK) : List V → Hp → Prop := fun xs H1 => xs.length ≤ sizeLine ∧ ∀ p, H1 p = none → Q (.ref p) (upd H1 p (.tup xs))
theorem v_lst (h : targs σ H (lstK Q)) : tLst targs σ H Q := h
theorem v_tup (h : targs σ H (tupK Q)) : tTup targs σ H Q := h
theorem v_lstK {xs : List V} (hz : xs.length ≤ sizeLine) (h : ∀ p H2, H p = none → Same H H2 → H2 p = some (.lst xs) → Q (.ref p) H2) : lstK Q xs H := ⟨hz, fun p n => h p _ n (same_new n) upd_same⟩
theorem v_tupK {xs : List V} (hz : xs.length ≤ sizeLine) (h : ∀ p H2, H p = none → Same H H2 → H2 p = some (.tup xs) → Q (.ref p) H2) : tupK Q xs H := ⟨hz, fun p n => h p _ n (same_new n) upd_same⟩
theorem v_dnewK (h : ∀ p H2, H p = none → Same H H2 → H2 p = some (.dK []) → Q (.ref p) H2) : tDNewK σ H Q := fun p n => h p _ n (same_new n) upd_same
theorem v_rep {l : Addr} {k : Int} {xs : List V} (h1 : H l = some (.lst xs)) (k0 : -(2 ^ 63) ≤ k) (k1 : k < 2 ^ 63) (hz : xs.length * k.toNat ≤ sizeLine) (h : ∀ p H2, H p = none → Same H H2 → H2 p = some (.lst (List.replicate k.toNat xs).flatten) → Q (.ref p) H2) : rRep (.ref l) (.int k) H Q :=
  i_rep h1 k0 k1 hz fun p n => h p _ n (same_new n) upd_same
theorem v_cat {l b : Addr} {xs zs : List V} (h1 : H l = some (.lst xs)) (h2 : H b = some (.lst zs)) (hz : xs.length + zs.length ≤ sizeLine) (h : ∀ p H2, H p = none → Same H H2 → H2 p = some (.lst (xs ++ zs)) → Q (.ref p) H2) : rCat (.ref l) (.ref b) H Q :=
  i_cat h1 h2 hz fun p n => h p _ n (same_new n) upd_same
theorem v_slL {a : Addr} {xs : List V} {lo hi : Option Int} (h1 : SqL K H a xs) (h : ∀ p H2, H p = none → Same H H2 → H2 p = some (.lst (cutV xs lo hi)) → Q (.ref p) H2) : rSlL K (.ref a) lo hi H Q := i_slL h1 fun p n => h p _ n (same_new n) upd_same
def revK (K : PySem.W.Frag) (Q : VK) : V → Hp → Prop := fun x H1 => ∃ a xs, x = .ref a ∧ SqL K H1 a xs ∧ ∀ p, H1 p = none → Q (.ref p) (upd H1 p (.lst xs.reverse))
theorem v_revL (h : te σ H (revK K Q)) : tRevL K te σ H Q := h
theorem v_revK {a : Addr} {xs : List V} (h1 : SqL K H a xs) (h : ∀ p H2, H p = none → Same H H2 → H2 p = some (.lst xs.reverse) → Q (.ref p) H2) : revK K Q (.ref a) H := ⟨a, xs, rfl, h1, fun p n => h p _ n (same_new n) upd_same⟩
theorem v_listOf {a : Addr} {xs : List V} (h1 : SqL K H a xs) (h : ∀ p H2, H p = none → Same H H2 → H2 p = some (.lst xs) → Q (.ref p) H2) : rListOf K [.ref a] H Q := ⟨a, xs, rfl, .inl h1, fun p n => h p _ n (same_new n) upd_same⟩
theorem v_dictD {a : Addr} {kvs : List (Key × V)} (hd : Rd H a (.dK kvs)) (h : ∀ p H2, H p = none → Same H H2 → H2 p = some (.dK kvs) → Q (.ref p) H2) : rDictD [.ref a] H Q := ⟨a, kvs, rfl, hd, fun p n => h p _ n (same_new n) upd_same⟩
theorem v_sortedLD {a : Addr} {kvs : List (Key × V)} {f : Nat → Option V} (hd : Rd H a (.dK kvs)) (h : LD kvs f) (hl : kvs.length ≤ 1000000) (q : ∀ (ys : List Nat) (p : Addr) (H2 : Hp), ys.Pairwise (· < ·) → (∀ c, c ∈ ys ↔ (f c).isSome) → H p = none → Same H H2 → H2 p = some (.lst (ys.map vc)) → Q (.ref p) H2) : rSortedD [.ref a] H Q :=
  i_sortedLD hd h hl fun ys p h1 h2 n => q ys p _ h1 h2 n (same_new n) upd_same
def sortSK (Q : VK) : List V → Hp → Prop := fun vs H1 => ∃ l : List Nat, vs = [.str (S l)] ∧ l.length ≤ 1000 ∧ ∀ (ys : List Nat) (p : Addr), ys.Pairwise (· < ·) → (∀ c, c ∈ ys ↔ c ∈ l) → H1 p = none → Q (.ref p) (upd H1 p (.lst (ys.map vc)))
theorem v_sortSetS (h : targs σ H (sortSK Q)) : tSortSetS targs σ H Q := h
theorem v_sortSK {l : List Nat} (hl : l.length ≤ 1000) (h : ∀ (ys : List Nat) (p : Addr) (H2 : Hp), ys.Pairwise (· < ·) → (∀ c, c ∈ ys ↔ c ∈ l) → H p = none → Same H H2 → H2 p = some (.lst (ys.map vc)) → Q (.ref p) H2) : sortSK Q [.str (S l)] H := ⟨l, rfl, hl, fun ys p h1 h2 n => h ys p _ h1 h2 n (same_new n) upd_same⟩
/-! changed objects -/
theorem But.of {p : Addr} {H : Hp} {o : HO} : But p H (L2.upd H p o) := But.upd
theorem v_setL {p : Addr} {xs : List V} {n : Int} {j : Nat} {v : V} {P : Hp → Prop} (hp : H p = some (.lst xs)) (hj : ixN xs.length n = some j) (h : ∀ H2, But p H H2 → H2 p = some (.lst (xs.set j v)) → P H2) : rSetL (.ref p) (.int n) v H P := i_setL hp hj (h _ But.upd upd_same)
theorem v_app {l : Addr} {xs : List V} {y : V} (hl : H l = some (.lst xs)) (hz : xs.length < sizeLine) (h : ∀ H2, But l H H2 → H2 l = some (.lst (xs ++ [y])) → Q .non H2) : rAppend (.ref l) [y] H Q := i_app hl hz (h _ But.upd upd_same)
theorem v_dPutS {p : Addr} {kvs : List (Key × V)} {v : V} {l : List Nat} {R : Hp → Prop} (hd : H p = some (.dK kvs)) (hl : kvs.length < sizeLine) (h : ∀ H2, But p H H2 → H2 p = some (.dK (putK kvs (.inr (S l)) v)) → R H2) : ∃ a H4, V.ref p = .ref a ∧ DPut H a (.str (S l)) v H4 ∧ R H4 := x_dPutS hd hl (h _ But.upd upd_same)
theorem v_upd {d o : Addr} {kvs more : List (Key × V)} (hd : H d = some (.dK kvs)) (ho : Rd H o (.dK more)) (hne : d ≠ o) (hz : kvs.length + more.length ≤ sizeLine) (q : ∀ H2, But d H H2 → H2 d = some (.dK (mergeK kvs more)) → Q .non H2) : rUpd (.ref d) [.ref o] H Q := i_upd hd ho hne hz (q _ But.upd upd_same)
theorem But.new {p : Addr} {H0 H H' : Hp} (s : Same H0 H) (b : But p H H') (n : H0 p = none) : Same H0 H' := (s.but.trans b).same n
end
theorem i_tBMl {K : PySem.W.Frag} {p : Addr} {xs : List V} {H : Hp} {P : Prop} (h : SqL K H p xs) (k : P) : tyV K "list" (.ref p) H ∧ P := ⟨.inl ⟨rfl, _, h⟩, k⟩
theorem i_tBMd {K : PySem.W.Frag} {p : Addr} {kvs : List (Key × V)} {H : Hp} {P : Prop} (h : H p = some (.dK kvs)) (k : P) : tyV K "dict" (.ref p) H ∧ P := ⟨.inr (.inr (.inl ⟨rfl, .inl ⟨_, h⟩⟩)), k⟩
end Lv

set_option Elab.async false
set_option linter.all false
set_option maxRecDepth 100000
set_option maxHeartbeats 3200000
namespace Lv
open PySem PySem.Spec PyProof.Rows L2 SX
/-! ### text in list of texts; find, rfind of one sign -/
section
variable {X : Cx} {K : PySem.W.Frag} {H : Hp} {Q : VK}
def rInLS (K : PySem.W.Frag) (neg : Bool) : R2 := fun x y H Q => ∃ (m : List Nat) (p : Addr) (ns : List (List Nat)), x = .str (S m) ∧ y = .ref p ∧ SqL K H p (ns.map vs) ∧ Q (.bl (if neg then !decide (m ∈ ns) else decide (m ∈ ns))) H
theorem inV_strs (m : List Nat) (ns : List (List Nat)) : inV (.str (S m)) (ns.map vs) = decide (m ∈ ns) := by
  unfold inV
  rw [List.any_map]
  rw [Bool.eq_iff_iff, List.any_eq_true, decide_eq_true_eq]
  constructor
  · rintro ⟨x, hx, e⟩
    have : S x = S m := eq_of_beq e
    rw [← S_inj.mp this]; exact hx
  · intro h
    exact ⟨m, h, beq_self_eq_true (S m)⟩
theorem op_inLS : OpR X (compareOp .In) (rInLS X.K false) := by
  intro pins s σ H x y v u Q I rx ry h
  obtain ⟨m, p, ns, rfl, rfl, hp, q⟩ := h
  refine op_in_seq pins s σ H _ _ v u Q I rx ry ⟨p, _, rfl, .inl hp, rfl, ?_, ?_⟩
  · rw [List.all_eq_true]
    intro z hz
    obtain ⟨w, _, rfl⟩ := List.mem_map.mp hz
    rfl
  · rw [inV_strs]; exact q
theorem op_notInLS : OpR X (compareOp .NotIn) (rInLS X.K true) := by
  intro pins s σ H x y v u Q I rx ry h
  obtain ⟨m, p, ns, rfl, rfl, hp, q⟩ := h
  refine op_notIn_seq pins s σ H _ _ v u Q I rx ry ⟨p, _, rfl, .inl hp, rfl, ?_, ?_⟩
  · rw [List.all_eq_true]
    intro z hz
    obtain ⟨w, _, rfl⟩ := List.mem_map.mp hz
    rfl
  · rw [inV_strs]; exact q
theorem i_inLS {neg : Bool} {m : List Nat} {p : Addr} {ns : List (List Nat)} (hp : SqL K H p (ns.map vs)) (q : Q (.bl (if neg then !decide (m ∈ ns) else decide (m ∈ ns))) H) : rInLS K neg (.str (S m)) (.ref p) H Q := ⟨m, p, ns, rfl, rfl, hp, q⟩
theorem i_inL {m : List Nat} {p : Addr} {ns : List (List Nat)} (hp : SqL K H p (ns.map vs)) (q : Q (.bl (decide (m ∈ ns))) H) : rInLS K false (.str (S m)) (.ref p) H Q := ⟨m, p, ns, rfl, rfl, hp, q⟩
theorem i_notInL {m : List Nat} {p : Addr} {ns : List (List Nat)} (hp : SqL K H p (ns.map vs)) (q : Q (.bl (!decide (m ∈ ns))) H) : rInLS K true (.str (S m)) (.ref p) H Q := ⟨m, p, ns, rfl, rfl, hp, q⟩
def rFind1 (x : V) (xs : List V) (H : Hp) (Q : VK) : Prop := ∃ (l : List Nat) (c : Nat), x = .str (S l) ∧ xs = [.str (S [c])] ∧ Q (.int (findI l 0 c)) H
theorem mt_find1S : MtR X "str.find" rFind1 := by
  intro pins s σ H x xs v us Q I rx r h
  obtain ⟨l, c, rfl, rfl, q⟩ := h
  refine mt_find pins s σ H _ _ v us Q I rx r ⟨_, _, rfl, rfl, ?_⟩
  rw [find_is_find3]
  have : Txt.find3 (S l) (S [c]) ((0 : Nat) : Int) = findI l 0 c := find3_S l c 0 (Nat.zero_le _)
  rw [show (0 : Int) = ((0 : Nat) : Int) from rfl, this]
  exact q
theorem i_find1 {l : List Nat} {c : Nat} (q : Q (.int (findI l 0 c)) H) : rFind1 (.str (S l)) [.str (S [c])] H Q := ⟨l, c, rfl, rfl, q⟩
/-- the last place that has a sign -/
def rRfind1 (x : V) (xs : List V) (H : Hp) (Q : VK) : Prop := ∃ (l : List Nat) (c : Nat), x = .str (S l) ∧ xs = [.str (S [c])] ∧ (∀ z : Int, (z = -1 ∧ c ∉ l) ∨ (∃ k : Nat, z = k ∧ l[k]? = some c ∧ ∀ j, k < j → l[j]? ≠ some c) → Q (.int z) H)
theorem at_L {l : List Nat} {c i : Nat} : StrLaws.At (S l) (S [c]) (S l).length i ↔ l[i]? = some c := at_S
theorem mt_rfind1S : MtR X "str.rfind" rRfind1 := by
  intro pins s σ H x xs v us Q I rx r h
  obtain ⟨l, c, rfl, rfl, q⟩ := h
  refine mt_rfind pins s σ H _ _ v us Q I rx r ⟨_, _, rfl, rfl, q _ ?_⟩
  rcases rfind_whole (S l) (S [c]) with ⟨h1, h2⟩ | ⟨k, h1, h2, h3⟩
  · refine .inl ⟨h1, fun z => ?_⟩
    obtain ⟨j, hj⟩ := List.mem_iff_getElem?.mp z
    exact h2 j (at_L.mpr hj)
  · exact .inr ⟨k, h1, at_L.mp h2, fun j hj z => h3 j hj (at_L.mpr z)⟩
end
/-! ### len(set(text)) -/
section
variable {X : Cx} {ta : TA} {e : Expr} {p1 p2 pos pos2 : Pos}
def tLenSetS (ta : TA) : TE := fun σ H Q => ta σ H fun vs H1 => ∃ l : List Nat, vs = [.str (S l)] ∧ l.length ≤ 1000 ∧ ∀ zs : List Nat, zs.Nodup → (∀ c, c ∈ zs ↔ c ∈ l) → Q (.int ((zs.length : Nat) : Int)) H1
theorem pe_lenSetS (hc : X.calm = true) (hg1 : Gl X "len") (hm1 : X.mg "len" = none) (hg2 : Gl X "set") (hm2 : X.mg "set" = none) (ha : PA X [e] ta)
    (hs : starEach [e] X.env = [(false, eval e X.env)] := by rfl) (hs2 : starEach [.Call (.Name "set" p2) [e] [] pos2] X.env = [(false, eval (.Call (.Name "set" p2) [e] [] pos2) X.env)] := by rfl) :
    PE X (.Call (.Name "len" p1) [.Call (.Name "set" p2) [e] [] pos2] [] pos) (tLenSetS ta) := by
  refine ⟨fun pins s σ H Q I h => ?_⟩
  refine wpAny_Call_Name_kw (ld_blt I hg1 hm1 boot_len ?_)
  refine callWith_builtin1 ?_ hs2 rfl
  rw [hs2]
  refine Calls.spliced_cons ?_
  refine wpAny_Call_Name_kw (ld_blt I hg2 hm2 boot_set (callWith_type1 (thn (ha.run pos2 pins s σ H _ I h) fun us s1 ⟨vs, H1, I1, r1, q1⟩ => ?_) hs rfl))
  obtain ⟨l, rfl, hl, q⟩ := q1
  cases r1 with
  | cons r rr =>
    cases rr
    obtain ⟨t, rfl⟩ := r
    have hd := I1.ok.hd hc
    refine call_setText (xs := l.map fun c => (⟨#[c]⟩ : Str)) (by simp [S]) hd (by rw [List.length_map]; unfold scanBound; omega) fun h' tk R1 keep => ?_
    refine Calls.spliced_nil ?_
    obtain ⟨o, es, ep, tt, ho, hex, hdt, gd, nd, hm, hsz, hsb, hf, _⟩ := R1
    have I2 : Inv X pins σ H1 { s1 with heap := h', toks := tk } := I1.kept keep
    have one : ∀ y ∈ es.toList.map kyS, ∃ c, c ∈ l ∧ y = S [c] := fun y hy => by
      have := (hm y).mpr hy
      rw [List.mem_reverse, List.mem_map] at this
      obtain ⟨c, h1, h2⟩ := this
      exact ⟨c, h1, h2.symm⟩
    have eys : es.toList.map kyS = ((es.toList.map kyS).map fun y => y.cps.toList.headD 0).map fun c => S [c] := by
      conv => rhs; rw [List.map_map]
      refine (List.map_id _).symm.trans (List.map_congr_left fun y hy => ?_)
      obtain ⟨c, _, rfl⟩ := one y hy
      rfl
    have hlen : es.size = ((es.toList.map kyS).map fun y => y.cps.toList.headD 0).length := by simp
    rw [eys] at nd hm
    generalize ((es.toList.map kyS).map fun y => y.cps.toList.headD 0) = zs at nd hm hlen
    have q2 := q zs (by
      rw [List.Nodup, List.pairwise_map] at nd
      exact nd.imp fun h z => h (by rw [z])) fun c => by
        have := hm (S [c])
        rw [List.mem_reverse, List.mem_map, List.mem_map] at this
        constructor
        · intro hz
          obtain ⟨d, h1, h2⟩ := this.mpr ⟨c, hz, rfl⟩
          have : [d] = [c] := S_inj.mp h2
          cases this
          exact h1
        · intro hz
          obtain ⟨d, h1, h2⟩ := this.mp ⟨c, hz, rfl⟩
          have : [d] = [c] := S_inj.mp h2
          cases this
          exact h1
    refine call_len_set ho hex hdt hf (by unfold scanBound at hsb; omega) ⟨.int ((es.size : Nat) : Int), H1, I2.tok _, ⟨_, rfl⟩, by rw [hlen]; exact q2⟩
def lenSK (Q : VK) : List V → Hp → Prop := fun vs H1 => ∃ l : List Nat, vs = [.str (S l)] ∧ l.length ≤ 1000 ∧ ∀ zs : List Nat, zs.Nodup → (∀ c, c ∈ zs ↔ c ∈ l) → Q (.int ((zs.length : Nat) : Int)) H1
theorem v_lenSetS {σ : L2.St} {H : Hp} {Q : VK} (h : ta σ H (lenSK Q)) : tLenSetS ta σ H Q := h
theorem v_lenSK {l : List Nat} {H : Hp} {Q : VK} (hl : l.length ≤ 1000) (h : ∀ zs : List Nat, zs.Nodup → (∀ c, c ∈ zs ↔ c ∈ l) → Q (.int ((zs.length : Nat) : Int)) H) : lenSK Q [.str (S l)] H := ⟨l, rfl, hl, h⟩
end
end Lv

set_option Elab.async false
set_option linter.all false
set_option maxRecDepth 100000
set_option maxHeartbeats 3200000
namespace Lv
open PySem PySem.Spec PyProof.Rows L2 SX
/-! ### list(text), xs.pop(0) -/
section
variable {X : Cx} {K : PySem.W.Frag} {H : Hp} {Q : VK}
def rListS : List V → Hp → VK → Prop := fun xs H Q => ∃ l : List Nat, xs = [.str (S l)] ∧ l.length ≤ 1000000 ∧ ∀ p, H p = none → Q (.ref p) (upd H p (.lst (l.map vc)))
theorem call_listS (hc : X.calm = true) : CallR X (.type "list") rListS := by
  intro pins s σ H xs us Q I r h
  obtain ⟨l, rfl, hl, q⟩ := h
  obtain ⟨u, eu, rx⟩ := vals1 r
  subst eu
  obtain ⟨t, rfl⟩ := rx
  have hz : (S l).cps.size ≤ sizeLine := le_line (by simpa using hl)
  refine PySem.call_list_str (hn := hz) (I.ok.hd hc) (S l) t fun h' tk acc c hk hS hacc => ?_
  refine ⟨.ref s.heap.objs.size, upd H s.heap.objs.size (.lst (l.map vc)), I.laid (t' := tk) hk (Nat.le_refl _) (show ObjOk X.prog X.w _ _ _ (.lst (l.map vc)) from ⟨?_, acc.toList, c, ?_, ?_⟩), rfl, q _ (I.hok.fresh (Nat.le_refl _))⟩
  · rw [List.length_map]; exact le_line hl
  · have el : acc.toList.length = l.length := by
      have := hacc.1
      rw [Array.length_toList, this]
      simp
    refine vals_of_at (by rw [List.length_map, el]) fun j x w h1 h2 => ?_
    obtain ⟨d0, tk, e0, e⟩ := hacc.2 j w (by rw [← Array.getElem?_toList]; exact h2)
    rw [List.getElem?_map] at h1
    cases e1 : l[j]? with
    | none => rw [e1] at h1; cases h1
    | some d =>
      rw [e1] at h1
      have h1 : vc d = x := Option.some.inj h1
      subst h1
      have : d0 = d := by
        have e2 : l[j]? = some d0 := by simpa using e0
        rw [e1] at e2
        exact (Option.some.inj e2).symm
      subst this
      exact ⟨tk, e⟩
  · rw [Array.toArray_toList]; exact hS
theorem v_listS {l : List Nat} (hl : l.length ≤ 1000000) (h : ∀ p H2, H p = none → Same H H2 → H2 p = some (.lst (l.map vc)) → Q (.ref p) H2) : rListS [.str (S l)] H Q := ⟨l, rfl, hl, fun p n => h p _ n (same_new n) upd_same⟩
theorem v_pop0 {l : Addr} {y : V} {xs : List V} (hl : H l = some (.lst (y :: xs))) (h : ∀ H2, But l H H2 → H2 l = some (.lst xs) → Q y H2) : rPopAt (.ref l) [.int 0] H Q := ⟨l, y :: xs, 0, 0, y, rfl, rfl, hl, by decide, by decide, by simp [seqIndex?], rfl, h _ But.upd upd_same⟩
end
end Lv

set_option Elab.async false
set_option linter.all false
set_option maxRecDepth 100000
set_option maxHeartbeats 3200000
namespace Lv
open PySem PySem.Spec PyProof.Rows L2 SX
/-! ### defs that show lists (repr): what they promise where nothing is being shown around them -/
structure FnG (P : Program) (w : World) (K : PySem.W.Frag) (mg : Str → Option Value) (base : Heap) (CX : CXT)
    (k : Nat) (f : Addr) (fd : FuncData) (ps : List Str) (sp : Sp) : Prop where
  len : ∀ vs H Q E, sp vs H Q E → vs.length = ps.length
  run : ∀ (A : Around) (outer : List Env) (s : Shared) (H : Hp) (args : Args) (us : List Value) (vs : List V) (Q : VK) (E : XK),
    Room k A → A.guards = some [] → Env0 P w K mg base A outer s H → BindsTo s fd args (ps.zip us) → Vals vs us → sp vs H Q E →
      codeAny (model P w) A (.call (.ref f) args) (CR CX outer P w H s Q E) s
section
variable {P : Program} {w : World} {K : PySem.W.Frag} {mg : Str → Option Value} {base : Heap}
theorem FnG.mono {CX : CXT} {j k : Nat} {f : Addr} {fd : FuncData} {ps : List Str} {sp : Sp} (F : FnG P w K mg base CX j f fd ps sp) (h : j ≤ k) : FnG P w K mg base CX k f fd ps sp :=
  ⟨F.len, fun A o s H args us vs Q E r g e b v p => F.run A o s H args us vs Q E (r.mono h) g e b v p⟩
/-- a def by its body's reading -/
theorem Fun_okG {x qual : Str} {st : Stmt} {f : Addr} {fd : FuncData} {N ps : List Str} {k : Nat} {sp : Sp}
    (F : Fun K x qual st f fd) (S : FnScope N ps (defScope st)) (len : ∀ vs H Q E, sp vs H Q E → vs.length = ps.length)
    (hbody : ∀ (cdv : Value) (A : Around) (outer : List Env) (s : Shared) (H : Hp) (vs : List V) (Q : VK) (E : XK),
      Room k (A.deeper (envOfC qual (defScope st) s.heap.objs.size f cdv)) → A.guards = some [] → sp vs H Q E →
      ∃ t, PSs (cxOf CX0 P w K mg base N qual (defScope st) f cdv A outer s H E).nox (defBody st) t ∧ t { nx := fun _ H' => Q .non H', rt := Q } (start N vs) H) :
    FnG P w K mg base CX0 (k + 1) f fd ps sp := by
  obtain ⟨oc, od, kV, doc, pm, an, cdv, ct, osl, rfl, lk, hcd⟩ := F.ex
  constructor
  · exact len
  intro A outer s H args us vs Q E room guard env bind rel prom
  have size := len vs H Q E prom
  have inK : K.In s.heap := env.mod.kin.keeps fun b o q => (env.bs b o q).1
  have limit : s.heap.NoLimit := env.mod.nolimit.keeps fun b o q => (env.bs b o q).1
  have kinds : ∀ y ∈ ps.zip us, (defScope st).names.lookup y.1 = some .local ∨
      ((defScope st).names.lookup y.1 = some .cell ∧ ((cellsFrom (s.heap.objs.size + 1) (defScope st).names []).lookup y.1).isSome = true) := by
    rintro ⟨n, v⟩ mem
    have := S.par n (List.of_mem_zip mem).1
    exact this.imp id fun c => ⟨c, PySem.W.cellsFrom_some _ _ _ (.inl c)⟩
  apply codeAny_call_function room.depth (inK _ _ lk) rfl S.co S.gen rfl (PySem.W.codeRec_of inK hcd)
  apply bind
  apply wpAny_newFunctionEnv_cells S.kind kinds
  intro e eqe s1 made
  subst eqe
  refine ⟨limit.keeps made.toInCall.keep, codeAny_func ?_⟩
  obtain ⟨t, walk, reads⟩ := hbody cdv A outer s H vs Q E (room.deeper _) guard prom
  have inv := inv_start (CX := CX0) (E := E) S room.hd env size rel made
  refine wpAny_mono (walk.nox.run [] s1 (start N vs) H _ inv reads) ?_ (fun e s' q => q)
  intro fl s' out
  have close : ∀ {σ' : L2.St} {H' : Hp} {v : V} {u : Value}, L2.Inv (cxOf CX0 P w K mg base N qual (defScope st) f cdv A outer s H E) [] σ' H' s' →
      RelV v u → Q v H' → CE outer P w H s Q u s' := fun J r q => ⟨_, _, J.os, J.bare, J.base, J.hok, r, q⟩
  cases fl with
  | next => exact let ⟨_, _, J, q⟩ := out; close (v := V.non) (u := Value.none) J rfl q
  | ret u => exact let ⟨_, _, _, J, r, q⟩ := out; close J r q
  | brk => exact let ⟨_, _, _, q⟩ := out; q.elim
  | cont => exact let ⟨_, _, _, q⟩ := out; q.elim
end
section
variable {X : Cx} {k : Nat} {f : Addr} {fd : FuncData} {ps : List Str} {sp : Sp} {x : Str} {p pos : Pos} {e : Expr} {es : List Expr} {t : TA}
/-- a call of such a def (that raises nothing) -/
theorem pe_callG (F : FnG X.prog X.w X.K X.mg X.base CX0 k f fd ps sp) (room : Room k X.A) (guard : X.A.guards = some []) (hg : Gl X x) (hm : X.mg x = some (.ref f))
    (hk : PySem.W.keepIn X.K (.ref f) = true) (hb : Binds X.K fd ps []) (ha : PA X (e :: es) t) (hdb : (x == ("__debug__" : Str)) = false := by decide)
    (he : starEach (e :: es) X.env = (false, eval e X.env) :: starEach es X.env := by rfl) (hpl : (backTo pos (starEach es X.env)).any (·.1) = false := by rfl) :
    PE X (.Call (.Name x p) (e :: es) [] pos) (tCall sp [] E0 t) := by
  constructor
  intro pins s σ H Q I h
  refine wpAny_Call_Name_kw (ld_glob I hg hm ?_ hdb)
  refine PySem.W.callWith_K (h₀ := X.base) I.ok.mod.kin hk (thn (ha.run pos pins s σ H _ I h) ?_) he hpl
  rintro us s1 ⟨vs, H1, I1, r, q⟩
  refine ⟨I1.kIn, ?_⟩
  have q : sp vs H1 Q E0 := by simpa using q
  have size : us.length = ps.length := by rw [← r.length]; exact F.len _ _ _ _ q
  have bnd := hb s1 us I1.kIn (by simpa using size)
  rw [List.append_nil] at bnd
  refine wpAny_call (codeAny_mono (F.run X.A X.stack s1 H1 ⟨us, []⟩ us vs Q E0 room guard I1.env0 bnd r q) ?_)
  intro r2 s' hq
  cases r2 with
  | error e => exact False.elim hq
  | ok fl =>
    cases fl with
    | ret u => exact I1.after hq
    | next => exact False.elim hq
    | brk => exact False.elim hq
    | cont => exact False.elim hq
/-- repr of data -/
def shw (d : PyData) : List Nat := d.shown.cps.toList
theorem shw_S (d : PyData) : S (shw d) = d.shown := by
  unfold shw
  show (⟨d.shown.cps.toList.toArray⟩ : Str) = _
  rw [Array.toArray_toList]
def rRepr (K : PySem.W.Frag) : List V → Hp → VK → Prop := fun xs H Q => ∃ (v : V) (d : PyData), xs = [v] ∧ Dp K H v d ∧ d.showable = true ∧ d.hasDict = false ∧ d.depth ≤ 20 ∧ d.shown.length ≤ sizeLine ∧ Q (.str (S (shw d))) H
theorem call_repr (guard : X.A.guards = some []) (hu : X.A.units + 64 < cLine) : CallR X (.builtin "repr") (rRepr X.K) := by
  intro pins s σ H xs us Q I r h
  obtain ⟨v, d, rfl, hd, sh, nd, dp, sz, q⟩ := h
  rw [shw_S] at q
  obtain ⟨u, eu, rx⟩ := vals1 r
  subst eu
  obtain ⟨as, rd⟩ := Dp.reads I d v u hd rx
  cases rd with
  | none => exact P.repr_of_none ⟨.str _, H, I.tok _, ⟨_, rfl⟩, q⟩
  | bool b => exact P.repr_of_bool ⟨.str _, H, I.tok _, ⟨_, rfl⟩, q⟩
  | int i t => exact P.repr_of_int (by simpa [PyData.showable] using sh) ⟨.str _, H, I.tok _, ⟨_, rfl⟩, q⟩
  | str x t => exact P.repr_of_str (hsz := sz) ⟨.str _, H, I.tok _, ⟨_, rfl⟩, q⟩
  | list h1 h2 h3 h4 => exact repr_of_reads' (.list h1 h2 h3 h4) sh (fun z => by rw [nd] at z; cases z) guard (by omega) (fun _ _ e => e) (fun h' u tk hk => ⟨.str _, H, I.kept hk, ⟨_, rfl⟩, q⟩) sz
  | tuple h1 h2 h3 h4 => exact repr_of_reads' (.tuple h1 h2 h3 h4) sh (fun z => by rw [nd] at z; cases z) guard (by omega) (fun _ _ e => e) (fun h' u tk hk => ⟨.str _, H, I.kept hk, ⟨_, rfl⟩, q⟩) sz
  | dict h1 h2 h3 h4 h5 => cases nd
end
/-! lists of whole numbers shown -/
def dInts (ns : List Int) : PyData := .list (ns.map PyData.int)
theorem show_ints : ∀ ns : List Int, (∀ n ∈ ns, n.natAbs.log2 < 1920) → PyData.showableAll (ns.map PyData.int) = true
  | [], _ => rfl
  | n :: ns, h => by
    rw [List.map_cons, PyData.showableAll, show_ints ns fun m hm => h m (List.mem_cons_of_mem _ hm), Bool.and_true]
    show decide (n.natAbs.log2 < 1920) = true
    exact decide_eq_true (h n List.mem_cons_self)
theorem nodict_ints : ∀ ns : List Int, PyData.hasDictAll (ns.map PyData.int) = false
  | [] => rfl
  | n :: ns => by rw [List.map_cons, PyData.hasDictAll, nodict_ints ns]; rfl
theorem depth_ints0 : ∀ ns : List Int, PyData.depthAll (ns.map PyData.int) = 0
  | [] => rfl
  | n :: ns => by rw [List.map_cons, PyData.depthAll, depth_ints0 ns]; rfl
theorem shown_ints : ∀ ns : List Int, (∀ n ∈ ns, n.natAbs.log2 < 1920) → ((PyData.shownAll (ns.map PyData.int)).map (·.length)).sum ≤ 1921 * ns.length ∧ (PyData.shownAll (ns.map PyData.int)).length = ns.length
  | [], _ => ⟨Nat.le_refl _, rfl⟩
  | n :: ns, h => by
    obtain ⟨h1, h2⟩ := shown_ints ns fun m hm => h m (List.mem_cons_of_mem _ hm)
    have h3 := int_text_len_1921 (h n List.mem_cons_self)
    have h4 : (PyData.shown (.int n)).length ≤ 1921 := by
      show (Str.ofString (toString n)).length ≤ 1921
      exact h3
    rw [List.map_cons, PyData.shownAll, List.map_cons, List.sum_cons, List.length_cons, List.length_cons, h2]
    exact ⟨by omega, rfl⟩
theorem size_ints {ns : List Int} (hl : ns.length ≤ 2000) (h : ∀ n ∈ ns, n.natAbs.log2 < 1920) : (dInts ns).shown.length ≤ sizeLine := by
  obtain ⟨h1, h2⟩ := shown_ints ns h
  have := listText_len_le (PyData.shownAll (ns.map PyData.int))
  have e : (dInts ns).shown = listText (PyData.shownAll (ns.map PyData.int)) := by
    unfold dInts
    rw [PyData.shown]
  rw [e, sizeLine_eq]
  omega
theorem i_reprI {K : PySem.W.Frag} {p : Addr} {ns : List Int} {H : Hp} {Q : VK} (hp : SqL K H p (ns.map V.int)) (hl : ns.length ≤ 2000) (h : ∀ n ∈ ns, n.natAbs.log2 < 1920) (q : Q (.str (S (shw (dInts ns)))) H) : rRepr K [.ref p] H Q :=
  ⟨.ref p, dInts ns, rfl, .lst hp (dp_ints ns), by unfold dInts; rw [PyData.showable]; exact show_ints ns h, by unfold dInts; rw [PyData.hasDict]; exact nodict_ints ns, by unfold dInts; rw [PyData.depth, depth_ints0]; decide, size_ints hl h, q⟩
theorem log_small {n : Nat} (h : n < 2 ^ 1900) : ((n : Int)).natAbs.log2 < 1920 := by
  rw [Int.natAbs_natCast]
  rcases Nat.eq_zero_or_pos n with z | z
  · subst z; decide
  · exact (Nat.log2_lt (by omega)).mpr (Nat.lt_of_lt_of_le h (Nat.pow_le_pow_right (by decide) (by decide)))
def dNats (ns : List Nat) : PyData := dInts (ns.map fun n : Nat => (n : Int))
theorem i_reprN {K : PySem.W.Frag} {p : Addr} {ns : List Nat} {H : Hp} {Q : VK} (hp : SqL K H p (ns.map iv)) (hl : ns.length ≤ 2000) (h : ∀ n ∈ ns, n < 2 ^ 1900) (q : Q (.str (S (shw (dNats ns)))) H) : rRepr K [.ref p] H Q := by
  rw [ivs] at hp
  refine i_reprI hp (by simpa using hl) (fun n hn => ?_) q
  obtain ⟨m, hm, rfl⟩ := List.mem_map.mp hn
  exact log_small (h m hm)
theorem i_reprNone {K : PySem.W.Frag} {H : Hp} {Q : VK} (q : Q (.str (S (shw .none))) H) : rRepr K [.non] H Q := ⟨.non, .none, rfl, .non, rfl, rfl, by decide, by decide +kernel, q⟩
end Lv

set_option Elab.async false
set_option linter.all false
set_option maxRecDepth 100000
set_option maxHeartbeats 3200000
namespace Lv
open PySem PySem.Spec PyProof.Rows L2 SX
/-! ### the end of a law whose defs show lists -/
/-- the law's call, the script being tracked (locked) in H or standing in the written part -/
theorem law_runG {P : Program} {w : World} {K : PySem.W.Frag} {mg mb : Str → Option Value} {k : Nat} {fa a : Addr} {fd : FuncData} {x : Str} {sp : Sp} {s1 : Shared} {H : Hp} {o : Obj}
    (inK : K.In s1.heap) (g1 : s1.heap.Ns mainGlobals mg) (g2 : s1.heap.Ns builtinsNs mb) (g3 : ∀ x : Str, x ≠ "__name__" → mb x = bootBuiltins x) (g4 : s1.heap.NoLimit) (g5 : s1.gens = #[])
    (ha : s1.heap.get? a = some o) (seq : ∃ vs n, o.data = .seq vs n) (room : Room k callerA)
    (F : ∀ base : Heap, K.In base → base.Ns mainGlobals mg → FnG P w K mg base CX0 k fa fd [x] sp) (bind : ∀ (s : Shared) (u : Value), BindsTo s fd ⟨[u], []⟩ [(x, u)])
    (only : ∀ b u, H b = some u → b = a ∧ ∃ xs, u = .frz o (.lst xs)) (ok : HOk P w H s1.heap) (free : H a ≠ none → K.lookup a = none)
    (prom : sp [.ref a] H (fun v _ => v = .bl true) E0) :
    codeAny (model P w) callerA (.call (.ref fa) ⟨[.ref a], []⟩) (fun r s' => r = .ok (.ret (.bool true)) ∧ OldK s1.heap s'.heap ∧ s'.os = s1.os ∧ AllBare s'.gens) s1 := by
  have keep : ∀ {b : Addr} {u : Obj}, s1.heap.get? b = some u → H b = none → (hidT s1.heap H).get? b = some u := fun q n => hidT_get q n
  have nodict : ∀ {b : Addr} {u : Obj} {es : Array DictEntry} {ep : Nat}, s1.heap.get? b = some u → u.data = .dict es ep → H b = none := by
    intro b u es ep q z
    rcases e : H b with _ | t
    · rfl
    · obtain ⟨rfl, _⟩ := only b t e
      obtain ⟨vs, n, hq⟩ := seq
      rw [ha] at q
      cases q
      rw [hq] at z
      cases z
  have names : ∀ {b : Addr} {m : Str → Option Value}, s1.heap.Ns b m → (hidT s1.heap H).Ns b m := by
    rintro b m ⟨u, es, ep, q, z, r⟩
    exact ⟨u, es, ep, keep q (nodict q z), z, r⟩
  have inB : K.In (hidT s1.heap H) := by
    intro b u q
    refine keep (inK b u q) ?_
    rcases e : H b with _ | t
    · rfl
    · obtain ⟨rfl, _⟩ := only b t e
      rw [free (by rw [e]; exact fun z => nomatch z)] at q
      cases q
  have lim : (hidT s1.heap H).NoLimit := by
    obtain ⟨mc, q1, q2⟩ := g4
    exact ⟨mc, names q1, q2⟩
  have env : Env0 P w K mg (hidT s1.heap H) callerA [] s1 H :=
    { frames := rfl, mod := ⟨inB, names g1, ⟨mb, names g2, g3⟩, lim⟩, bs := fun b u q => of_hidT q, bsz := Nat.le_of_eq (hidT_size _ _), funs := trivial,
      frf := fun b z => absurd z (by intro y; cases y), hok := ok, bare := .of_eq g5 }
  have run := (F _ inB (names g1)).run callerA [] s1 H ⟨[.ref a], []⟩ [.ref a] [.ref a] (fun v _ => v = .bl true) E0 room rfl env (bind s1 (.ref a)) (.cons rfl .nil) prom
  refine codeAny_mono run ?_
  intro r s' out
  cases r with
  | error e => exact False.elim out
  | ok fl =>
    cases fl with
    | ret u =>
      obtain ⟨v, H', os, bare, un, ok', rel, q⟩ := out
      cases (show v = .bl true from q)
      cases (show u = Value.bool true from rel)
      refine ⟨rfl, OldK.of_keep ?_, os, bare⟩
      intro b u q
      rcases e : H b with _ | t
      · exact un.keep b u q e (fun z => by cases z) (by simp)
      · obtain ⟨rfl, xs, rfl⟩ := only b t e
        rw [ha] at q
        cases q
        exact (ok' b _ (un.frzs b o _ e)).1
    | next => exact False.elim out
    | brk => exact False.elim out
    | cont => exact False.elim out
theorem walk_ofG {l : PySem.W.OpenLaw} {n k : Nat} {q : Program} {loose : List Str} {XP : (Str → Option Value) → Heap → Prop} {YP : World → Heap → Prop} {d : DefRec} {K : Params → PySem.W.Frag} {sp : World → Sp} {x : Str}
    (hn : l.most = some n) (hn2 : n ≤ sizeLine) (hdf : d.params.defaults = []) (room : Room k callerA) (hY : ∀ (w : World) (h : Heap), YP w h → (K w.params).In h)
    (F : ∀ (w : World) (mg : Str → Option Value) (fa : Addr) (h : Heap), (K w.params).In h → h.Ns mainGlobals mg → mg d.name = some (.ref fa) →
      ∃ fd : FuncData, (∀ (s : Shared) (u : Value), BindsTo s fd ⟨[u], []⟩ [(x, u)]) ∧
        ∀ base : Heap, (K w.params).In base → base.Ns mainGlobals mg → FnG l.prog w (K w.params) mg base CX0 k fa fd [x] (sp w))
    (prom : ∀ (w : World) (H : Hp) (a : Addr) (ns : List Int), ns.length ≤ n → SqL (K w.params) H a (ns.map V.int) → sp w [.ref a] H (fun v _ => v = .bl true) E0) :
    PySem.W.WalkO q loose XP YP l.row.toRowW d [] (fun f vs => PySem.call f vs) := by
  apply Att.attach_call hn hdf
  intro w s0 s1 mg mb fa o pm cd doc a vs ns G Y ho hd hcd hmg hobj isI few bare
  have inK := hY w _ Y
  have size : ns.length ≤ sizeLine := Nat.le_trans few hn2
  obtain ⟨fd, bind, fn⟩ := F w mg fa _ inK G.T.g hmg
  have vals := vals_ints isI
  rcases lk : (K w.params).lookup a with _ | ob
  · -- tracked and locked
    have here : ∀ b u, (if b = a then some (HO.frz { cls := .type "list", data := .seq vs.toArray } (.lst (ns.map V.int))) else none) = some u → b = a ∧ u = .frz { cls := .type "list", data := .seq vs.toArray } (.lst (ns.map V.int)) := by
      intro b u z
      split at z
      · exact ⟨by assumption, (Option.some.inj z).symm⟩
      · cases z
    refine law_runG (H := fun b => if b = a then some (.frz { cls := .type "list", data := .seq vs.toArray } (.lst (ns.map V.int))) else none) inK G.T.g G.T.b G.T.builtins G.T.nolimit bare hobj ⟨_, _, rfl⟩ room fn bind ?_ ?_ (fun _ => lk) ?_
    · intro b u z
      obtain ⟨h1, h2⟩ := here b u z
      exact ⟨h1, _, h2⟩
    · intro b u z
      obtain ⟨rfl, rfl⟩ := here b u z
      exact ⟨hobj, by simpa using size, vs, _, vals, hobj⟩
    · exact prom w _ a ns few (.inl (.inr ⟨_, if_pos rfl⟩))
  · have e := inK a ob lk
    rw [hobj] at e
    cases e
    refine law_runG (H := fun _ => none) inK G.T.g G.T.b G.T.builtins G.T.nolimit bare hobj ⟨_, _, rfl⟩ room fn bind (fun b u z => by cases z) (fun b u z => by cases z) (fun z => absurd rfl z) ?_
    exact prom w _ a ns few (.inr ⟨_, vs.toArray, _, lk, rfl, rfl, rfl, by rw [List.size_toArray, isI.length]; exact size, by simpa using vals⟩)
end Lv

set_option Elab.async false
set_option linter.all false
set_option maxRecDepth 100000
set_option maxHeartbeats 3200000
namespace Lv
open PySem PySem.Spec PyProof.Rows L2 SX
/-! ### instances -/
/-- the class at C, whose instances keep the fields fs -/
structure Kl (K : PySem.W.Frag) (C : Addr) (fs : List Str) : Prop where
  cl : Cls K C
  no : ∀ f, f ∈ fs → NoAttr K C f
theorem Kl.of1 {K : PySem.W.Frag} {C : Addr} {f : Str} (c : Cls K C) (h : NoAttr K C f) : Kl K C [f] := ⟨c, fun g hg => by rw [List.mem_singleton.mp hg]; exact h⟩
theorem Kl.more {K : PySem.W.Frag} {C : Addr} {f : Str} {fs : List Str} (h : NoAttr K C f) (k : Kl K C fs) : Kl K C (f :: fs) := ⟨k.cl, fun g hg => by
  rcases List.mem_cons.mp hg with e | e
  · rw [e]; exact h
  · exact k.no g e⟩
section
variable {K : PySem.W.Frag} {C : Addr} {ta tv : TE} {t : TA} {f m : Str} {σ : L2.St} {H : Hp} {Q : VK} {E : XK} {dvs : List V} {sp : Sp} {D : Ends}
def rMe (C : Addr) (m : Str) (x : V) (H : Hp) (k : Prop) : Prop := ∃ a dx fs, x = .ref a ∧ H a = some (.ins C dx fs) ∧ fs.lookup m = none ∧ k
def rFl (K : PySem.W.Frag) (f : Str) (x : V) (H : Hp) (Q : V → Prop) : Prop := ∃ a C dx fs v, x = .ref a ∧ H a = some (.ins C dx fs) ∧ Cls K C ∧ NoAttr K C f ∧ fs.lookup f = some v ∧ Q v
def rPf (K : PySem.W.Frag) (f : Str) (y x : V) (H : Hp) (k : Hp → Prop) : Prop := ∃ a C dx fs, x = .ref a ∧ H a = some (.ins C dx fs) ∧ Cls K C ∧ NoAttr K C f ∧ fs.length < 1000 ∧ k (upd H a (.ins C dx (putF f y fs)))
theorem i_meth (h : ta σ H fun x H1 => rMe C m x H1 (t σ H1 fun vs H2 => sp (x :: (vs ++ dvs)) H2 Q E)) : tMeth C m sp dvs E ta t σ H Q := h
theorem i_fld (h : ta σ H fun x H1 => rFl K f x H1 fun v => Q v H1) : tFld K ta f σ H Q := h
theorem i_sfld (h : tv σ H fun y H1 => ta σ H1 fun x H2 => rPf K f y x H2 fun H3 => D.nx σ H3) : sFld K ta tv f D σ H := h
def rMk (C : Addr) (sp : Sp) (dvs : List V) (E : XK) (vs : List V) (H1 : Hp) (Q : VK) : Prop := ∀ x dx, H1 x = none → H1 dx = none → dx ≠ x →
  sp (.ref x :: (vs ++ dvs)) (upd (upd H1 dx (.own x)) x (.ins C dx [])) (fun v H2 => v = .non ∧ Q (.ref x) H2) E
theorem i_make (h : t σ H fun vs H1 => rMk C sp dvs E vs H1 Q) : tMake C sp dvs E t σ H Q := h
theorem x_mk {vs : List V} (h : ∀ x dx H2, H x = none → Same H H2 → H2 x = some (.ins C dx []) → sp (.ref x :: (vs ++ dvs)) H2 (fun v H3 => v = .non ∧ Q (.ref x) H3) E) : rMk C sp dvs E vs H Q := by
  intro x dx n1 n2 ne
  refine h x dx _ n1 ?_ upd_same
  intro b o e
  rw [upd_ne (ne_of_none e n1), upd_ne (ne_of_none e n2)]
  exact e
theorem x_me {a dx : Addr} {fs : List (Str × V)} {k : Prop} (h : H a = some (.ins C dx fs)) (l : fs.lookup m = none) (q : k) : rMe C m (.ref a) H k := ⟨a, dx, fs, rfl, h, l, q⟩
theorem x_fl {a dx : Addr} {fs : List (Str × V)} {v : V} {R : V → Prop} (z : Kl K C [f]) (h : H a = some (.ins C dx fs)) (l : fs.lookup f = some v) (q : R v) : rFl K f (.ref a) H R := ⟨a, C, dx, fs, v, rfl, h, z.cl, z.no f (List.mem_singleton.mpr rfl), l, q⟩
theorem x_pf {a dx : Addr} {fs : List (Str × V)} {y : V} {k : Hp → Prop} (z : Kl K C [f]) (h : H a = some (.ins C dx fs)) (l : fs.length < 1000) (q : ∀ H2, But a H H2 → H2 a = some (.ins C dx (putF f y fs)) → k H2) : rPf K f y (.ref a) H k :=
  ⟨a, C, dx, fs, rfl, h, z.cl, z.no f (List.mem_singleton.mpr rfl), l, q _ But.upd upd_same⟩
theorem lk_yes {v : V} : [(f, v)].lookup f = some v := by simp [List.lookup]
theorem lk_no {v : V} (h : (m == f) = false) : [(f, v)].lookup m = none := by simp [List.lookup, h]
theorem put_one {v w : V} : putF f w [(f, v)] = [(f, w)] := by simp [putF]
theorem put_nil {w : V} : putF f w [] = [(f, w)] := rfl
end
/-! ### None or a list of ints -/
def OL (K : PySem.W.Frag) (H : Hp) (x : V) : Option (List Int) → Prop
  | none => x = .non
  | some ns => ∃ p, x = .ref p ∧ SqL K H p (ns.map V.int)
theorem OL.n {K : PySem.W.Frag} {H : Hp} : OL K H .non none := rfl
theorem OL.s {K : PySem.W.Frag} {H : Hp} {p : Addr} {ns : List Int} (h : SqL K H p (ns.map V.int)) : OL K H (.ref p) (some ns) := ⟨p, rfl, h⟩
def olD : Option (List Int) → PyData
  | none => .none
  | some ns => .list (ns.map PyData.int)
theorem olD_dp {K : PySem.W.Frag} {H : Hp} {x : V} : ∀ {o : Option (List Int)}, OL K H x o → Dp K H x (olD o)
  | none, h => by rw [show x = .non from h]; exact .non
  | some ns, h => by
    obtain ⟨p, rfl, hp⟩ := h
    exact .lst hp (dp_ints ns)
theorem olD_shaped : ∀ o : Option (List Int), SeqAt.shaped (olD o) = true
  | none => by simp [olD, SeqAt.shaped, PyData.canLay0, PyData.depth]
  | some ns => shaped_ints ns
theorem olD_eqv : ∀ a b : Option (List Int), PyData.eqv (olD a) (olD b) = decide (a = b)
  | none, none => by simp [olD, PyData.eqv]
  | none, some _ => by simp [olD, PyData.eqv]
  | some _, none => by simp [olD, PyData.eqv]
  | some ns, some ms => by simp only [olD, PyData.eqv, eqv_ints, Option.some.injEq]
def rEqOL (K : PySem.W.Frag) : R2 := fun x y H Q => ∃ a b, OL K H x a ∧ OL K H y b ∧ Q (.bl (decide (a = b))) H
def rNeOL (K : PySem.W.Frag) : R2 := fun x y H Q => ∃ a b, OL K H x a ∧ OL K H y b ∧ Q (.bl (!decide (a = b))) H
theorem op_eqOL {X : Cx} (hu : X.A.units + 64 < cLine) : OpR X (compareOp .Eq) (rEqOL X.K) := by
  intro pins s σ H x y v u Q I rx ry h
  obtain ⟨a, b, h1, h2, k⟩ := h
  refine op_eqD hu pins s σ H _ _ v u Q I rx ry ⟨_, _, olD_dp h1, olD_dp h2, olD_shaped a, olD_shaped b, ?_⟩
  rw [olD_eqv]
  exact k
theorem op_neOL {X : Cx} (hu : X.A.units + 64 < cLine) : OpR X (compareOp .NotEq) (rNeOL X.K) := by
  intro pins s σ H x y v u Q I rx ry h
  obtain ⟨a, b, h1, h2, k⟩ := h
  refine op_neD hu pins s σ H _ _ v u Q I rx ry ⟨_, _, olD_dp h1, olD_dp h2, olD_shaped a, olD_shaped b, ?_⟩
  rw [olD_eqv]
  exact k
section
variable {td ty tx : TE} {σ : L2.St} {H : Hp} {Q : VK}
def rG2 (x : V) (H1 : Hp) (ty tx : TE) (σ : L2.St) (Q : VK) : Prop := ∃ a, x = .ref a ∧ IsD H1 a ∧ ty σ H1 fun y H2 => tx σ H2 fun z H3 => ∃ o, DGet H3 a y o ∧ Q (o.getD z) H3
theorem i_dGet2 (h : td σ H fun x H1 => rG2 x H1 ty tx σ Q) : tDGet2 td ty tx σ H Q := h
theorem x_g2 {d : Addr} {kvs : List (Key × V)} (hd : H d = some (.dK kvs)) (h : ty σ H fun y H2 => tx σ H2 fun z H3 => ∃ o, DGet H3 d y o ∧ Q (o.getD z) H3) : rG2 (.ref d) H ty tx σ Q := ⟨d, rfl, .inl ⟨kvs, .inl hd⟩, h⟩
theorem x_gv {d : Addr} {kvs : List (Key × V)} {l : List Nat} {z : V} (hd : H d = some (.dK kvs)) (h : Q ((valV kvs (.inr (S l))).getD z) H) : ∃ o, DGet H d (.str (S l)) o ∧ Q (o.getD z) H := ⟨_, .inl ⟨kvs, .inr (S l), .inl hd, rfl, rfl⟩, h⟩
end
/-- all but some objects stay -/
def Bu (as : List Addr) (H H' : Hp) : Prop := ∀ b o, b ∉ as → H b = some o → H' b = some o
theorem Bu.refl (as : List Addr) (H : Hp) : Bu as H H := fun _ _ _ h => h
theorem Bu.trans {as : List Addr} {H H1 H2 : Hp} (a : Bu as H H1) (b : Bu as H1 H2) : Bu as H H2 := fun c o n h => b c o n (a c o n h)
theorem Bu.but {as : List Addr} {a : Addr} {H H' : Hp} (m : a ∈ as) (b : But a H H') : Bu as H H' := fun c o n h => b c o (fun z => n (z ▸ m)) h
theorem Bu.same {as : List Addr} {H H' : Hp} (s : Same H H') : Bu as H H' := fun c o _ h => s c o h
theorem Bu.more {as bs : List Addr} {H H' : Hp} (m : ∀ a ∈ as, a ∈ bs) (b : Bu as H H') : Bu bs H H' := fun c o n h => b c o (fun z => n (m c z)) h
/-- what is new may change -/
theorem Bu.new {as bs : List Addr} {H0 H H' : Hp} (s : Bu bs H0 H) (b : Bu as H H') (n : ∀ a ∈ as, a ∈ bs ∨ H0 a = none) : Bu bs H0 H' := fun c o nc h => b c o (fun z => by
  rcases n c z with k | k
  · exact nc k
  · rw [k] at h; cases h) (s c o nc h)
theorem Bu.to {as : List Addr} {H H' : Hp} (b : Bu as H H') (n : ∀ a ∈ as, H a = none) : Same H H' := fun c o h => b c o (fun z => by rw [n c z] at h; cases h) h
/-- a test that leaves the heap, told by P -/
theorem if_P {tt : TT} {A B : TS} {D : Ends} {σ : L2.St} {H : Hp} (P : Bool → Prop) (h : ∀ Q : Bool → Hp → Prop, (∀ b, P b → Q b H) → tt σ H Q) (k1 : P true → A D σ H) (k2 : P false → B D σ H) : tIfS tt A B D σ H := by
  refine h _ fun b hb => ?_
  cases b
  · exact iteF (k2 hb)
  · exact iteT (k1 hb)
/-- a test that is false at the end -/
theorem if_F {tt : TT} {A B : TS} {D : Ends} {σ : L2.St} {H : Hp} (P : Hp → Prop) (h : ∀ Q : Bool → Hp → Prop, (∀ H', P H' → Q false H') → tt σ H Q) (k : ∀ H', P H' → B D σ H') : tIfS tt A B D σ H := h _ fun H' hp => iteF (k H' hp)
end Lv

set_option Elab.async false
set_option linter.all false
set_option maxRecDepth 100000
set_option maxHeartbeats 3200000
namespace Lv
open PySem PySem.Spec PyProof.Rows L2 SX
/-! ### max(text) -/
def rMaxS : List V → Hp → VK → Prop := fun xs H Q => ∃ l : List Nat, xs = [.str (S l)] ∧ l ≠ [] ∧ ∀ c, c ∈ l → (∀ d ∈ l, d ≤ c) → Q (.str (S [c])) H
theorem call_maxS {X : Cx} (hc : X.calm = true) : CallR X (.builtin "max") rMaxS := by
  intro pins s σ H xs us Q I r h
  obtain ⟨l, rfl, hl, q⟩ := h
  obtain ⟨u, eu, rx⟩ := vals1 r
  subst eu
  obtain ⟨t, rfl⟩ := rx
  have hsz : (S l).cps.size = l.length := by simp
  have hat : ∀ i c : Nat, (S l).cps[i]? = some c ↔ l[i]? = some c := fun i c => by simp
  refine PySem.call_max_walkH (wpAny_pyIter_str fun o St W hst => ?_)
  refine ⟨_, _, _, _, _, _, _, { s.heap with objs := #[] }, fun i j => decide ((l.getD i 0 : Int) > (l.getD j 0 : Int)), rfl, (W X.A.in1 (show X.A.in1.handled = none from I.ok.hd hc)).toS, hst, ?_, ?_, ?_, ?_, ?_, ?_⟩
  · intro b hb
    rw [List.mem_singleton.mp hb, Heap.size_push]
    exact Nat.lt_succ_self _
  · rw [hsz]; exact List.length_pos_iff.mpr hl
  · intro b o e
    simp [Heap.get?] at e
  · intro b o e
    simp [Heap.get?] at e
  · rintro i j vi vj s' Q' E' _ ⟨c, u1, h1, rfl⟩ ⟨d, u2, h2, rfl⟩ hq
    show wpAny _ _ (compareOp .Gt _ _) _ _ _
    refine PySem.P.gt_str ?_
    rw [hat] at h1 h2
    have e : decide ((#[d] : Array Nat).toList < (#[c] : Array Nat).toList) = decide ((l.getD i 0 : Int) > (l.getD j 0 : Int)) := by
      rw [List.getD_eq_getElem?_getD, List.getD_eq_getElem?_getD, h1, h2, decide_eq_decide]
      simp [List.cons_lt_cons_iff]
    rw [e]
    exact hq
  · rintro v s' ⟨c, u1, h1, rfl⟩ hm
    rw [hat, hsz] at h1
    obtain ⟨b1, b2⟩ := argBest_gt (fun i => (l.getD i 0 : Int)) (l.length - 1)
    have hx := q c (List.mem_of_getElem? h1) fun d hd => by
      obtain ⟨j, hj⟩ := List.mem_iff_getElem?.mp hd
      have jl := (List.getElem?_eq_some_iff.mp hj).1
      have := b2 j (by omega)
      rw [List.getD_eq_getElem?_getD, hj, List.getD_eq_getElem?_getD, h1] at this
      simpa using this
    refine ⟨.str (S [c]), H, ?_, ⟨u1, rfl⟩, hx⟩
    rw [Moved.eq_with hm]
    refine I.kept fun b u e => hm.heap b u (fun z => ?_) (Heap.get?_push_of_some _ e)
    rw [List.mem_singleton.mp z] at e
    exact absurd (Heap.lt_size e) (Nat.lt_irrefl _)
end Lv

set_option Elab.async false
set_option linter.all false
set_option maxRecDepth 100000
set_option maxHeartbeats 4000000
namespace Lv
open PySem PySem.Spec PyProof.Rows L2 SX
/-! xs[:c] = ys -/
section
variable {prog : Program} {w : World} {A : Around} {E : Value → Shared → Prop} {s : Shared}
theorem bnd0 {c n : Nat} (hc : c ≤ n) : sliceBounds none (some (c : Int)) none n = ((0 : Int), (c : Int), 1) := by
  have h2 : ¬ ((c : Int) < 0) := by omega
  simp only [sliceBounds, Option.getD_none, h2, if_false, show (1 : Int) > 0 by decide, if_true]
  congr 2
  omega
theorem set_ahead {l b sl : Addr} {xs ys : Array Value} {n n2 : Nat} {vl vu : Value} {c : Nat} {Q : Unit → Shared → Prop}
    (hl : s.heap.get? l = some { cls := .type "list", data := .seq xs n }) (hb : s.heap.get? b = some { cls := .type "list", data := .seq ys n2 }) (ne : l ≠ b)
    (sl1 : s.heap.IsSliceOf sl vl vu .none) (p1 : IsPart vl none) (p2 : IsPart vu (some (c : Int))) (cle : c ≤ xs.size) (sz : xs.size + ys.size ≤ sizeLine)
    (k : Q () { s with heap := s.heap.update l (Obj.mapSeq fun zs => zs.extract 0 0 ++ ys ++ zs.extract c zs.size) }) : wpAny (model prog w) A (setItem (.ref l) (.ref sl) (.ref b)) Q E s := by
  have il : s.heap.IsList l xs := PySem.IsL.isList hl
  have ib : s.heap.IsList b ys := PySem.IsL.isList hb
  obtain ⟨so, so1, so2, so3⟩ := id sl1
  have tS : s.TypeIs (.ref sl) "slice" := ⟨so, so1, so2⟩
  have st0 : ¬ ((rawPart none == rawInt 0) = true) := Bool.false_ne_true
  have dif : Builtin.List.listSameRef (.ref l) (.ref b) = false := by
    show (l == b) = false
    exact beq_eq_false_iff_ne.mpr ne
  have mx : (max (0 : Int) (c : Int)).toNat = c := by omega
  have szz : ((fun zs : Array Value => zs.extract 0 0 ++ ys ++ zs.extract c zs.size) xs).size ≤ sizeLine + 1 := by
    simp only [Array.size_append, Array.size_extract]; omega
  unfold setItem
  try with_reducible refine wpAny_holding ?_
  first | refine wpAny_bind (wpAny_pure ?_) | skip
  refine wpAny_bind (wpAny_sequenceKey il.typeIs (by decide) ?_)
  refine wpAny_bind (wpAny_callSpecial?_slot (name := Str.ofString "__setitem__") il.typeIs slot_list_setitem (wpAny_call_entry slot_list_setitem il.typeIs entry_list_setitem ?_ (args_list_setitem _ _ _)))
  show wpAny _ _ (Builtin.List.listSubscript? (.ref sl) >>= _) _ _ s
  refine wpAny_bind ?_
  unfold Builtin.List.listSubscript?
  refine wpAny_bind (wpAny_specialOf tS slice_no_index ?_)
  simp only [Option.isNone_none, if_true]
  refine wpAny_pure ?_
  show wpAny _ _ (typeOf (.ref sl) >>= _) _ _ s
  refine wpAny_bind (wpAny_typeOf tS ?_)
  first | rw [if_neg (by decide)] | refine PySem.W.KFB.if_not (by decide) ?_
  rw [listSliceParts_eq]
  refine wpAny_bind (wpAny_bind (wpAny_field so1 so3 (x := .none) rfl (wpAny_bind (wpAny_listPart .none ?_))))
  rw [if_neg st0]
  refine wpAny_bind (wpAny_field so1 so3 (x := vl) rfl (wpAny_bind (wpAny_listPart p1 ?_)))
  refine wpAny_bind (wpAny_field so1 so3 (x := vu) rfl (wpAny_bind (wpAny_listPart p2 (wpAny_pure ?_))))
  first | simp only [dif, Bool.false_eq_true, if_false] | refine PySem.W.KFB.if_not dif ?_ | (dsimp only; rw [if_neg (by rw [dif]; exact Bool.false_ne_true)])
  refine wpAny_bind (m := Builtin.List.listAllItems (.ref b) "must assign iterable to extended slice") ?_
  unfold Builtin.List.listAllItems
  refine wpAny_bind (wpAny_typeOf ib.typeIs ?_)
  first | refine PySem.W.KFB.if_so (by decide) ?_ | rw [if_pos (by decide)] | simp only [beq_self_eq_true, Bool.true_or, if_true]
  unfold Builtin.List.listItems
  refine wpAny_bind (wpAny_seqItems hb rfl (wpAny_pure ?_))
  refine wpAny_bind (wpAny_bind (wpAny_seqItems hl rfl (wpAny_pure ?_)))
  refine wpAny_bind (wpAny_of_eq ((sliceIndices_raw none (some (c : Int)) none xs.size (by simp)).trans (congrArg (pure : Int × Int × Int → Sem (Int × Int × Int)) (bnd0 cle))) ?_)
  show wpAny _ _ (if ((1 : Int) == 1) = true then _ else _) _ _ s
  rw [if_pos (by decide)]
  refine wpAny_bind (wpAny_rule ?_)
  first | simp only [notLongL sz, Bool.false_eq_true, if_false] | refine PySem.W.KFB.if_not (notLongL sz) ?_
  first | refine wpAny_bind (wpAny_pure ?_) | skip
  show wpAny _ _ (updateSeq l (fun zs => zs.extract 0 ((0 : Int)).toNat ++ ys ++ zs.extract (max (0 : Int) (c : Int)).toNat zs.size) >>= _) _ _ s
  rw [mx]
  refine wpAny_bind (wpAny_updateSeq (hz := Nat.le_trans (Nat.le_add_right _ _) sz) (_hz' := szz) hl rfl ?_)
  refine wpAny_bind (wpAny_letGo ?_)
  first | exact wpAny_bind (wpAny_pure (wpAny_pure ⟨.none, rfl, wpAny_pure k⟩)) | exact wpAny_pure ⟨.none, rfl, wpAny_pure k⟩
end
/-- xs[:c] = ys -/
def gAhead (to th : TE) : TG := fun v σ H Q => to σ H fun o H1 => th σ H1 fun i H2 => ∃ (l b : Addr) (xs ys : List V) (c : Nat), o = .ref l ∧ i = .int (c : Int) ∧ v = .ref b ∧ H2 l = some (.lst xs) ∧ H2 b = some (.lst ys) ∧ l ≠ b ∧ c ≤ xs.length ∧ xs.length + ys.length ≤ sizeLine ∧ Q σ (upd H2 l (.lst (ys ++ xs.drop c)))
theorem pg_ahead {X : Cx} {o e : Expr} {to th : TE} {p2 pos : Pos} (ho : PE X o to) (he : PE X e th)
    (ha : ∀ v, assign (.Subscript o (.Slice none (some e) none p2) pos) X.env v = (do
      let ov ← holding [v] (eval o X.env)
      let iv ← holding [v, ov] (eval (.Slice none (some e) none p2) X.env)
      standAt pos
      holding [v, ov, iv] (setItem ov iv v)
      release [iv, v, ov] []) := by intro _; rfl) : PG X (.Subscript o (.Slice none (some e) none p2) pos) (gAhead to th) := by
  refine ⟨fun pins s σ H v u Q I r h => ?_⟩
  rw [ha]
  refine wpAny_bind (wpAny_holding (thn (ho.run pins s σ H _ I h) fun ov s1 ⟨x, H1, I1, r1, q1⟩ => wpAny_bind (wpAny_holding ?_)))
  refine wpAny_Slice (thn (po_none.run pins s1 σ H1 (fun o H2 => o = none ∧ H2 = H1) I1 ⟨rfl, rfl⟩) fun vl s2 ⟨lo, H2, I2, pl, el, e2⟩ => ?_)
  subst el e2
  refine thn (he.run pins s2 σ H2 _ I2 q1) fun vu s3 ⟨y, H3, I3, r3, q3⟩ => ?_
  obtain ⟨l, b, xs, ys, c, rfl, rfl, rfl, hl, hb, ne, cle, sz, q⟩ := q3
  obtain ⟨t, rfl⟩ := r3
  rw [evalPart_none]
  refine wpAny_pure ?_
  have I4 : Inv X pins σ H3 { s3 with heap := s3.heap.push { cls := .type "slice", data := .fields #[vl, .int c t, .none] } } := I3.kept (t' := s3.toks) fun b ob q => Heap.get?_push_of_some _ q
  cases r1
  cases r
  obtain ⟨z, its, n, rv, hlen, e⟩ := I4.lstM hl
  obtain ⟨z2, its2, n2, rv2, hlen2, e2⟩ := I4.lstM hb
  refine wpAny_bind (wpAny_standAt (wpAny_bind (wpAny_holding ?_)))
  refine set_ahead (c := c) e e2 ne (Heap.IsSliceOf.new ..) pl (.int _ _) (by rw [List.size_toArray]; omega) (by rw [List.size_toArray, List.size_toArray]; omega) ?_
  refine wpAny_release ⟨σ, _, ?_, q⟩
  refine I4.lset (its' := its2 ++ its.drop c) (t' := s3.toks) hl e ?_ (Vals.append rv2 (rv.drop _)) ?_
  · have := splice_eq its its2 0 c
    rw [List.take_zero, List.nil_append] at this
    exact this
  · rw [List.length_append, List.length_drop]; omega
theorem i_gAhead {to th : TE} {v : V} {σ : L2.St} {H : Hp} {Q : L2.St → Hp → Prop} (h : to σ H fun o H1 => th σ H1 fun i H2 => ∃ (l b : Addr) (xs ys : List V) (c : Nat), o = .ref l ∧ i = .int (c : Int) ∧ v = .ref b ∧ H2 l = some (.lst xs) ∧ H2 b = some (.lst ys) ∧ l ≠ b ∧ c ≤ xs.length ∧ xs.length + ys.length ≤ sizeLine ∧ Q σ (upd H2 l (.lst (ys ++ xs.drop c)))) : gAhead to th v σ H Q := h
end Lv

set_option Elab.async false
set_option linter.all false
set_option maxRecDepth 100000
set_option maxHeartbeats 4000000
namespace Lv
open PySem PySem.Spec PyProof.Rows L2 SX
/-! zip(text, text) -/
abbrev YZS (l m : List Nat) : Nat → List V → Prop := fun i xs => ∃ c d, l[i]? = some c ∧ m[i]? = some d ∧ xs = [.str (S [c]), .str (S [d])]
def iZipS (ta : TA) : TI := fun σ H R => ta σ H fun vs H1 => ∃ l m : List Nat, vs = [.str (S l), .str (S m)] ∧ R (ItT (min l.length m.length) (YZS l m)) H1
theorem fresh_of {X : Cx} {pins : List (Addr × Obj)} {σ : L2.St} {H : Hp} {s : Shared} {b : Addr} (I : Inv X pins σ H s) (k : Nat) (e : b = s.heap.objs.size + k) : FpOk X pins H b := by
  have h : s.heap.objs.size ≤ b := by rw [e]; exact Nat.le_add_right _ _
  exact I.fpOk h (I.hok.fresh h)
theorem pi_zipS {X : Cx} {e e2 : Expr} {ta : TA} {p pos tpos : Pos} {elts : List Expr} {kk : Nat} (hg : Gl X "zip") (hm : X.mg "zip" = none) (ha : PA X [e, e2] ta)
    (hs : starEach [e, e2] X.env = (false, eval e X.env) :: starEach [e2] X.env := by rfl) (hpl : (backTo pos (starEach [e2] X.env)).any (·.1) = false := by rfl) :
    PI X (.Tuple elts kk tpos) (.Call (.Name "zip" p) [e, e2] [] pos) (iZipS ta) := by
  refine ⟨fun pins s σ H R I h => ?_⟩
  refine Call_ (ld_blt I hg hm PyProof.Rows.boot_zip (PyProof.Rows.callWith_type1 (thn (ha.run pos pins s σ H _ I h) fun us s1 ⟨vs, H1, I1, r1, q1⟩ => ?_) hs hpl))
  obtain ⟨l, m, rfl, q⟩ := q1
  cases r1 with
  | cons r rr =>
    cases rr with
    | cons r' rr =>
      cases rr
      obtain ⟨t, rfl⟩ := r
      obtain ⟨t', rfl⟩ := r'
      refine zip_begins2 (begins_text (S l) t) (begins_text (S m) t') trivial trivial fun h' hz hTI hTO h1 h2 hsz hk => wpAny_pyIter_zip hz ?_
      have I2 : Inv X pins σ H1 { s1 with heap := h' } := I1.kept (t' := s1.toks) hk
      have T := turn_walksT (P := X.prog) (w := X.w) (K := X.K) (elts := elts) (kk := kk) (tpos := tpos) (n := min (S l).cps.size (S m).cps.size) (Y := YZS l m)
        (fun A hA => WalksT.zipD2 (zip_sep2 (N := s1.heap.objs.size) (fp1 := []) (fp2 := []) (by simp) (by simp)) (Draws.text (A := A.in1) hA s1.heap.objs.size (S l) t) (Draws.text (A := A.in1) hA (s1.heap.objs.size + 1) (S m) t')) List.mem_cons_self ?_ ?_ ?_
      · have e1 : (S l).cps.size = l.length := by simp
        have e2 : (S m).cps.size = m.length := by simp
        rw [e1, e2] at T
        refine ⟨s1.heap.objs.size + 4, _, _, _, H1, rfl, I2, T, ⟨⟨hz, hTI, ⟨_, _, hTO⟩, ⟨_, h1, rfl, rfl⟩, ⟨_, h2, rfl, rfl⟩⟩, Nat.zero_le _⟩, fun b hb => ?_, q⟩
        have e' : b = s1.heap.objs.size + 4 ∨ b = s1.heap.objs.size + 2 ∨ b = s1.heap.objs.size + 3 ∨ b = s1.heap.objs.size ∨ b = s1.heap.objs.size + 1 := by simpa using hb
        rcases e' with z | z | z | z | z
        · exact fresh_of I1 4 z
        · exact fresh_of I1 2 z
        · exact fresh_of I1 3 z
        · exact fresh_of I1 0 z
        · exact fresh_of I1 1 z
      · intro i h st b hb
        obtain ⟨a1, a2, ⟨x, y, a3⟩, ⟨o1, c1, _, d1⟩, ⟨o2, c2, _, d2⟩⟩ := st
        have e' : b = s1.heap.objs.size + 4 ∨ b = s1.heap.objs.size + 2 ∨ b = s1.heap.objs.size + 3 ∨ b = s1.heap.objs.size ∨ b = s1.heap.objs.size + 1 := by simpa using hb
        rcases e' with z | z | z | z | z
        · rw [z]; exact ⟨_, a1, fun v q => nomatch q⟩
        · rw [z]; exact ⟨_, a2, fun v q => nomatch q⟩
        · rw [z]; exact ⟨_, a3, fun v q => nomatch q⟩
        · rw [z]; exact ⟨o1, c1, fun v q => by rw [d1] at q; cases q⟩
        · rw [z]; exact ⟨o2, c2, fun v q => by rw [d2] at q; cases q⟩
      · rintro i vals hi ⟨x1, x2, ⟨c, u, hc, rfl⟩, ⟨d, u2, hd, rfl⟩, rfl⟩
        exact ⟨[.str (S [c]), .str (S [d])], .cons ⟨u, rfl⟩ (.cons ⟨u2, rfl⟩ .nil), by show 2 ≤ sizeLine; decide, c, d, by simpa using hc, by simpa using hd, rfl⟩
      · intro A i s Q E st hq
        exact wpAny_pyIter_zip st.1 hq
theorem i_zipS {ta : TA} {σ : L2.St} {H : Hp} {R : It → Hp → Prop} (h : ta σ H fun vs H1 => ∃ l m : List Nat, vs = [.str (S l), .str (S m)] ∧ R (ItT (min l.length m.length) (YZS l m)) H1) : iZipS ta σ H R := h
theorem x_zipS {l m : List Nat} {H : Hp} {R : It → Hp → Prop} (h : R (ItT (min l.length m.length) (YZS l m)) H) : ∃ l' m' : List Nat, [V.str (S l), V.str (S m)] = [.str (S l'), .str (S m')] ∧ R (ItT (min l'.length m'.length) (YZS l' m')) H := ⟨l, m, rfl, h⟩
/-! zip(text, list, list) -/
/-- turn i: a new tuple of a sign and the items of two lists -/
def It3 (K : PySem.W.Frag) (l : List Nat) (a b : Addr) (xs ys : List V) : It :=
  ⟨fun i H => i < min (min l.length xs.length) ys.length ∧ SqL K H a xs ∧ SqL K H b ys,
    fun i H v H' => ∃ T c x y, v = .ref T ∧ H T = none ∧ H' = upd H T (.tup [.str (S [c]), x, y]) ∧ l[i]? = some c ∧ xs[i]? = some x ∧ ys[i]? = some y,
    fun i H => min (min l.length xs.length) ys.length ≤ i ∧ SqL K H a xs ∧ SqL K H b ys⟩
theorem turn_zip3 {P : Program} {w : World} {K : PySem.W.Frag} {elts : List Expr} {kk : Nat} {tpos : Pos} {l : List Nat} {t : Tok} {a b : Addr} {xs ys : List V} {N : Nat} (ha : a < N) (hb : b < N) :
    Turn P w K (.Tuple elts kk tpos) (It3 K l a b xs ys) [N + 5, N + 3, N + 4, N, N + 1, N + 2] (N + 5) (fun i h => i ≤ min (min l.length xs.length) ys.length ∧ IsZip h (N + 5) (N + 3) (N + 4) .none ∧ IsTupOf3 h (N + 3) (.ref N) (.ref (N + 1)) (.ref (N + 2)) ∧
      (∃ a1 a2 a3, IsTupOf3 h (N + 4) a1 a2 a3) ∧ h.IsStrIter N (strIterType (S l)) (S l) t i ∧ h.IsListIter (N + 1) a i ∧ h.IsListIter (N + 2) b i) where
  mem := by simp
  obj := fun i h st c hc => by
    obtain ⟨_, hz, hTI, ⟨_, _, _, hTO⟩, ⟨o1, e1, _, d1⟩, ⟨o2, e2, _, d2⟩, ⟨o3, e3, _, d3⟩⟩ := st
    have e' : c = N + 5 ∨ c = N + 3 ∨ c = N + 4 ∨ c = N ∨ c = N + 1 ∨ c = N + 2 := by simpa using hc
    rcases e' with q | q | q | q | q | q
    · rw [q]; exact ⟨_, hz, fun v q => nomatch q⟩
    · rw [q]; exact ⟨_, hTI, fun v q => nomatch q⟩
    · rw [q]; exact ⟨_, hTO, fun v q => nomatch q⟩
    · rw [q]; exact ⟨o1, e1, fun v q => by rw [d1] at q; cases q⟩
    · rw [q]; exact ⟨o2, e2, fun v q => by rw [d2] at q; cases q⟩
    · rw [q]; exact ⟨o3, e3, fun v q => by rw [d3] at q; cases q⟩
  keep := fun i h h' st k => by
    obtain ⟨h0, hz, hTI, ⟨x, y, u, hTO⟩, ⟨o1, g1, g2⟩, h2, h3⟩ := st
    exact ⟨h0, k _ (by simp) _ hz, k _ (by simp) _ hTI, ⟨x, y, u, k _ (by simp) _ hTO⟩, ⟨o1, k _ (by simp) _ g1, g2⟩, h2.at fun o q => k _ (by simp) o q, h3.at fun o q => k _ (by simp) o q⟩
  item := by
    intro X hP hw hK hc i pins s σ H E I hf st hg
    subst hP hw hK
    obtain ⟨h0, hz, hTI, hTO, h1, h2, h3⟩ := st
    obtain ⟨hi, hqx, hqy⟩ := hg
    obtain ⟨its, rv, p, _⟩ := I.list hqx
    obtain ⟨its2, rv2, p2, _⟩ := I.list hqy
    have l1 := rv.length
    have l2 := rv2.length
    have e0 : (S l).cps.size = l.length := by simp
    have hh := I.ok.hd hc
    have WA := WalksT.zipD3 (prog := X.prog) (w := X.w) (A := X.A) (zip_sep3 (N := N) (fp1 := []) (fp2 := [a]) (fp3 := [b]) (by simp) (by simpa using ha) (by simpa using hb)) (Draws.text (A := X.A.in1) hh N (S l) t) (Draws.list (A := X.A.in1) hh (N + 1) a (Nat.ne_of_lt (Nat.lt_succ_of_lt ha)) its.toArray) (Draws.list (A := X.A.in1) hh (N + 2) b (Nat.ne_of_lt (Nat.lt_of_lt_of_le hb (Nat.le_add_right _ _))) its2.toArray)
    refine WA.item i s _ _ (by rw [e0, List.size_toArray, List.size_toArray, ← l1, ← l2]; exact hi) ⟨hz, hTI, hTO, h1, ⟨h2, p.isList⟩, ⟨h3, p2.isList⟩⟩ fun T vals h' tk hp hT hTup hm hk => ?_
    refine ⟨_, rfl, WA.go elts kk tpos i T { s with heap := h', toks := tk } _ _ hm fun h4 st4 hk4 => ?_⟩
    replace hk4 : ∀ c o, c ∉ [N + 5, N + 4, N, N + 1, N + 2] → h'.get? c = some o → h4.get? c = some o := hk4
    obtain ⟨x1, x2, x3, ⟨c, u, hcx, rfl⟩, e2, e3, rfl⟩ := hp
    obtain ⟨y2, f2, r2⟩ : ∃ y, xs[i]? = some y ∧ RelV y x2 := by
      have hlt : i < xs.length := by omega
      obtain ⟨z, g1, g2⟩ := rv.get (List.getElem?_eq_getElem hlt)
      rw [List.getElem?_toArray, g1] at e2
      cases e2
      exact ⟨_, List.getElem?_eq_getElem hlt, g2⟩
    obtain ⟨y3, f3, r3⟩ : ∃ y, ys[i]? = some y ∧ RelV y x3 := by
      have hlt : i < ys.length := by omega
      obtain ⟨z, g1, g2⟩ := rv2.get (List.getElem?_eq_getElem hlt)
      rw [List.getElem?_toArray, g1] at e3
      cases e3
      exact ⟨_, List.getElem?_eq_getElem hlt, g2⟩
    have hTup2 : h4.IsTuple T #[.str ⟨#[c]⟩ u, x2, x3] := hTup.at fun o q => hk4 T o (WA.apart i T h' hm) q
    have new : ObjOk X.prog X.w (upd H T (.tup [.str (S [c]), y2, y3])) h4 T (.tup [.str (S [c]), y2, y3]) := ⟨by show 3 ≤ sizeLine; decide, [.str ⟨#[c]⟩ u, x2, x3], .cons ⟨u, rfl⟩ (.cons r2 (.cons r3 .nil)), hTup2⟩
    have sub : ∀ d, d ∈ [N + 5, N + 4, N, N + 1, N + 2] → d ∈ [N + 5, N + 3, N + 4, N, N + 1, N + 2] := fun d hd => by simp at hd ⊢; omega
    have I2 : Inv X pins σ (upd H T (.tup [.str (S [c]), y2, y3])) { s with heap := h4, toks := tk } :=
      I.turnedNew (ch := [N + 5, N + 3, N + 4, N, N + 1, N + 2]) (fun d ob hd q => hk4 d ob (fun z => hd (sub d z)) (hk d ob (fun z => hd (sub d z)) q)) hf hT new
    obtain ⟨s1, s2, s3, s4, ⟨s5, _⟩, ⟨s6, _⟩⟩ := st4
    refine ⟨.ref T, _, I2, rfl, ⟨T, c, y2, y3, rfl, I.hok.fresh hT, rfl, by simpa using hcx, f2, f3⟩, ⟨hi, s1, s2, s3, s4, s5, s6⟩, fun d hd => ?_⟩
    have lt : d < s.heap.objs.size := by
      obtain ⟨_, _, _, hTO⟩ := hTO
      obtain ⟨o1, g1, _⟩ := h1
      obtain ⟨o2, g2, _⟩ := h2
      obtain ⟨o3, g3, _⟩ := h3
      have e' : d = N + 5 ∨ d = N + 3 ∨ d = N + 4 ∨ d = N ∨ d = N + 1 ∨ d = N + 2 := by simpa using hd
      rcases e' with q | q | q | q | q | q
      · rw [q]; exact Heap.lt_size hz
      · rw [q]; exact Heap.lt_size hTI
      · rw [q]; exact Heap.lt_size hTO
      · rw [q]; exact Heap.lt_size g1
      · rw [q]; exact Heap.lt_size g2
      · rw [q]; exact Heap.lt_size g3
    rw [upd_ne (Nat.ne_of_lt (Nat.lt_of_lt_of_le lt hT))]
    exact (hf d hd).1
  done := by
    intro X hP hw hK hc i pins s σ H E I hf st hg
    subst hP hw hK
    obtain ⟨h0, hz, hTI, hTO, h1, h2, h3⟩ := st
    obtain ⟨hi, hqx, hqy⟩ := hg
    obtain ⟨its, rv, p, _⟩ := I.list hqx
    obtain ⟨its2, rv2, p2, _⟩ := I.list hqy
    have l1 := rv.length
    have l2 := rv2.length
    have e0 : (S l).cps.size = l.length := by simp
    have hh := I.ok.hd hc
    have WA := WalksT.zipD3 (prog := X.prog) (w := X.w) (A := X.A) (zip_sep3 (N := N) (fp1 := []) (fp2 := [a]) (fp3 := [b]) (by simp) (by simpa using ha) (by simpa using hb)) (Draws.text (A := X.A.in1) hh N (S l) t) (Draws.list (A := X.A.in1) hh (N + 1) a (Nat.ne_of_lt (Nat.lt_succ_of_lt ha)) its.toArray) (Draws.list (A := X.A.in1) hh (N + 2) b (Nat.ne_of_lt (Nat.lt_of_lt_of_le hb (Nat.le_add_right _ _))) its2.toArray)
    have hin : i = min (min (S l).cps.size its.toArray.size) its2.toArray.size := by rw [e0, List.size_toArray, List.size_toArray, ← l1, ← l2]; omega
    rw [hin] at h1 h2 h3
    refine WA.done s _ _ ⟨hz, hTI, hTO, h1, ⟨h2, p.isList⟩, ⟨h3, p2.isList⟩⟩ fun h' tk hk => ⟨rfl, ?_⟩
    have sub : ∀ d, d ∈ [N + 5, N + 4, N, N + 1, N + 2] → d ∈ [N + 5, N + 3, N + 4, N, N + 1, N + 2] := fun d hd => by simp at hd ⊢; omega
    exact I.turnedL (ch := [N + 5, N + 3, N + 4, N, N + 1, N + 2]) (fun c o hb q => hk c o (fun z => hb (sub c z)) q) hf
  self := fun A i s Q E st h => wpAny_pyIter_zip st.2.1 h
def iZip3 (K : PySem.W.Frag) (ta : TA) : TI := fun σ H R => ta σ H fun vs H1 => ∃ (l : List Nat) (a b : Addr) (xs ys : List V), vs = [.str (S l), .ref a, .ref b] ∧ SqL K H1 a xs ∧ SqL K H1 b ys ∧ R (It3 K l a b xs ys) H1
theorem pi_zip3 {X : Cx} {e e2 e3 : Expr} {ta : TA} {p pos tpos : Pos} {elts : List Expr} {kk : Nat} (hg : Gl X "zip") (hm : X.mg "zip" = none) (ha : PA X [e, e2, e3] ta)
    (hs : starEach [e, e2, e3] X.env = (false, eval e X.env) :: starEach [e2, e3] X.env := by rfl) (hpl : (backTo pos (starEach [e2, e3] X.env)).any (·.1) = false := by rfl) :
    PI X (.Tuple elts kk tpos) (.Call (.Name "zip" p) [e, e2, e3] [] pos) (iZip3 X.K ta) := by
  refine ⟨fun pins s σ H R I h => ?_⟩
  refine Call_ (ld_blt I hg hm PyProof.Rows.boot_zip (PyProof.Rows.callWith_type1 (thn (ha.run pos pins s σ H _ I h) fun us s1 ⟨vs, H1, I1, r1, q1⟩ => ?_) hs hpl))
  obtain ⟨l, a, b, xs, ys, rfl, hqx, hqy, q⟩ := q1
  cases r1 with
  | cons r rr =>
    cases rr with
    | cons r' rr =>
      cases rr with
      | cons r'' rr =>
        cases rr
        obtain ⟨t, rfl⟩ := r
        cases r'
        cases r''
        obtain ⟨its, rv, p1, _⟩ := I1.list hqx
        obtain ⟨its2, rv2, p2, _⟩ := I1.list hqy
        refine zip_begins3 (begins_text (S l) t) (begins_list a its.toArray) (begins_list b its2.toArray) trivial p1.isList p2.isList fun h' hz hTI hTO h1 h2 h3 hsz hk => wpAny_pyIter_zip hz ?_
        have I2 : Inv X pins σ H1 { s1 with heap := h' } := I1.kept (t' := s1.toks) hk
        refine ⟨s1.heap.objs.size + 5, _, _, _, H1, rfl, I2, turn_zip3 (t := t) p1.lt p2.lt, ⟨Nat.zero_le _, hz, hTI, ⟨_, _, _, hTO⟩, ⟨_, h1, rfl, rfl⟩, ⟨_, h2, rfl, rfl⟩, ⟨_, h3, rfl, rfl⟩⟩, fun b hb => ?_, q⟩
        have e' : b = s1.heap.objs.size + 5 ∨ b = s1.heap.objs.size + 3 ∨ b = s1.heap.objs.size + 4 ∨ b = s1.heap.objs.size ∨ b = s1.heap.objs.size + 1 ∨ b = s1.heap.objs.size + 2 := by simpa using hb
        rcases e' with z | z | z | z | z | z
        · exact fresh_of I1 5 z
        · exact fresh_of I1 3 z
        · exact fresh_of I1 4 z
        · exact fresh_of I1 0 z
        · exact fresh_of I1 1 z
        · exact fresh_of I1 2 z
theorem walk_3 {K : PySem.W.Frag} {l : List Nat} {a b : Addr} {xs ys : List V} : Walk (It3 K l a b xs ys) (min (min l.length xs.length) ys.length) (fun H => SqL K H a xs ∧ SqL K H b ys) (YT fun i zs => ∃ c x y, l[i]? = some c ∧ xs[i]? = some x ∧ ys[i]? = some y ∧ zs = [.str (S [c]), x, y]) :=
  ⟨fun _ _ hi g => ⟨hi, g⟩, fun _ g => ⟨Nat.le_refl _, g⟩, fun _ _ _ _ _ _ ⟨T, c, x, y, h1, h2, h3, h4, h5, h6⟩ => ⟨T, _, h1, h2, h3, c, x, y, h4, h5, h6, rfl⟩⟩
theorem f_3 {K : PySem.W.Frag} {l : List Nat} {a b : Addr} {xs ys : List V} {g : TG} {tb : TS} {D : Ends} {σ : L2.St} {H : Hp} (h : ForG (fun H => SqL K H a xs ∧ SqL K H b ys) (min (min l.length xs.length) ys.length) (YT fun i zs => ∃ c x y, l[i]? = some c ∧ xs[i]? = some x ∧ ys[i]? = some y ∧ zs = [.str (S [c]), x, y]) g tb D σ H) : ForJ (It3 K l a b xs ys) g tb D σ H := forG_ok walk_3 h
theorem i_zip3 {K : PySem.W.Frag} {ta : TA} {σ : L2.St} {H : Hp} {R : It → Hp → Prop} (h : ta σ H fun vs H1 => ∃ (l : List Nat) (a b : Addr) (xs ys : List V), vs = [.str (S l), .ref a, .ref b] ∧ SqL K H1 a xs ∧ SqL K H1 b ys ∧ R (It3 K l a b xs ys) H1) : iZip3 K ta σ H R := h
end Lv

set_option Elab.async false
set_option linter.all false
set_option maxRecDepth 100000
set_option maxHeartbeats 4000000
namespace Lv
open PySem PySem.Spec PyProof.Rows L2 SX
abbrev rLenD : List V → Hp → VK → Prop := fun xs H Q => ∃ a kvs, xs = [V.ref a] ∧ H a = some (.dK kvs) ∧ Q (.int kvs.length) H
theorem i_lenD {a : Addr} {kvs : List (Key × V)} {H : Hp} {Q : VK} (h : H a = some (.dK kvs)) (q : Q (.int (kvs.length : Nat)) H) : rLenD [.ref a] H Q := ⟨a, kvs, rfl, h, q⟩
theorem v_extend {l b : Addr} {xs zs : List V} {H : Hp} {Q : VK} (hl : H l = some (.lst xs)) (hb : H b = some (.lst zs)) (hz : xs.length + zs.length ≤ sizeLine) (h : ∀ H2, But l H H2 → H2 l = some (.lst (xs ++ zs)) → Q .non H2) : rExtend (.ref l) [.ref b] H Q := ⟨l, b, xs, zs, rfl, rfl, hl, hb, hz, h _ But.of upd_same⟩
end Lv

set_option Elab.async false
set_option linter.all false
set_option maxRecDepth 100000
set_option maxHeartbeats 4000000
namespace Lv
open PySem PySem.Spec PyProof.Rows L2 SX
/-! a thing locked from here on -/
def tLk (te : TE) : TE := fun σ H Q => te σ H fun x H1 => ∃ d u, x = .ref d ∧ H1 d = some u ∧ Mut (some u) ∧ ∀ o, Q (.ref d) (upd H1 d (.frz o u))
theorem pe_lk {X : Cx} {e : Expr} {te : TE} (h : PE X e te) : PE X e (tLk te) := by
  refine ⟨fun pins s σ H Q I hw => ?_⟩
  refine thn (h.run pins s σ H _ I hw) fun v s1 ⟨x, H1, I1, r, d, u, ex, hd, mu, q⟩ => ?_
  subst ex
  obtain ⟨o, I2⟩ := I1.lock hd mu
  exact ⟨.ref d, _, I2, r, q o⟩
theorem i_lk {te : TE} {σ : L2.St} {H : Hp} {Q : VK} (h : te σ H fun x H1 => ∃ d u, x = .ref d ∧ H1 d = some u ∧ Mut (some u) ∧ ∀ o, Q (.ref d) (upd H1 d (.frz o u))) : tLk te σ H Q := h
/-! for k, v in d.items() of a dict by tuples -/
def Itit (d : Addr) (o : Obj) (kvs : List (List Key × V)) : It :=
  ⟨fun i H => H d = some (.frz o (.dT kvs)) ∧ i < kvs.length, fun i H x H' => ∃ T k v q, kvs[i]? = some (k, v) ∧ x = .ref T ∧ H q = some (.tup (k.map kV)) ∧ H T = none ∧ H' = upd H T (.tup [.ref q, v]), fun i H => H d = some (.frz o (.dT kvs)) ∧ kvs.length ≤ i⟩
theorem frzT2 {X : Cx} {pins : List (Addr × Obj)} {σ : L2.St} {H : Hp} {s : Shared} {d : Addr} {o : Obj} {kvs : List (List Key × V)} (I : Inv X pins σ H s) (h : H d = some (.frz o (.dT kvs))) :
    (d == sysModules) = false ∧ s.heap.get? d = some o ∧ o.ExactDict ∧ ∃ (es : Array DictEntry) (ep : Nat), o.data = .dict es ep ∧ es.size = kvs.length ∧
      ∀ (i : Nat) (k : List Key) (v : V), kvs[i]? = some (k, v) → ∃ (en : DictEntry) (q : Addr), es[i]? = some en ∧ en.key = .ref q ∧ RelV v en.val ∧ H q = some (.tup (k.map kV)) := by
  obtain ⟨hd, z, hs, xs, pr, o', es, ep, ho, hx, hdt, he, _⟩ := I.hok d _ h
  rw [hd] at ho
  cases ho
  refine ⟨hs, hd, hx, es, ep, hdt, ?_, fun i k v e => ?_⟩
  · have l1 : es.size = xs.length := size_of_entries he
    have l2 : kvs.length = xs.length := Paired.length pr
    omega
  · obtain ⟨b, hb, e1, e2, e3⟩ := paired_get pr e
    have q := entry_at he i
    rw [hb] at q
    exact ⟨_, b.2.1, q, rfl, e3, e2⟩
theorem turn_itemsT {P : Program} {w : World} {K : PySem.W.Frag} {d : Addr} {o : Obj} {es : Array DictEntry} {ep : Nat} {kvs : List (List Key × V)} {elts : List Expr} {kk : Nat} {tpos : Pos} (it : Addr) (hod : o.data = .dict es ep) :
    Turn P w K (.Tuple elts kk tpos) (Itit d o kvs) [it] it (fun i h => ∃ ok ov, IsItemIter h it d i es.size ep ok ov) where
  mem := by simp
  obj := fun i h st b hb => by
    have e : b = it := by simpa using hb
    subst e
    obtain ⟨ok, ov, e⟩ := st
    exact ⟨_, e, fun v z => nomatch z⟩
  keep := fun i h h' st k => let ⟨ok, ov, e⟩ := st; ⟨ok, ov, k it (by simp) _ e⟩
  item := by
    intro X hP hw hK hc i pins s σ H E I hf st hg
    subst hP hw hK
    obtain ⟨hd, hi⟩ := hg
    obtain ⟨hs, hgd, hx, es', ep', hdt, hsz, ent⟩ := frzT2 I hd
    obtain ⟨rfl, rfl⟩ := dict_ep hod hdt
    obtain ⟨⟨k, v⟩, hkv⟩ : ∃ p, kvs[i]? = some p := ⟨kvs[i], List.getElem?_eq_getElem hi⟩
    obtain ⟨en, q, hen, hkey, hval, hq⟩ := ent i k v hkv
    obtain ⟨ok, ov, he⟩ := st
    have hlt : it < s.heap.objs.size := Heap.lt_size he
    have hie : i < es'.size := by omega
    have een : es'[i] = en := by rw [Array.getElem?_eq_getElem hie] at hen; exact Option.some.inj hen
    refine DT.nextI he ⟨o, hgd, hx, hdt⟩ hie fun h' ho hT hz hk => ?_
    rw [een, hkey] at hT
    refine ⟨_, rfl, wpAny_letOwnedTupleGo_items (s := { s with heap := h' }) ho fun h'' he' sb => ?_⟩
    have hT2 : h''.get? s.heap.objs.size = some { cls := .type "tuple", data := .seq #[.ref q, en.val] } := (sb.2 _ (Nat.ne_of_gt hlt)).trans hT
    have new : ObjOk X.prog X.w (upd H s.heap.objs.size (.tup [.ref q, v])) h'' s.heap.objs.size (.tup [.ref q, v]) :=
      ⟨by show 2 ≤ sizeLine; decide, [.ref q, en.val], .cons rfl (.cons hval .nil), ⟨_, hT2, rfl, _, rfl⟩⟩
    have I1 : Inv X pins σ (upd H s.heap.objs.size (.tup [.ref q, v])) { s with heap := h'' } :=
      I.turnedNew (t' := s.toks) (ch := [it]) (fun b ob hb e => (sb.2 b (by simpa using hb)).trans (hk b ob (by simpa using hb) e)) hf (Nat.le_refl _) new
    refine ⟨.ref s.heap.objs.size, _, I1, rfl, ⟨_, k, v, q, hkv, rfl, hq, I.hok.fresh (Nat.le_refl _), rfl⟩, ⟨_, _, he'⟩, fun b hb => ?_⟩
    have e : b = it := by simpa using hb
    rw [e, upd_ne (Nat.ne_of_lt hlt)]
    exact (hf it (by simp)).1
  done := by
    intro X hP hw hK hc i pins s σ H E I hf st hg
    subst hP hw hK
    obtain ⟨hd, hi⟩ := hg
    obtain ⟨f0, f1, f2, f3, f4, f5⟩ := hf it (by simp)
    obtain ⟨hs, hgd, hx, es', ep', hdt, hsz, ent⟩ := frzT2 I hd
    obtain ⟨rfl, rfl⟩ := dict_ep hod hdt
    obtain ⟨ok, ov, he⟩ := st
    exact DT.endI (I.ok.hd hc) he ⟨o, hgd, hx, hdt⟩ (by omega) fun h' eb => ⟨rfl, I.turned (t' := s.toks) (fun b ob hb e => eb b ob hb e) f0 f1 f3 f4 f5⟩
  self := fun A i s Q E st h => let ⟨_, _, e⟩ := st; PySem.W.kcp_self e h
def iItemsT (td : TE) : TI := fun σ H R => td σ H fun x H1 => ∃ d o kvs, x = .ref d ∧ H1 d = some (.frz o (.dT kvs)) ∧ R (Itit d o kvs) H1
theorem pi_itemsT {X : Cx} {e : Expr} {td : TE} {apos cpos : Pos} {elts : List Expr} {kk : Nat} {tpos : Pos} (he : PE X e td) (hbase : attributeBase e "items" X.env (eval e X.env) = eval e X.env := by rfl) (hline : (apos.endLine == cpos.line) = true := by rfl) :
    PI X (.Tuple elts kk tpos) (.Call (.Attribute e "items" apos) [] [] cpos) (iItemsT td) := by
  refine ⟨fun pins s σ H R I h => ?_⟩
  refine wpAny_Call_method (T := "dict") (id := "dict.items") hbase rfl hline F.plainAttrs_dict F.slot_dict_items F.type_dict_items (thn (he.run pins s σ H _ I h) fun u s1 ⟨x, H1, I1, rx, d, o, kvs, ex, hd, q⟩ => ?_)
  subst ex
  obtain rfl : u = Value.ref d := rx
  obtain ⟨hs, hgd, hx, es, ep, hdt, hsz, ent⟩ := frzT2 I1 hd
  have raw : DT.Raw s1.heap d es ep := ⟨o, hgd, hx, hdt⟩
  refine ⟨raw.typeIs, fun a ea => by cases ea; exact ⟨o, hgd, hx.2.1⟩, ?_⟩
  have I2 : Inv X pins σ H1 { s1 with heap := s1.heap.push { cls := .type "dict_items", data := .fields #[.ref d] } } := I1.kept (t' := s1.toks) fun b ob q => Heap.get?_push_of_some _ q
  have fin : wpAny (model X.prog X.w) X.A (pyIter (.ref s1.heap.objs.size)) (PIE X pins σ (.Tuple elts kk tpos) R) X.xe { s1 with heap := s1.heap.push { cls := .type "dict_items", data := .fields #[.ref d] } } := by
    refine DT.iterI (d := d) ⟨_, Heap.get?_push_size _ rfl, rfl, rfl⟩ (raw.push _) (pi_one (tk := s1.toks) I2 _ (turn_itemsT _ hdt) ⟨.none, .none, ?_⟩ q)
    exact Heap.get?_push_size _ rfl
  show wpAny _ _ (callWith cpos (.builtin "dict.items") [.ref d] [] []) _ X.xe s1
  exact method_meetsIn F.slot_dict_items F.entry_dict_items rfl (PySem.evalArgs_none ⟨rfl, raw.typeIs, F.args_dict_items_1 _, _, DT.meetsItems (es := es) (ep := ep) hs, raw, fin⟩)
theorem walk_itemsT {d : Addr} {o : Obj} {kvs : List (List Key × V)} : Walk (Itit d o kvs) kvs.length (fun H => H d = some (.frz o (.dT kvs))) (fun i H x H' => ∃ T k v q, kvs[i]? = some (k, v) ∧ x = .ref T ∧ H q = some (.tup (k.map kV)) ∧ H T = none ∧ H' = upd H T (.tup [.ref q, v])) :=
  ⟨fun _ _ hi g => ⟨g, hi⟩, fun _ g => ⟨g, Nat.le_refl _⟩, fun _ _ _ _ _ _ y => y⟩
theorem walk_itemsK {d : Addr} {o : Obj} {kvs : List (Key × V)} : Walk (Iti d o kvs) kvs.length (fun H => H d = some (.frz o (.dK kvs))) (fun i H x H' => ∃ T k v, kvs[i]? = some (k, v) ∧ x = .ref T ∧ H T = none ∧ H' = upd H T (.tup [kV k, v])) :=
  ⟨fun _ _ hi g => ⟨g, hi⟩, fun _ g => ⟨g, Nat.le_refl _⟩, fun _ _ _ _ _ _ y => y⟩
theorem i_itemsT {td : TE} {σ : L2.St} {H : Hp} {R : It → Hp → Prop} (h : td σ H fun x H1 => ∃ d o kvs, x = .ref d ∧ H1 d = some (.frz o (.dT kvs)) ∧ R (Itit d o kvs) H1) : iItemsT td σ H R := h
theorem i_itemsK {td : TE} {σ : L2.St} {H : Hp} {R : It → Hp → Prop} (h : td σ H fun x H1 => ∃ d o kvs, x = .ref d ∧ H1 d = some (.frz o (.dK kvs)) ∧ R (Iti d o kvs) H1) : iItems td σ H R := h
end Lv

set_option Elab.async false
set_option linter.all false
set_option maxRecDepth 100000
set_option maxHeartbeats 4000000
namespace Lv
open PySem PySem.Spec PyProof.Rows L2 SX
theorem best_min {lt : Nat → Nat → Bool} (irr : ∀ a, lt a a = false) (tr : ∀ a b c, lt a b = true → lt b c = true → lt a c = true) : ∀ k, argBest lt k ≤ k ∧ ∀ j, j ≤ k → lt j (argBest lt k) = false
  | 0 => ⟨Nat.le_refl _, fun j hj => by obtain rfl : j = 0 := by omega
                                        exact irr 0⟩
  | k + 1 => by
    obtain ⟨h1, h2⟩ := best_min irr tr k
    simp only [argBest]
    by_cases z : lt (k + 1) (argBest lt k) = true
    · rw [if_pos z]
      refine ⟨Nat.le_refl _, fun j hj => ?_⟩
      rcases Nat.lt_or_ge j (k + 1) with y | y
      · cases e : lt j (k + 1) with
        | false => rfl
        | true => have := tr _ _ _ e z; rw [h2 j (by omega)] at this; cases this
      · obtain rfl : j = k + 1 := by omega
        exact irr _
    · rw [if_neg z]
      refine ⟨by omega, fun j hj => ?_⟩
      rcases Nat.lt_or_ge j (k + 1) with y | y
      · exact h2 j (by omega)
      · obtain rfl : j = k + 1 := by omega
        cases e : lt (k + 1) (argBest lt k) with
        | false => rfl
        | true => exact absurd e z
section
variable {prog : Program} {w : World} {A : Around} {E : Value → Shared → Prop} {s : Shared}
theorem min_list_raw {p : Addr} {its : Array Value} {lt : Nat → Nat → Bool} {Q : Value → Shared → Prop} (hh : A.handled = none) (hl : s.heap.IsList p its) (hn : 0 < its.size) (cmp : CmpIn prog w A.in1 .Lt s.heap (fun i v => its[i]? = some v) lt)
    (hQ : ∀ v h' tk, its[argBest lt (its.size - 1)]? = some v → (∀ b o, s.heap.get? b = some o → h'.get? b = some o) → Q v { s with heap := h', toks := tk }) : wpAny (model prog w) A (call (.builtin "min") [.ref p]) Q E s := by
  have hp : p < s.heap.objs.size := by obtain ⟨_, y, _⟩ := hl; exact Heap.lt_size y
  refine PySem.call_min_walkH (wpAny_pyIter_list hl ?_)
  refine ⟨s.heap.objs.size, _, _, _, _, _, _, s.heap, lt, rfl, (Walks.list (A := A.in1) hh s.heap.objs.size p (Nat.ne_of_lt hp) its).toS, ⟨⟨_, Heap.get?_push_size _ rfl, rfl, rfl⟩, hl.push _⟩, fun b hb => ?_, hn, fun b o e z => ?_, fun b o e => Heap.get?_push_of_some _ e, cmp, fun v s' hv hm => ?_⟩
  · rw [Heap.size_push]
    rcases List.mem_cons.mp hb with z | z
    · rw [z]; exact Nat.lt_succ_self _
    · rw [List.mem_singleton.mp z]; exact Nat.lt_succ_of_lt hp
  · rw [List.mem_singleton.mp z] at e
    exact absurd (Heap.lt_size e) (Nat.lt_irrefl _)
  · rw [Moved.eq_with hm]
    refine hQ v s'.heap s'.toks hv fun b o e => hm.heap b o (fun z => ?_) (Heap.get?_push_of_some _ e)
    rw [List.mem_singleton.mp z] at e
    exact absurd (Heap.lt_size e) (Nat.lt_irrefl _)
end
theorem ltL_trans {a b c : List Nat} (h : a < b) (k : b < c) : a < c := List.lt_trans h k
/-- min(list of texts) -/
def rMinLS (K : PySem.W.Frag) : List V → Hp → VK → Prop := fun xs H Q => ∃ (p : Addr) (ys : List (List Nat)), xs = [.ref p] ∧ SqL K H p (ys.map vs) ∧ ys ≠ [] ∧ ∀ m, m ∈ ys → (∀ y ∈ ys, ¬ y < m) → Q (.str (S m)) H
theorem call_minLS {X : Cx} (hc : X.calm = true) : CallR X (.builtin "min") (rMinLS X.K) := by
  intro pins s σ H xs us Q I r h
  obtain ⟨p, ys, rfl, hs, hne, q⟩ := h
  obtain ⟨its, rv, hl, _⟩ := I.list hs
  rw [Vals.ref1 r]
  have hlen := rv.length
  rw [List.length_map] at hlen
  have at_ : ∀ i v, its.toArray[i]? = some v → ∃ t, v = .str (S (ys.getD i [])) t ∧ i < ys.length := by
    intro i v hv
    rw [List.getElem?_toArray] at hv
    have hi : i < ys.length := by have := (List.getElem?_eq_some_iff.mp hv).1; omega
    obtain ⟨u, h1, h2⟩ := rv.get (show (ys.map vs)[i]? = some (vs ys[i]) by rw [List.getElem?_map, List.getElem?_eq_getElem hi]; rfl)
    rw [h1] at hv
    cases hv
    obtain ⟨t, rfl⟩ := h2
    exact ⟨t, by rw [List.getD_eq_getElem?_getD, List.getElem?_eq_getElem hi]; rfl, hi⟩
  have hpos : 0 < ys.length := List.length_pos_iff.mpr hne
  refine min_list_raw (lt := fun i j => decide (ys.getD i [] < ys.getD j [])) (I.ok.hd hc) hl.isList (by rw [List.size_toArray]; omega) ?_ fun v h' tk hv hk => ?_
  · rintro i j vi vj s' Q' E' _ h1 h2 hq
    obtain ⟨t1, rfl, _⟩ := at_ i vi h1
    obtain ⟨t2, rfl, _⟩ := at_ j vj h2
    show wpAny _ _ (compareOp .Lt _ _) _ _ _
    exact PySem.P.lt_str hq
  · obtain ⟨t, rfl, hi⟩ := at_ _ v hv
    obtain ⟨b1, b2⟩ := best_min (lt := fun i j => decide (ys.getD i [] < ys.getD j [])) (fun a => decide_eq_false (List.lt_irrefl _)) (fun a b c h1 h2 => decide_eq_true (ltL_trans (of_decide_eq_true h1) (of_decide_eq_true h2))) (its.toArray.size - 1)
    generalize argBest (fun i j => decide (ys.getD i [] < ys.getD j [])) (its.toArray.size - 1) = bi at *
    refine ⟨.str (S (ys.getD bi [])), H, I.kept hk, ⟨t, rfl⟩, q _ ?_ fun y hy => ?_⟩
    · rw [List.getD_eq_getElem?_getD, List.getElem?_eq_getElem hi]; exact List.getElem_mem hi
    · obtain ⟨j, hj⟩ := List.mem_iff_getElem?.mp hy
      have jl := (List.getElem?_eq_some_iff.mp hj).1
      have := of_decide_eq_false (b2 j (by rw [List.size_toArray]; omega))
      rw [List.getD_eq_getElem?_getD, hj] at this
      exact this
theorem i_minLS {K : PySem.W.Frag} {p : Addr} {ys : List (List Nat)} {H : Hp} {Q : VK} (hp : SqL K H p (ys.map vs)) (ne : ys ≠ []) (q : ∀ m, m ∈ ys → (∀ y ∈ ys, ¬ y < m) → Q (.str (S m)) H) : rMinLS K [.ref p] H Q := ⟨p, ys, rfl, hp, ne, q⟩
/-- min(text, text) -/
def rMin2S : List V → Hp → VK → Prop := fun xs H Q => ∃ a b : List Nat, xs = [.str (S a), .str (S b)] ∧ Q (.str (S (if b < a then b else a))) H
theorem call_min2S {X : Cx} (hc : X.calm = true) : CallR X (.builtin "min") rMin2S := by
  intro pins s σ H xs us Q I r h
  obtain ⟨a, b, rfl, q⟩ := h
  obtain ⟨u, w', rfl, ⟨t, rfl⟩, ⟨t', rfl⟩⟩ := vals2 r
  have hh := I.ok.hd hc
  have hT : (s.heap.push { cls := .type "tuple", data := .seq #[.str (S a) t, .str (S b) t'] }).IsTuple s.heap.objs.size #[.str (S a) t, .str (S b) t'] := ⟨_, Heap.get?_push_size _ rfl, rfl, 0, rfl⟩
  refine call_min_two (wpAny_pyIter_tuple hT ?_)
  have hsz : (s.heap.push { cls := .type "tuple", data := .seq #[.str (S a) t, .str (S b) t'] }).objs.size = s.heap.objs.size + 1 := Heap.size_push ..
  refine ⟨_, [_, s.heap.objs.size], [_], _, _, _, fun i j => decide (([a, b].getD i []) < [a, b].getD j []), rfl, Walks.tuple (A := X.A.in1) hh _ s.heap.objs.size (by rw [hsz]; exact Nat.ne_of_lt (Nat.lt_succ_self _)) #[.str (S a) t, .str (S b) t'],
    ⟨⟨_, Heap.get?_push_size _ rfl, rfl, rfl⟩, hT.push _⟩, fun c hcm => ?_, by simp, ?_, fun v h' tk hP hk => ?_⟩
  · show c < ((s.heap.push _).push _).objs.size
    rw [Heap.size_push, hsz]
    rcases List.mem_cons.mp hcm with rfl | hcm
    · rw [hsz]; exact Nat.lt_succ_self _
    · rw [List.mem_singleton.mp hcm]; exact Nat.lt_succ_of_lt (Nat.lt_succ_self _)
  · rintro i j vi vj s' Q' E' h1 h2 hq
    have at_ : ∀ i v, (#[Value.str (S a) t, Value.str (S b) t'] : Array Value)[i]? = some v → ∃ tk, v = Value.str (S ([a, b].getD i [])) tk := by
      intro i v hv
      match i, hv with
      | 0, hv => cases hv; exact ⟨t, rfl⟩
      | 1, hv => cases hv; exact ⟨t', rfl⟩
    obtain ⟨t1, rfl⟩ := at_ i vi h1
    obtain ⟨t2, rfl⟩ := at_ j vj h2
    show wpAny _ _ (compareOp .Lt _ _) _ _ _
    exact PySem.P.lt_str hq
  · have hold : ∀ c o, s.heap.get? c = some o → h'.get? c = some o := fun c o e => by
      refine hk c o (fun hm => ?_) (Heap.get?_push_of_some _ (Heap.get?_push_of_some _ e))
      have := Heap.lt_size e
      rw [List.mem_singleton.mp hm, hsz] at this
      exact Nat.lt_irrefl _ (Nat.lt_of_succ_lt this)
    have hP' : (#[Value.str (S a) t, Value.str (S b) t'] : Array Value)[argBest (fun i j => decide (([a, b].getD i []) < [a, b].getD j [])) 1]? = some v := hP
    refine ⟨.str (S (if b < a then b else a)), H, I.kept hold, ?_, q⟩
    by_cases z : b < a
    · rw [show argBest (fun i j => decide (([a, b].getD i []) < [a, b].getD j [])) 1 = 1 by simp [argBest, z]] at hP'
      cases hP'
      rw [if_pos z]
      exact ⟨t', rfl⟩
    · rw [show argBest (fun i j => decide (([a, b].getD i []) < [a, b].getD j [])) 1 = 0 by simp [argBest, z]] at hP'
      cases hP'
      rw [if_neg z]
      exact ⟨t, rfl⟩
theorem i_min2S {a b : List Nat} {H : Hp} {Q : VK} (q : Q (.str (S (if b < a then b else a))) H) : rMin2S [.str (S a), .str (S b)] H Q := ⟨a, b, rfl, q⟩
end Lv

set_option Elab.async false
set_option linter.all false
set_option maxRecDepth 100000
set_option maxHeartbeats 4000000
namespace Lv
open PySem PySem.Spec PyProof.Rows L2 SX
/-- a dict by whole numbers: f tells what stands for each -/
def ID (kvs : List (Key × V)) (f : Nat → Option V) : Prop := ∃ ks : List Nat, kvs.map (·.1) = ks.map (fun c => Sum.inl ((c : Nat) : Int)) ∧ ks.Nodup ∧ (∀ c : Nat, valV kvs (.inl (c : Int)) = f c) ∧ ∀ c, c ∈ ks ↔ (f c).isSome
theorem ID.nil : ID [] fun _ => none := ⟨[], rfl, List.nodup_nil, fun _ => rfl, fun c => by simp⟩
theorem ID.val {kvs : List (Key × V)} {f : Nat → Option V} (h : ID kvs f) (c : Nat) : valV kvs (.inl (c : Int)) = f c := by obtain ⟨_, _, _, h, _⟩ := h; exact h c
theorem inl_I {c d : Nat} : (Sum.inl (c : Int) : Key) = Sum.inl (d : Int) ↔ c = d := by
  constructor
  · intro h
    have : (c : Int) = (d : Int) := Sum.inl.inj h
    omega
  · rintro rfl; rfl
theorem ID.put {kvs : List (Key × V)} {f : Nat → Option V} (h : ID kvs f) (c : Nat) (v : V) : ID (putK kvs (.inl (c : Int)) v) (fun d => if d = c then some v else f d) := by
  obtain ⟨ks, h1, h2, h3, h4⟩ := h
  have hv : ∀ d : Nat, valV (putK kvs (.inl (c : Int)) v) (.inl (d : Int)) = if d = c then some v else f d := fun d => by
    rw [valV_put, h3 d]
    by_cases z : d = c
    · subst z; rw [if_pos rfl, if_pos rfl]
    · rw [if_neg z, if_neg fun q => z (inl_I.mp q)]
  cases e : f c with
  | none =>
    have hn : valV kvs (.inl (c : Int)) = none := by rw [h3, e]
    have hc : c ∉ ks := fun z => by have := (h4 c).mp z; rw [e] at this; cases this
    refine ⟨ks ++ [c], ?_, ?_, hv, fun d => ?_⟩
    · rw [putK_new v hn, List.map_append, h1, List.map_append]; rfl
    · rw [List.nodup_append]
      exact ⟨h2, by simp, fun a ha b hb => by rw [List.mem_singleton.mp hb]; rintro rfl; exact hc ha⟩
    · rw [List.mem_append, List.mem_singleton, h4 d]
      by_cases z : d = c
      · subst z; simp
      · simp [z]
  | some x =>
    have hs : (kvs.any fun kv => decide (kv.1 = (Sum.inl (c : Int) : Key))) = true := by rw [valV_any, h3, e]; rfl
    refine ⟨ks, ?_, h2, hv, fun d => ?_⟩
    · unfold putK
      rw [if_pos hs, keys_map, h1]
    · rw [h4 d]
      by_cases z : d = c
      · subst z; rw [e]; simp
      · simp [z]
theorem ID.congr {kvs : List (Key × V)} {f g : Nat → Option V} (h : ID kvs f) (e : ∀ c, f c = g c) : ID kvs g := by
  have : f = g := funext e
  rw [← this]; exact h
theorem val_at {κ : Type} [DecidableEq κ] : ∀ (kvs : List (κ × V)) (i : Nat) (k : κ) (v : V), (kvs.map (·.1)).Nodup → kvs[i]? = some (k, v) → valV kvs k = some v
  | [], i, k, v, _, h => by simp at h
  | p :: r, 0, k, v, _, h => by
    have : p = (k, v) := by simpa using h
    subst this
    exact valV_pos rfl
  | p :: r, i + 1, k, v, nd, h => by
    have h' : r[i]? = some (k, v) := by simpa using h
    rw [List.map_cons, List.nodup_cons] at nd
    have : k ∈ r.map (·.1) := List.mem_map.mpr ⟨(k, v), List.mem_of_getElem? h', rfl⟩
    rw [valV_neg fun z => nd.1 (z ▸ this)]
    exact val_at r i k v nd.2 h'
/-- the entries in order -/
theorem ID.ent {kvs : List (Key × V)} {f : Nat → Option V} (h : ID kvs f) : ∃ ks : List Nat, ks.Nodup ∧ ks.length = kvs.length ∧ (∀ c, c ∈ ks ↔ (f c).isSome) ∧ ∀ (i : Nat) (k : Key) (v : V), kvs[i]? = some (k, v) → ∃ c : Nat, ks[i]? = some c ∧ k = Sum.inl ((c : Nat) : Int) ∧ f c = some v := by
  obtain ⟨ks, h1, h2, h3, h4⟩ := h
  have el : kvs.length = ks.length := by have := congrArg List.length h1; simpa using this
  refine ⟨ks, h2, el.symm, h4, fun i k v e => ?_⟩
  have e1 : (kvs.map (·.1))[i]? = some k := by rw [List.getElem?_map, e]; rfl
  rw [h1, List.getElem?_map] at e1
  cases q : ks[i]? with
  | none => rw [q] at e1; cases e1
  | some c =>
    rw [q] at e1
    have ek : Sum.inl (c : Int) = k := Option.some.inj e1
    refine ⟨c, rfl, ek.symm, ?_⟩
    rw [← h3 c, ek]
    refine val_at kvs i k v ?_ e
    rw [h1]
    unfold List.Nodup
    rw [List.pairwise_map]
    exact h2.imp fun hne z => hne (inl_I.mp z)
section
variable {K : PySem.W.Frag} {D : Ends} {σ : L2.St} {H : Hp} {Q : VK} {p : Addr} {kvs : List (Key × V)} {v : V}
theorem x_dGetI {R : V → Prop} {c : Int} (hd : Rd H p (.dK kvs)) (hv : valV kvs (.inl c) = some v) (h : R v) : ∃ a v, V.ref p = .ref a ∧ DGet H a (.int c) (some v) ∧ R v := ⟨p, v, rfl, .inl ⟨kvs, .inl c, hd, rfl, hv.symm⟩, h⟩
theorem x_gvI {c : Int} {z : V} (hd : H p = some (.dK kvs)) (h : Q ((valV kvs (.inl c)).getD z) H) : ∃ o, DGet H p (.int c) o ∧ Q (o.getD z) H := ⟨_, .inl ⟨kvs, .inl c, .inl hd, rfl, rfl⟩, h⟩
theorem v_dPutI {c : Int} {R : Hp → Prop} (hd : H p = some (.dK kvs)) (hl : kvs.length < sizeLine) (h : ∀ H2, But p H H2 → H2 p = some (.dK (putK kvs (.inl c) v)) → R H2) : ∃ a H4, V.ref p = .ref a ∧ DPut H a (.int c) v H4 ∧ R H4 := ⟨p, _, rfl, .inl ⟨kvs, .inl c, hd, rfl, hl, rfl⟩, h _ But.upd upd_same⟩
end
/-! what is thawed behind the walk over it -/
theorem same_thaw {H H' : Hp} {d : Addr} {o : Obj} {u : HO} (hd : H d = some u) (s : Same (upd H d (.frz o u)) H') : Same H (upd H' d u) := fun b o' hb => by
  by_cases z : b = d
  · subst z; rw [upd_same, ← hb, hd]
  · rw [upd_ne z]; exact s _ _ (by rw [upd_ne z]; exact hb)
theorem at_thaw {H : Hp} {d p : Addr} {o : Obj} {u u' : HO} (hd : H d = some (.frz o u)) (hp : H p = some u') (ne : ∀ o2 u2, u' ≠ .frz o2 u2) : upd H d u p = some u' := by
  have : p ≠ d := fun z => by subst z; rw [hd] at hp; cases hp; exact ne _ _ rfl
  rw [upd_ne this]; exact hp
theorem free_frz {H : Hp} {d p : Addr} {o : Obj} {u : HO} (h : upd H d (.frz o u) p = none) : p ≠ d ∧ H p = none := by
  have ne : p ≠ d := fun z => by subst z; rw [upd_same] at h; cases h
  rw [upd_ne ne] at h
  exact ⟨ne, h⟩
theorem at_frz {H : Hp} {d p : Addr} {o : Obj} {u u' : HO} (ne : p ≠ d) (hp : H p = some u') : upd H d (.frz o u) p = some u' := by rw [upd_ne ne]; exact hp
/-! what is compared with [] -/
def Shp (n : Nat) (d : PyData) : Prop := d.canLay0 = true ∧ d.depth ≤ n
theorem lay_of : ∀ ds : List PyData, (∀ d ∈ ds, d.canLay0 = true) → PyData.canLayAll0 ds = true
  | [], _ => by simp [PyData.canLayAll0]
  | d :: ds, h => by
    simp only [PyData.canLayAll0, Bool.and_eq_true]
    exact ⟨h d List.mem_cons_self, lay_of ds fun e he => h e (List.mem_cons_of_mem _ he)⟩
theorem depth_of {n : Nat} : ∀ ds : List PyData, (∀ d ∈ ds, d.depth ≤ n) → PyData.depthAll ds ≤ n
  | [], _ => by simp [PyData.depthAll]
  | d :: ds, h => by
    have h1 := h d List.mem_cons_self
    have h2 := depth_of ds fun e he => h e (List.mem_cons_of_mem _ he)
    simp only [PyData.depthAll]
    omega
theorem Shp.lst {n : Nat} {ds : List PyData} (h : ∀ d ∈ ds, Shp n d) : Shp (n + 1) (.list ds) := by
  refine ⟨?_, ?_⟩
  · rw [PyData.canLay0]; exact lay_of ds fun d hd => (h d hd).1
  · have := depth_of (n := n) ds fun d hd => (h d hd).2
    rw [PyData.depth]; omega
theorem Shp.tup {n : Nat} {ds : List PyData} (h : ∀ d ∈ ds, Shp n d) : Shp (n + 1) (.tuple ds) := by
  refine ⟨?_, ?_⟩
  · rw [PyData.canLay0]; exact lay_of ds fun d hd => (h d hd).1
  · have := depth_of (n := n) ds fun d hd => (h d hd).2
    rw [PyData.depth]; omega
theorem Shp.ok {n : Nat} {d : PyData} (h : Shp n d) (hn : n ≤ 64) : SeqAt.shaped d = true := by
  unfold SeqAt.shaped
  rw [h.1, decide_eq_true (Nat.le_trans h.2 hn)]
  rfl
/-- plain data, so deep at most -/
def Dq (n : Nat) (K : PySem.W.Frag) (H : Hp) (v : V) : Prop := ∃ d, Dp K H v d ∧ Shp n d
section
variable {n : Nat} {K : PySem.W.Frag} {H : Hp}
theorem Dq.int (i : Int) : Dq n K H (.int i) := ⟨_, .int i, by simp [PyData.canLay0], by simp [PyData.depth]⟩
theorem Dq.bl (b : Bool) : Dq n K H (.bl b) := ⟨_, .bl b, by simp [PyData.canLay0], by simp [PyData.depth]⟩
theorem Dq.non : Dq n K H .non := ⟨_, .non, by simp [PyData.canLay0], by simp [PyData.depth]⟩
theorem Dq.str {l : List Nat} (h : Chr l) : Dq n K H (.str (S l)) := ⟨_, .str _, by rw [PyData.canLay0]; exact strOk_S h, by simp [PyData.depth]⟩
theorem Dq.all : ∀ {xs : List V}, (∀ x ∈ xs, Dq n K H x) → ∃ ds, DpAll K H xs ds ∧ (∀ d ∈ ds, Shp n d) ∧ ds.length = xs.length
  | [], _ => ⟨[], .nil, fun _ z => (nomatch z), rfl⟩
  | x :: xs, h => by
    obtain ⟨d, h1, h2⟩ := h x List.mem_cons_self
    obtain ⟨ds, h3, h4, h5⟩ := Dq.all fun y hy => h y (List.mem_cons_of_mem _ hy)
    refine ⟨d :: ds, .cons h1 h3, fun e he => ?_, by simp [h5]⟩
    rcases List.mem_cons.mp he with z | z
    · rw [z]; exact h2
    · exact h4 e z
theorem Dq.tup {a : Addr} {xs : List V} (ha : SqT K H a xs) (h : ∀ x ∈ xs, Dq n K H x) : Dq (n + 1) K H (.ref a) := by
  obtain ⟨ds, h1, h2, _⟩ := Dq.all h
  exact ⟨_, .tup ha h1, .tup h2⟩
theorem Dq.lst {a : Addr} {xs : List V} (ha : SqL K H a xs) (h : ∀ x ∈ xs, Dq n K H x) : Dq (n + 1) K H (.ref a) := by
  obtain ⟨ds, h1, h2, _⟩ := Dq.all h
  exact ⟨_, .lst ha h1, .lst h2⟩
end
def r2E (K : PySem.W.Frag) (g : Bool → Bool) : R2 := fun x y H Q => ∃ (p q : Addr) (xs : List V), x = .ref p ∧ y = .ref q ∧ SqL K H p xs ∧ SqL K H q [] ∧ (∀ x ∈ xs, Dq 20 K H x) ∧ Q (.bl (g (decide (xs = [])))) H
abbrev rEqE (K : PySem.W.Frag) : R2 := r2E K fun b => b
abbrev rNeE (K : PySem.W.Frag) : R2 := r2E K fun b => !b
theorem eqv_nil {ds : List PyData} {xs : List V} (h : ds.length = xs.length) : PyData.eqv (.list ds) (.list []) = decide (xs = []) := by
  cases ds with
  | nil =>
    have : xs = [] := List.length_eq_zero_iff.mp h.symm
    subst this
    simp [PyData.eqv, PyData.eqvAll]
  | cons a ds =>
    have : xs ≠ [] := fun z => by subst z; cases h
    simp [PyData.eqv, PyData.eqvAll, this]
theorem op_eqE {X : Cx} (hu : X.A.units + 64 < cLine) : OpR X (compareOp .Eq) (rEqE X.K) := by
  intro pins s σ H x y v u Q I rx ry h
  obtain ⟨p, q, xs, rfl, rfl, h1, h2, h3, k⟩ := h
  obtain ⟨ds, d1, d2, d3⟩ := Dq.all h3
  refine op_eqD hu pins s σ H _ _ v u Q I rx ry ⟨_, _, .lst h1 d1, .lst h2 .nil, (Shp.lst d2).ok (by decide), (Shp.lst (n := 0) (ds := []) fun _ z => nomatch z).ok (by decide), ?_⟩
  rw [eqv_nil d3]
  exact k
theorem op_neE {X : Cx} (hu : X.A.units + 64 < cLine) : OpR X (compareOp .NotEq) (rNeE X.K) := by
  intro pins s σ H x y v u Q I rx ry h
  obtain ⟨p, q, xs, rfl, rfl, h1, h2, h3, k⟩ := h
  obtain ⟨ds, d1, d2, d3⟩ := Dq.all h3
  refine op_neD hu pins s σ H _ _ v u Q I rx ry ⟨_, _, .lst h1 d1, .lst h2 .nil, (Shp.lst d2).ok (by decide), (Shp.lst (n := 0) (ds := []) fun _ z => nomatch z).ok (by decide), ?_⟩
  rw [eqv_nil d3]
  exact k
theorem i_r2E {K : PySem.W.Frag} {g : Bool → Bool} {p q : Addr} {xs : List V} {H : Hp} {Q : VK} (h1 : SqL K H p xs) (h2 : SqL K H q []) (h3 : ∀ x ∈ xs, Dq 20 K H x) (k : Q (.bl (g (decide (xs = [])))) H) : r2E K g (.ref p) (.ref q) H Q := ⟨p, q, xs, rfl, rfl, h1, h2, h3, k⟩
def dispK (Q : VK) (p : Addr) (x y : V) (H2 : Hp) : Prop := H2 p = some (.dK []) ∧ ∃ kvs : List (Key × V), [(x, y)] = kvs.map (fun kv => (kV kv.1, kv.2)) ∧ kvs.length ≤ 15 ∧ Q (.ref p) (upd H2 p (.dK (mergeK [] kvs)))
theorem v_disp1 {tk tv : TE} {σ : L2.St} {H : Hp} {Q : VK} (h : ∀ p H1, H p = none → Same H H1 → H1 p = some (.dK []) → tk σ H1 fun x H2 => tv σ H2 fun y H3 => dispK Q p x y H3) : tDisp [(tk, tv)] σ H Q := fun p np => h p _ np (same_new np) upd_same
theorem x_disp {k : Key} {y : V} {p : Addr} {H : Hp} {Q : VK} (hp : H p = some (.dK [])) (h : ∀ H2, But p H H2 → H2 p = some (.dK [(k, y)]) → Q (.ref p) H2) : dispK Q p (kV k) y H := ⟨hp, [(k, y)], rfl, by simp, h _ But.upd upd_same⟩
theorem same_frz {H H' : Hp} {d : Addr} {u : HO} (s : Same H H') : Same (upd H d u) (upd H' d u) := fun b o hb => by
  by_cases z : b = d
  · subst z; rw [upd_same] at hb ⊢; exact hb
  · rw [upd_ne z] at hb ⊢; exact s _ _ hb
theorem ID.len {kvs : List (Key × V)} {f : Nat → Option V} {n : Nat} (h : ID kvs f) (hf : ∀ c, (f c).isSome → c < n) : kvs.length ≤ n := by
  obtain ⟨ks, h1, h2, h3, _⟩ := h.ent
  have := nodup_len ks (List.range n) h1 fun c hc => List.mem_range.mpr (hf c ((h3 c).mp hc))
  rw [List.length_range] at this
  omega
theorem fm_zipG {α β : Type} (us : List Addr) (ls : List α) (f : α → Option β) (h : us.length = ls.length) : (us.zip ls).filterMap (fun p => f p.2) = ls.filterMap f := by
  induction us generalizing ls with
  | nil => cases ls with
    | nil => rfl
    | cons a l => cases h
  | cons u us ih =>
    cases ls with
    | nil => cases h
    | cons a l => rw [List.zip_cons_cons, List.filterMap_cons, List.filterMap_cons, ih l (Nat.succ.inj h)]
theorem zip_refsG {α : Type} (us : List Addr) (ls : List α) (h : us.length = ls.length) : (us.zip ls).map (fun p => V.ref p.1) = us.map V.ref := by
  induction us generalizing ls with
  | nil => rfl
  | cons u us ih =>
    cases ls with
    | nil => cases h
    | cons a l => rw [List.zip_cons_cons, List.map_cons, List.map_cons, ih l (Nat.succ.inj h)]
end Lv

set_option Elab.async false
set_option linter.all false
set_option maxRecDepth 100000
set_option maxHeartbeats 4000000
namespace Lv
open PySem PySem.Spec PyProof.Rows L2 SX
/-! {(a, b): v} -/
def dispT (Q : VK) (p : Addr) (x y : V) (H2 : Hp) : Prop := H2 p = some (.dT []) ∧ ∃ (k : List Key) (b : Addr), x = .ref b ∧ H2 b = some (.tup (k.map kV)) ∧ Q (.ref p) (upd H2 p (.dT [(k, y)]))
def tDispT1 (tk tv : TE) : TE := fun σ H Q => ∀ p, H p = none → tk σ (upd H p (.dT [])) fun x H1 => tv σ H1 fun y H2 => dispT Q p x y H2
theorem pe_dispT1 {X : Cx} {ek ev : Expr} {tk tv : TE} {pos : Pos} (hu : X.A.units + 1 < cLine) (hk : PE X ek tk) (hv : PE X ev tv) : PE X (.Dict [some ek] [ev] pos) (tDispT1 tk tv) := by
  refine ⟨fun pins s σ H Q I q => ?_⟩
  have hn := I.hok.fresh (Nat.le_refl s.heap.objs.size)
  have I1 := I.laid (a := s.heap.objs.size) (o := .dT []) (h' := s.heap.push { cls := .type "dict", data := .dict #[] }) (t' := s.toks) (fun _ _ q => Heap.get?_push_of_some _ q) (Nat.le_refl _) (dt_empty s.heap I.big)
  refine wpAny_Dict_any rfl rfl (by simp) (by show 1 ≤ 15; decide) ?_
  refine pairTrees_cons_walk (thn (hk.run pins _ σ _ _ I1 (q _ hn)) fun u s1 ⟨x, H1, I1, rx, q1⟩ => thn (hv.run pins s1 σ H1 _ I1 q1) fun u2 s2 ⟨y, H2, I2, ry, e, k, b, ex, eb, q2⟩ => pairTrees_nil_walk ?_)
  subst ex
  cases (show u = Value.ref b from rx)
  obtain ⟨z, hd, xs, rel, dd⟩ := dt_of I2.hok e
  have hz : xs.length ≤ sizeLine := by rw [← Paired.length rel]; exact z
  unfold storeAll
  rw [List.forIn_cons]
  refine wpAny_bind (wpAny_bind (wpAny_dictSet_heap (hsz := hz) (Nat.lt_of_succ_lt hu) (key_of I2.hok eb) dd fun h' dd' hs => wpAny_pure ?_))
  show wpAny _ _ (forIn [] PUnit.unit _) _ _ _
  rw [List.forIn_nil]
  refine wpAny_pure ?_
  obtain ⟨q', es, ep, hq, h2, h3, h4, _, h5⟩ := dd'
  refine ⟨.ref s.heap.objs.size, _, d_write (ob := .dT [(k, y)]) I2 (by rw [e]; exact True.intro) hs ⟨q', hq⟩ ⟨?_, hd, _, (rel.put k eb ry).keeps fun c ys ec => ?_, q', es, ep, hq, h2, h3, h4, h5⟩, rfl, q2⟩
  · show 1 ≤ sizeLine
    rw [sizeLine_eq]; omega
  · rw [upd_ne (ne_of ec e (fun z => nomatch z))]
    exact ec
theorem v_dispT1 {tk tv : TE} {σ : L2.St} {H : Hp} {Q : VK} (h : ∀ p H1, H p = none → Same H H1 → H1 p = some (.dT []) → tk σ H1 fun x H2 => tv σ H2 fun y H3 => dispT Q p x y H3) : tDispT1 tk tv σ H Q := fun p np => h p _ np (same_new np) upd_same
theorem x_dispT {k : List Key} {y : V} {p b : Addr} {H : Hp} {Q : VK} (hp : H p = some (.dT [])) (hb : H b = some (.tup (k.map kV))) (h : ∀ H2, But p H H2 → H2 p = some (.dT [(k, y)]) → Q (.ref p) H2) : dispT Q p (.ref b) y H := ⟨hp, k, b, rfl, hb, h _ But.upd upd_same⟩
/-- a dict by two whole numbers -/
abbrev k2 (p q : Nat) : List Key := [Sum.inl (p : Int), Sum.inl (q : Int)]
theorem k2_inj {p q p' q' : Nat} : k2 p q = k2 p' q' ↔ p = p' ∧ q = q' := by
  constructor
  · intro h
    have h1 := List.cons.inj h
    have h2 := List.cons.inj h1.2
    exact ⟨inl_I.mp h1.1, inl_I.mp h2.1⟩
  · rintro ⟨rfl, rfl⟩; rfl
section
variable {K : PySem.W.Frag} {D : Ends} {σ : L2.St} {H : Hp} {Q : VK} {p : Addr} {kvs : List (List Key × V)} {v : V} {b : Addr} {k : List Key}
theorem x_dInT {R : Option V → Prop} (hd : Rd H p (.dT kvs)) (hb : H b = some (.tup (k.map kV))) (h : R (valV kvs k)) : ∃ a o, V.ref p = .ref a ∧ DGet H a (.ref b) o ∧ R o := ⟨p, _, rfl, .inr ⟨kvs, k, b, hd, rfl, hb, rfl⟩, h⟩
theorem x_dGetT {R : V → Prop} (hd : Rd H p (.dT kvs)) (hb : H b = some (.tup (k.map kV))) (hv : valV kvs k = some v) (h : R v) : ∃ a v, V.ref p = .ref a ∧ DGet H a (.ref b) (some v) ∧ R v := ⟨p, v, rfl, .inr ⟨kvs, k, b, hd, rfl, hb, hv.symm⟩, h⟩
theorem v_dPutT {R : Hp → Prop} (hd : H p = some (.dT kvs)) (hb : H b = some (.tup (k.map kV))) (hl : kvs.length < sizeLine) (h : ∀ H2, But p H H2 → H2 p = some (.dT (putK kvs k v)) → R H2) : ∃ a H4, V.ref p = .ref a ∧ DPut H a (.ref b) v H4 ∧ R H4 := ⟨p, _, rfl, .inr ⟨kvs, k, b, hd, rfl, hb, hl, rfl⟩, h _ But.upd upd_same⟩
end
theorem paired_snocP {α β : Type} {F : α → β → Prop} {x : α} {y : β} (h : F x y) : ∀ {xs : List α} {ys : List β}, Paired F xs ys → Paired F (xs ++ [x]) (ys ++ [y])
  | _, _, .nil => .cons h .nil
  | _, _, .cons a b => .cons a (paired_snocP h b)
def oS : Option (List Nat) → V
  | none => .non
  | some w => .str (S w)
def oSD : Option (List Nat) → PyData
  | none => .none
  | some w => .str (S w)
theorem oSD_dp {K : PySem.W.Frag} {H : Hp} : ∀ o, Dp K H (oS o) (oSD o)
  | none => .non
  | some k => .str _
def OChr : Option (List Nat) → Prop
  | none => True
  | some w => Chr w
theorem oSD_shaped : ∀ {o : Option (List Nat)}, OChr o → SeqAt.shaped (oSD o) = true
  | none, _ => by simp [oSD, SeqAt.shaped, PyData.canLay0, PyData.depth]
  | some w, h => by simp only [oSD, SeqAt.shaped, PyData.canLay0, PyData.depth, strOk_S h]; rfl
theorem oSD_eqv : ∀ a b : Option (List Nat), PyData.eqv (oSD a) (oSD b) = decide (a = b)
  | none, none => by simp [oSD, PyData.eqv]
  | none, some _ => by simp [oSD, PyData.eqv]
  | some _, none => by simp [oSD, PyData.eqv]
  | some v, some w => by
    simp only [oSD, PyData.eqv, Option.some.injEq]
    by_cases h : v = w
    · subst h; simp
    · have : ¬ S v = S w := fun z => h (S_inj.mp z)
      simp [h, this]
def r2OS (g : Option (List Nat) → Option (List Nat) → Bool) : R2 := fun x y H Q => ∃ a b : Option (List Nat), x = oS a ∧ y = oS b ∧ OChr a ∧ OChr b ∧ Q (.bl (g a b)) H
abbrev rEqOS : R2 := r2OS fun a b => decide (a = b)
abbrev rNeOS : R2 := r2OS fun a b => !decide (a = b)
theorem op_eqOS {X : Cx} (hu : X.A.units + 64 < cLine) : OpR X (compareOp .Eq) rEqOS := by
  intro pins s σ H x y v u Q I rx ry h
  obtain ⟨a, b, rfl, rfl, c1, c2, k⟩ := h
  refine op_eqD hu pins s σ H _ _ v u Q I rx ry ⟨_, _, oSD_dp a, oSD_dp b, oSD_shaped c1, oSD_shaped c2, ?_⟩
  rw [oSD_eqv]
  exact k
theorem op_neOS {X : Cx} (hu : X.A.units + 64 < cLine) : OpR X (compareOp .NotEq) rNeOS := by
  intro pins s σ H x y v u Q I rx ry h
  obtain ⟨a, b, rfl, rfl, c1, c2, k⟩ := h
  refine op_neD hu pins s σ H _ _ v u Q I rx ry ⟨_, _, oSD_dp a, oSD_dp b, oSD_shaped c1, oSD_shaped c2, ?_⟩
  rw [oSD_eqv]
  exact k
theorem i_r2OS {g : Option (List Nat) → Option (List Nat) → Bool} {a b : Option (List Nat)} {H : Hp} {Q : VK} (h1 : OChr a) (h2 : OChr b) (k : Q (.bl (g a b)) H) : r2OS g (oS a) (oS b) H Q := ⟨a, b, rfl, rfl, h1, h2, k⟩
end Lv

set_option Elab.async false
set_option linter.all false
set_option maxRecDepth 100000
set_option maxHeartbeats 4000000
namespace Lv
open PySem PySem.Spec PyProof.Rows L2 SX
theorem best_minB {lt : Nat → Nat → Bool} {n : Nat} (irr : ∀ a, a < n → lt a a = false) (tr : ∀ a b c, a < n → b < n → c < n → lt a b = true → lt b c = true → lt a c = true) : ∀ k, k < n → argBest lt k ≤ k ∧ ∀ j, j ≤ k → lt j (argBest lt k) = false
  | 0, hk => ⟨Nat.le_refl _, fun j hj => by obtain rfl : j = 0 := by omega
                                            exact irr 0 hk⟩
  | k + 1, hk => by
    obtain ⟨h1, h2⟩ := best_minB irr tr k (by omega)
    simp only [argBest]
    by_cases z : lt (k + 1) (argBest lt k) = true
    · rw [if_pos z]
      refine ⟨Nat.le_refl _, fun j hj => ?_⟩
      rcases Nat.lt_or_ge j (k + 1) with y | y
      · cases e : lt j (k + 1) with
        | false => rfl
        | true => have := tr _ _ _ (by omega) (by omega) (by omega) e z; rw [h2 j (by omega)] at this; cases this
      · obtain rfl : j = k + 1 := by omega
        exact irr _ hk
    · rw [if_neg z]
      refine ⟨by omega, fun j hj => ?_⟩
      rcases Nat.lt_or_ge j (k + 1) with y | y
      · exact h2 j (by omega)
      · obtain rfl : j = k + 1 := by omega
        cases e : lt (k + 1) (argBest lt k) with
        | false => rfl
        | true => exact absurd e z
/-! (int, text) < (int, text) -/
abbrev isD (i : Int) (l : List Nat) : PyData := .tuple [.int i, .str (S l)]
theorem lt_isD (i j : Int) (l m : List Nat) : PySem.W.dataLt (isD i l) (isD j m) = decide (i < j ∨ (i = j ∧ l < m)) := by
  rw [PySem.W.dataLt_pair (by simp [PySem.W.alike]) (by simp [PySem.W.alike]), PySem.W.dataLt_int, PySem.W.dataLt_str]
  simp only [PyData.eqv]
  by_cases e : i = j
  · subst e
    by_cases e2 : l = m
    · subst e2; simp
    · have : ¬ S l = S m := fun z => e2 (S_inj.mp z)
      simp [this]
  · simp [e]
theorem alike_isD (i j : Int) (l m : List Nat) : PySem.W.alike (isD i l) (isD j m) = true := by simp [PySem.W.alike, PySem.W.alikeAll]
theorem dp_isD {K : PySem.W.Frag} {H : Hp} {a : Addr} {i : Int} {l : List Nat} (h : SqT K H a [.int i, .str (S l)]) : Dp K H (.ref a) (isD i l) := .tup h (.cons (.int _) (.cons (.str _) .nil))
def rLtIS (K : PySem.W.Frag) : R2 := fun x y H Q => ∃ (a b : Addr) (i j : Int) (l m : List Nat), x = .ref a ∧ y = .ref b ∧ SqT K H a [.int i, .str (S l)] ∧ SqT K H b [.int j, .str (S m)] ∧ Q (.bl (decide (i < j ∨ (i = j ∧ l < m)))) H
theorem op_ltIS {X : Cx} (hu : X.A.units + 64 < cLine) : OpR X (compareOp .Lt) (rLtIS X.K) := by
  intro pins s σ H x y v u Q I rx ry h
  obtain ⟨a, b, i, j, l, m, rfl, rfl, h1, h2, k⟩ := h
  obtain ⟨as, r1⟩ := Dp.reads I _ _ v (dp_isD h1) rx
  obtain ⟨bs, r2⟩ := Dp.reads I _ _ u (dp_isD h2) ry
  refine PySem.W.rcLt_alike _ _ X.A s v u as bs r1 r2 (alike_isD _ _ _ _) (by intro z; cases z) ?_ _ _ _ _ ⟨.bl _, H, I, rfl, by rw [lt_isD]; exact k⟩
  have : min (isD i l).depth (isD j m).depth ≤ (isD i l).depth := Nat.min_le_left _ _
  have : (isD i l).depth = 1 := by simp [PyData.depth, PyData.depthAll]
  omega
theorem i_ltIS {K : PySem.W.Frag} {a b : Addr} {i j : Int} {l m : List Nat} {H : Hp} {Q : VK} (h1 : SqT K H a [.int i, .str (S l)]) (h2 : SqT K H b [.int j, .str (S m)]) (k : Q (.bl (decide (i < j ∨ (i = j ∧ l < m)))) H) : rLtIS K (.ref a) (.ref b) H Q := ⟨a, b, i, j, l, m, rfl, rfl, h1, h2, k⟩
/-- min of such pairs -/
def rMinIS (K : PySem.W.Frag) : List V → Hp → VK → Prop := fun xs H Q => ∃ (p : Addr) (ts : List Addr) (ys : List (Int × List Nat)), xs = [.ref p] ∧ SqL K H p (ts.map V.ref) ∧ Paired (fun t y => SqT K H t [.int y.1, .str (S y.2)]) ts ys ∧ ys ≠ [] ∧ ys.length ≤ 1000000 ∧
  ∀ (i : Nat) (t : Addr) (y : Int × List Nat), ts[i]? = some t → ys[i]? = some y → (∀ z ∈ ys, ¬ (z.1 < y.1 ∨ (z.1 = y.1 ∧ z.2 < y.2))) → Q (.ref t) H
theorem dp_iss {K : PySem.W.Frag} {H : Hp} : ∀ {ts : List Addr} {ys : List (Int × List Nat)}, Paired (fun t y => SqT K H t [.int y.1, .str (S y.2)]) ts ys → DpAll K H (ts.map V.ref) (ys.map fun y => isD y.1 y.2)
  | _, _, .nil => .nil
  | _, _, .cons a b => .cons (dp_isD a) (dp_iss b)
theorem call_minIS {X : Cx} (hu : X.A.units + 64 < cLine) (hc : X.calm = true) : CallR X (.builtin "min") (rMinIS X.K) := by
  intro pins s σ H xs us Q I r h
  obtain ⟨p, ts, ys, rfl, hs, pr, hne, hmax, q⟩ := h
  obtain ⟨its, rv, hl, _⟩ := I.list hs
  rw [Vals.ref1 r]
  have hlen := rv.length
  have prl := pr.length
  rw [List.length_map] at hlen
  obtain ⟨as, ra⟩ := Dp.readsAll I _ _ _ (dp_iss pr) rv
  have hpos : 0 < ys.length := List.length_pos_iff.mpr hne
  have cmp := PySem.W.cmpIn_lt (prog := X.prog) (w := X.w) (A := X.A.in1) (s := s) (vs := its.toArray) (xs := ys.map fun y => isD y.1 y.2) (as := as) (by simpa using ra)
    ⟨fun x hx y hy => by
      obtain ⟨x', _, rfl⟩ := List.mem_map.mp hx
      obtain ⟨y', _, rfl⟩ := List.mem_map.mp hy
      exact alike_isD _ _ _ _, fun x hx z => by
      obtain ⟨x', _, rfl⟩ := List.mem_map.mp hx
      cases z⟩ (by
      have : PyData.depthAll (ys.map fun y => isD y.1 y.2) ≤ 1 := depth_of _ fun d hd => by
        obtain ⟨x', _, rfl⟩ := List.mem_map.mp hd
        simp [PyData.depth, PyData.depthAll]
      have e : X.A.in1.units = X.A.units + 1 := rfl
      omega)
  refine min_list_raw (I.ok.hd hc) hl.isList (by rw [List.size_toArray]; omega) cmp fun v h' tk hv hk => ?_
  generalize hlt : (fun i j => PySem.W.dataLt ((ys.map fun y => isD y.1 y.2).getD i .none) ((ys.map fun y => isD y.1 y.2).getD j .none)) = lt at hv
  have atD : ∀ i, i < ys.length → (ys.map fun y => isD y.1 y.2).getD i .none = isD (ys.getD i (0, [])).1 (ys.getD i (0, [])).2 := fun i hi => by
    rw [List.getD_eq_getElem?_getD, List.getElem?_map, List.getElem?_eq_getElem hi, List.getD_eq_getElem?_getD, List.getElem?_eq_getElem hi]; rfl
  obtain ⟨b1, b2⟩ := best_minB (n := ys.length) (lt := lt) (fun a ha => by rw [← hlt]; simp only [atD _ ha, lt_isD]; exact decide_eq_false fun z => z.elim (fun h => absurd h (Int.lt_irrefl _)) (fun h => absurd h.2 (List.lt_irrefl _))) (fun a b c ha hb hc' h1 h2 => by
    rw [← hlt] at h1 h2 ⊢
    simp only [atD _ ha, atD _ hb, atD _ hc', lt_isD, decide_eq_true_eq] at h1 h2 ⊢
    rcases h1 with h1 | ⟨e1, h1⟩ <;> rcases h2 with h2 | ⟨e2, h2⟩
    · exact .inl (by omega)
    · exact .inl (by omega)
    · exact .inl (by omega)
    · exact .inr ⟨by omega, List.lt_trans h1 h2⟩) (its.toArray.size - 1) (by rw [List.size_toArray]; omega)
  generalize argBest lt (its.toArray.size - 1) = bi at *
  rw [List.size_toArray] at b1 b2
  have hbi : bi < ys.length := by omega
  have hbt : bi < ts.length := by omega
  obtain ⟨u, h1, h2⟩ := rv.get (show (ts.map V.ref)[bi]? = some (.ref ts[bi]) by rw [List.getElem?_map, List.getElem?_eq_getElem hbt]; rfl)
  rw [List.getElem?_toArray, h1] at hv
  cases hv
  refine ⟨.ref ts[bi], H, I.kept hk, h2, q bi _ ys[bi] (List.getElem?_eq_getElem hbt) (List.getElem?_eq_getElem hbi) fun z hz => ?_⟩
  obtain ⟨j, hj⟩ := List.mem_iff_getElem?.mp hz
  have jl := (List.getElem?_eq_some_iff.mp hj).1
  have := b2 j (by omega)
  rw [← hlt] at this
  simp only [atD _ jl, atD _ hbi, lt_isD] at this
  have := of_decide_eq_false this
  rw [List.getD_eq_getElem?_getD, hj, List.getD_eq_getElem?_getD, List.getElem?_eq_getElem hbi] at this
  exact this
theorem i_minIS {K : PySem.W.Frag} {p : Addr} {ts : List Addr} {ys : List (Int × List Nat)} {H : Hp} {Q : VK} (hp : SqL K H p (ts.map V.ref)) (pr : Paired (fun t y => SqT K H t [.int y.1, .str (S y.2)]) ts ys) (ne : ys ≠ []) (hm : ys.length ≤ 1000000)
    (q : ∀ (i : Nat) (t : Addr) (y : Int × List Nat), ts[i]? = some t → ys[i]? = some y → (∀ z ∈ ys, ¬ (z.1 < y.1 ∨ (z.1 = y.1 ∧ z.2 < y.2))) → Q (.ref t) H) : rMinIS K [.ref p] H Q := ⟨p, ts, ys, rfl, hp, pr, ne, hm, q⟩
/-! (int, int) not in list of such -/
abbrev iiD (y : Nat × Nat) : PyData := .tuple [.int (y.1 : Int), .int (y.2 : Int)]
theorem iiD_shp (y : Nat × Nat) : Shp 1 (iiD y) := Shp.tup (n := 0) fun d hd => by
  have hd : d = .int (y.1 : Int) ∨ d = .int (y.2 : Int) := by simpa using hd
  rcases hd with rfl | rfl <;> exact ⟨by simp [PyData.canLay0], by simp [PyData.depth]⟩
theorem iiD_eqv (x y : Nat × Nat) : PyData.eqv (iiD x) (iiD y) = decide (x = y) := by
  obtain ⟨a, b⟩ := x
  obtain ⟨c, d⟩ := y
  simp only [PyData.eqv, PyData.eqvAll, Prod.mk.injEq]
  by_cases e : a = c
  · subst e
    by_cases e2 : b = d
    · subst e2; simp
    · have : ¬ (b : Int) = (d : Int) := by omega
      simp [e2, this]
  · have : ¬ (a : Int) = (c : Int) := by omega
    simp [e, this]
theorem dp_iis {K : PySem.W.Frag} {H : Hp} : ∀ {ts : List Addr} {ys : List (Nat × Nat)}, Paired (fun t y => SqT K H t [.int (y.1 : Int), .int (y.2 : Int)]) ts ys → DpAll K H (ts.map V.ref) (ys.map iiD)
  | _, _, .nil => .nil
  | _, _, .cons a b => .cons (.tup a (.cons (.int _) (.cons (.int _) .nil))) (dp_iis b)
def rNotInII (K : PySem.W.Frag) : R2 := fun x y H Q => ∃ (a b : Addr) (p : Nat × Nat) (ts : List Addr) (ys : List (Nat × Nat)), x = .ref a ∧ y = .ref b ∧ SqT K H a [.int (p.1 : Int), .int (p.2 : Int)] ∧ SqL K H b (ts.map V.ref) ∧ Paired (fun t y => SqT K H t [.int (y.1 : Int), .int (y.2 : Int)]) ts ys ∧ Q (.bl (!decide (p ∈ ys))) H
theorem op_notInII {X : Cx} (hu : X.A.units + 65 < cLine) : OpR X (compareOp .NotIn) (rNotInII X.K) := by
  intro pins s σ H x y v u Q I rx ry h
  obtain ⟨a, b, p, ts, ys, rfl, rfl, h1, h2, h3, k⟩ := h
  refine op_notInD hu pins s σ H _ _ v u Q I rx ry ⟨iiD p, ys.map iiD, .tup h1 (.cons (.int _) (.cons (.int _) .nil)), .lst h2 (dp_iis h3), (iiD_shp p).ok (by decide), (Shp.lst (n := 1) fun d hd => ?_).ok (by decide), ?_⟩
  · obtain ⟨x, _, rfl⟩ := List.mem_map.mp hd
    exact iiD_shp x
  · have : ((ys.map iiD).any fun z => PyData.eqv z (iiD p)) = decide (p ∈ ys) := by
      rw [Bool.eq_iff_iff, List.any_eq_true, decide_eq_true_eq]
      constructor
      · rintro ⟨z, hz, e⟩
        obtain ⟨y, hy, rfl⟩ := List.mem_map.mp hz
        rw [iiD_eqv] at e
        rw [← of_decide_eq_true e]; exact hy
      · intro hp
        exact ⟨_, List.mem_map.mpr ⟨p, hp, rfl⟩, by rw [iiD_eqv]; exact decide_eq_true rfl⟩
    rw [this]
    exact k
theorem i_notInII {K : PySem.W.Frag} {a b : Addr} {p : Nat × Nat} {ts : List Addr} {ys : List (Nat × Nat)} {H : Hp} {Q : VK} (h1 : SqT K H a [.int (p.1 : Int), .int (p.2 : Int)]) (h2 : SqL K H b (ts.map V.ref)) (h3 : Paired (fun t y => SqT K H t [.int (y.1 : Int), .int (y.2 : Int)]) ts ys) (k : Q (.bl (!decide (p ∈ ys))) H) : rNotInII K (.ref a) (.ref b) H Q := ⟨a, b, p, ts, ys, rfl, rfl, h1, h2, h3, k⟩
theorem room65 {k : Nat} {A : Around} (r : Room k A) : A.units + 65 < cLine := by have := r.un; omega
end Lv

set_option Elab.async false
set_option linter.all false
set_option maxRecDepth 100000
set_option maxHeartbeats 4000000
namespace Lv
open PySem PySem.Spec PyProof.Rows L2 SX
/-! text[::k], text[a::k]: some letters of it -/
theorem pick_subI (l : List Nat) : ∀ (ps : List Nat) (k : Nat), ps.Pairwise (· < ·) → (∀ p ∈ ps, k ≤ p) → (ps.filterMap fun p => l[p]?).Sublist (l.drop k)
  | [], k, _, _ => List.nil_sublist _
  | p :: ps, k, up, h => by
    obtain ⟨u1, u2⟩ := List.pairwise_cons.mp up
    have ih := pick_subI l ps (p + 1) u2 fun q hq => u1 q hq
    have hk := h p List.mem_cons_self
    have sd : (l.drop p).Sublist (l.drop k) := by
      have : l.drop p = (l.drop k).drop (p - k) := by rw [List.drop_drop]; congr 1; omega
      rw [this]; exact List.drop_sublist _ _
    rw [List.filterMap_cons]
    by_cases hp : p < l.length
    · rw [List.getElem?_eq_getElem hp]
      refine List.Sublist.trans ?_ sd
      rw [List.drop_eq_getElem_cons hp]
      exact ih.cons₂ _
    · rw [List.getElem?_eq_none (by omega)]
      exact ih.trans ((by rw [← List.drop_drop]; exact List.drop_sublist _ _ : (l.drop (p + 1)).Sublist (l.drop p)).trans sd)
theorem range_up {st a : Int} (hs : 0 < st) (ha : 0 ≤ a) (b : Int) : (PySem.sliceRange a b st).Pairwise (· < ·) := by
  unfold PySem.sliceRange
  rw [List.pairwise_map]
  refine List.pairwise_lt_range.imp fun {i j} h => ?_
  have h1 : st * (i : Int) < st * (j : Int) := Int.mul_lt_mul_of_pos_left (by omega) hs
  have h2 : 0 ≤ st * (i : Int) := Int.mul_nonneg (by omega) (by omega)
  omega
theorem idx_up {st : Int} (hs : 0 < st) (lo : Option Int) (n : Nat) : (Builtin.Str.strSliceIndices lo none st n).Pairwise (· < ·) := by
  unfold Builtin.Str.strSliceIndices
  refine range_up hs ?_ _
  cases lo with
  | none => simp [hs]
  | some i => simp only [show st > 0 from hs, if_true]; omega
def tStepS (te : TE) : TE := fun σ H Q => te σ H fun x H1 => ∃ l : List Nat, x = .str (S l) ∧ l.length ≤ sizeLine ∧ ∀ w : List Nat, w.Sublist l → Q (.str (S w)) H1
theorem pe_stepG {X : Cx} {e : Expr} {te : TE} {k : Nat} {st : Int} {p1 p3 pos : Pos} {lo : Option Expr} {vlo : Option Int} {tl : TO} (hs : 1 < st) (he : PE X e te) (hlo : PO X lo tl) (htl : ∀ σ H (R : Option Int → Hp → Prop), R vlo H → tl σ H R) : PE X (.Subscript e (.Slice lo none (some (.Constant (.int st) k p1)) p3) pos) (tStepS te) := by
  refine ⟨fun pins s σ H Q I h => ?_⟩
  refine Subscript_ (thn (he.run pins s σ H _ I h) fun v s1 ⟨x, H1, I1, r1, q1⟩ => ?_)
  obtain ⟨l, rfl, hz, q⟩ := q1
  obtain ⟨t, rfl⟩ := r1
  have hst : PO X (some (.Constant (.int st) k p1)) (tPart (tC (.int st))) := po_some pe_int
  refine wpAny_Slice (thn (hlo.run pins s1 σ H1 (fun o H2 => o = vlo ∧ H2 = H1) I1 (htl _ _ _ ⟨rfl, rfl⟩)) fun vl s2 ⟨lo', H2, I2, pl, el, e2⟩ => ?_)
  subst el e2
  refine thn (po_none.run pins s2 σ H2 (fun o H3 => o = none ∧ H3 = H2) I2 ⟨rfl, rfl⟩) fun vu s3 ⟨u, H3, I3, pu, eu, e3⟩ => ?_
  subst eu e3
  refine thn (hst.run pins s3 σ H3 (fun o H4 => o = some st ∧ H4 = H3) I3 ⟨st, rfl, rfl, rfl⟩) fun vs s4 ⟨o, H4, I4, ps, eo, e4⟩ => ?_
  subst eo e4
  have I5 : Inv X pins σ H4 { s4 with heap := s4.heap.push { cls := .type "slice", data := .fields #[vl, vu, vs] } } := I4.kept (t' := s4.toks) fun b ob q => Heap.get?_push_of_some _ q
  obtain ⟨a1, rfl, e1⟩ := IsPart.raw pl
  obtain ⟨a2, rfl, e2⟩ := IsPart.raw pu
  obtain ⟨a3, rfl, e3⟩ := IsPart.raw ps
  show wpAny (model X.prog X.w) X.A (subscriptTail e (.Slice lo none (some (.Constant (.int st) k p1)) p3) (.str (S l) t) (.ref s4.heap.objs.size)) (EP X pins σ Q) X.xe { s4 with heap := s4.heap.push { cls := .type "slice", data := .fields #[partValue a1, partValue a2, partValue a3] } }
  refine tail_any (ops := [.str (S l) t, .ref s4.heap.objs.size]) (typeIs_str _ _ _) (F.slot_str_getitem.lookup) ?_ (by with_unfolding_all rfl)
  have e3' : (a3.map (·.1)).getD 1 = st := by rw [e3]; rfl
  refine wpAny_getItem_str_slice (l := a1) (u := a2) (st := a3) ⟨_, Heap.get?_push_size _ rfl, rfl, rfl⟩ (by rw [e3']; exact beq_eq_false_iff_ne.mpr (by omega)) ?_
  unfold sliceMade
  rw [if_neg (by rw [e3']; simp; omega)]
  have ep : ((slicePicked (S l) a1 a2 a3).filterMap ((S l).cps[·]?)).Sublist l := by
    unfold slicePicked
    rw [e3', e1, e2, S_len]
    have := pick_subI l _ 0 (idx_up (st := st) (by omega) lo' l.length) (fun _ _ => Nat.zero_le _)
    simpa using this
  generalize ((slicePicked (S l) a1 a2 a3).filterMap ((S l).cps[·]?)) = w at ep
  refine ⟨?_, .str (S w), H4, I5.tok _, ⟨_, rfl⟩, q w ep⟩
  show (S w).length ≤ sizeLine
  rw [S_len]
  exact Nat.le_trans ep.length_le hz
theorem pe_step0 {X : Cx} {e : Expr} {te : TE} {k : Nat} {st : Int} {p1 p3 pos : Pos} (hs : 1 < st) (he : PE X e te) : PE X (.Subscript e (.Slice none none (some (.Constant (.int st) k p1)) p3) pos) (tStepS te) := pe_stepG (vlo := none) hs he po_none fun _ _ _ h => h
theorem pe_step1 {X : Cx} {e : Expr} {te : TE} {k k' : Nat} {st a : Int} {p1 p2 p3 pos : Pos} (hs : 1 < st) (he : PE X e te) : PE X (.Subscript e (.Slice (some (.Constant (.int a) k' p2)) none (some (.Constant (.int st) k p1)) p3) pos) (tStepS te) := pe_stepG (vlo := some a) hs he (po_some pe_int) fun _ _ _ h => ⟨a, rfl, h⟩
theorem i_stepS {te : TE} {σ : L2.St} {H : Hp} {Q : VK} (h : te σ H fun x H1 => ∃ l : List Nat, x = .str (S l) ∧ l.length ≤ sizeLine ∧ ∀ w : List Nat, w.Sublist l → Q (.str (S w)) H1) : tStepS te σ H Q := h
/-! lists of truths compared -/
theorem dp_bls {K : PySem.W.Frag} {H : Hp} : ∀ bs : List Bool, DpAll K H (bs.map V.bl) (bs.map PyData.bool)
  | [] => .nil
  | b :: bs => .cons (.bl b) (dp_bls bs)
theorem eqv_bls : ∀ ns ms : List Bool, PyData.eqvAll (ns.map PyData.bool) (ms.map PyData.bool) = decide (ns = ms)
  | [], [] => by simp [PyData.eqvAll]
  | [], _ :: _ => by simp [PyData.eqvAll]
  | _ :: _, [] => by simp [PyData.eqvAll]
  | n :: ns, m :: ms => by
    simp only [List.map_cons, PyData.eqvAll, PyData.eqv, eqv_bls ns ms, List.cons.injEq]
    cases n <;> cases m <;> simp
theorem shaped_bls (bs : List Bool) : SeqAt.shaped (.list (bs.map PyData.bool)) = true := (Shp.lst (n := 0) fun d hd => by
  obtain ⟨b, _, rfl⟩ := List.mem_map.mp hd
  exact ⟨by simp [PyData.canLay0], by simp [PyData.depth]⟩).ok (by decide)
def r2LB (K : PySem.W.Frag) (g : List Bool → List Bool → Bool) : R2 := fun x y H Q => ∃ (p q : Addr) (ns ms : List Bool), x = .ref p ∧ y = .ref q ∧ SqL K H p (ns.map V.bl) ∧ SqL K H q (ms.map V.bl) ∧ Q (.bl (g ns ms)) H
abbrev rEqLB (K : PySem.W.Frag) : R2 := r2LB K fun a b => decide (a = b)
abbrev rNeLB (K : PySem.W.Frag) : R2 := r2LB K fun a b => !decide (a = b)
theorem op_eqLB {X : Cx} (hu : X.A.units + 64 < cLine) : OpR X (compareOp .Eq) (rEqLB X.K) := by
  intro pins s σ H x y v u Q I rx ry h
  obtain ⟨p, q, ns, ms, rfl, rfl, h1, h2, k⟩ := h
  refine op_eqD hu pins s σ H _ _ v u Q I rx ry ⟨_, _, .lst h1 (dp_bls ns), .lst h2 (dp_bls ms), shaped_bls ns, shaped_bls ms, ?_⟩
  rw [PyData.eqv, eqv_bls]
  exact k
theorem op_neLB {X : Cx} (hu : X.A.units + 64 < cLine) : OpR X (compareOp .NotEq) (rNeLB X.K) := by
  intro pins s σ H x y v u Q I rx ry h
  obtain ⟨p, q, ns, ms, rfl, rfl, h1, h2, k⟩ := h
  refine op_neD hu pins s σ H _ _ v u Q I rx ry ⟨_, _, .lst h1 (dp_bls ns), .lst h2 (dp_bls ms), shaped_bls ns, shaped_bls ms, ?_⟩
  rw [PyData.eqv, eqv_bls]
  exact k
theorem i_r2LB {K : PySem.W.Frag} {g : List Bool → List Bool → Bool} {p q : Addr} {ns ms : List Bool} {H : Hp} {Q : VK} (h1 : SqL K H p (ns.map V.bl)) (h2 : SqL K H q (ms.map V.bl)) (k : Q (.bl (g ns ms)) H) : r2LB K g (.ref p) (.ref q) H Q := ⟨p, q, ns, ms, rfl, rfl, h1, h2, k⟩
theorem isIf {tt : TT} {A B : TS} {D : Ends} {σ : L2.St} {H : Hp} (h : tIfS tt A B D σ H) : tIfS tt A B D σ H := h
end Lv

set_option Elab.async false
set_option linter.all false
set_option maxRecDepth 100000
set_option maxHeartbeats 4000000
namespace Lv
open PySem PySem.Spec PyProof.Rows L2 SX
/-! list(a dict), unpacking a list -/
abbrev rListD : List V → Hp → VK → Prop := fun xs H Q => ∃ (a : Addr) (kvs : List (Key × V)), xs = [.ref a] ∧ Rd H a (.dK kvs) ∧ ∀ p, H p = none → Q (.ref p) (upd H p (.lst (kvs.map fun kv => kV kv.1)))
theorem v_listD {a : Addr} {kvs : List (Key × V)} {H : Hp} {Q : VK} (h1 : H a = some (.dK kvs)) (h : ∀ p H2, H p = none → Same H H2 → H2 p = some (.lst (kvs.map fun kv => kV kv.1)) → Q (.ref p) H2) : rListD [.ref a] H Q := ⟨a, kvs, rfl, .inl h1, fun p n => h p _ n (same_new n) upd_same⟩
theorem i_gUnl {K : PySem.W.Frag} {u : TGs} {σ : L2.St} {H : Hp} {R : L2.St → Hp → Prop} {a : Addr} {xs : List V} {n : Nat} (ha : SqL K H a xs) (hn : xs.length = n) (h : u xs σ H R) : gUnl K n u (.ref a) σ H R := ⟨a, xs, rfl, ha, hn, h⟩
/-! a comprehension in a comprehension -/
theorem rel_free {env : Env} : ∀ {names : List (Str × NameKind)} {x : Str}, names.lookup x = some .cell ∨ names.lookup x = some .free →
    (names.map fun (n, k) => if (k == NameKind.free && env.scope.kind == .function && env.kindOf n == some .cell) then (n, NameKind.cell) else (n, k)).lookup x = some .cell ∨
    (names.map fun (n, k) => if (k == NameKind.free && env.scope.kind == .function && env.kindOf n == some .cell) then (n, NameKind.cell) else (n, k)).lookup x = some .free
  | [], _, h => by simp at h
  | (n, k) :: r, x, h => by
    have ih := @rel_free env r x
    rw [List.lookup_cons] at h
    rw [List.map_cons]
    dsimp only
    by_cases z : (k == NameKind.free && env.scope.kind == .function && env.kindOf n == some .cell) = true
    · rw [if_pos z, List.lookup_cons]
      cases e : x == n with
      | true => exact .inl rfl
      | false => rw [e] at h; exact ih h
    · rw [if_neg z, List.lookup_cons]
      cases e : x == n with
      | true => rw [e] at h; exact h
      | false => rw [e] at h; exact ih h
theorem blkOk_in {N : List Str} {sc scope : Scope} {env : Env} {own : List (Str × Nat)} (h : BlkOk N sc scope own) : BlkOk N (relabel sc env) scope own := ⟨h.kind, h.uniq, h.ix, fun y hy e => rel_free (h.free y hy e), h.own⟩
end Lv

set_option Elab.async false
set_option linter.all false
set_option maxRecDepth 100000
set_option maxHeartbeats 4000000
namespace Lv
open PySem PySem.Spec PyProof.Rows L2 SX
/-! min of two pairs (number, text) -/
section
variable {prog : Program} {w : World} {A : Around} {E : Value → Shared → Prop} {s : Shared}
theorem call_min_twoH {a b : Value} {Q : Value → Shared → Prop}
    (h : wpAny (model prog w) A.in1 (pyIter (.ref s.heap.objs.size)) (fun it s₂ => ∃ I fp wr G n P St H bt, it = .ref I ∧ WalksS prog w A.in1 I fp wr G n P St ∧ St 0 s₂ ∧ (∀ b ∈ fp, b < s₂.heap.objs.size) ∧ 0 < n ∧
      (∀ b o, H.get? b = some o → b ∉ wr) ∧ (∀ b o, H.get? b = some o → s₂.heap.get? b = some o) ∧ CmpIn prog w A.in1 .Lt H P bt ∧ ∀ v s', P (argBest bt (n - 1)) v → Moved wr G s₂ s' → Q v s') E
      { s with heap := s.heap.push { cls := .type "tuple", data := .seq #[a, b] } }) :
    wpAny (model prog w) A (call (.builtin "min") [a, b]) Q E s := by
  have hname : (toString "min" ++ toString ".loop" : String) = "min.loop" := by decide
  refine call_function_tree F.kind_min F.plain_min F.entry_min (F.args_min2 _ _) ?_
  show wpAny _ A.in1 (Builtin.Builtins.bindParams "min" ["key", "default"] 0 ⟨[], []⟩ >>= _) _ _ s
  refine wpAny_bind (wpAny_of_eq (show Builtin.Builtins.bindParams "min" ["key", "default"] 0 ⟨[], []⟩ = pure [none, none] from rfl) ?_)
  show wpAny _ A.in1 (newTuple [a, b] >>= _) _ _ s
  refine wpAny_bind (wpAny_newObj_type ?_)
  refine wpAny_bind (wpAny_mono h (fun it s₂ h₂ => ?_) fun _ _ e => e)
  obtain ⟨I, fp, wr, G, n, P, St, H, bt, rfl, W, hst, hfp, hn, hw, hkeep, hcmp, hQ⟩ := h₂
  refine wpAny_bind (wpAny_newObj_type ?_)
  have hSf : s₂.heap.objs.size ∉ fp := fun hm => Nat.lt_irrefl _ (hfp _ hm)
  rw [hname]
  refine wpAny_pure ⟨plainId_quiet F.plain_min_loop _, codeAny_min_loop_firstH W H hw bt hcmp s₂.heap.objs.size hSf (fresh_in hkeep) _ hn (fun b o e => Heap.get?_push_of_some _ (hkeep b o e)) (W.frame 0 s₂ _ s₂.toks hst (Nat.le_refl _) fun b _ o e => Heap.get?_push_of_some _ e) (Heap.get?_push_size _ rfl) fun v s' hP hm => ?_⟩
  exact hQ v s' hP (Moved.drop_new (tk := s₂.toks) hm (Nat.le_refl _))
theorem min_two_raw {a b : Value} {lt : Nat → Nat → Bool} {Q : Value → Shared → Prop} (hh : A.handled = none) (cmp : CmpIn prog w A.in1 .Lt s.heap (fun i v => (#[a, b] : Array Value)[i]? = some v) lt)
    (hQ : ∀ v h' tk, (#[a, b] : Array Value)[argBest lt 1]? = some v → (∀ b o, s.heap.get? b = some o → h'.get? b = some o) → Q v { s with heap := h', toks := tk }) : wpAny (model prog w) A (call (.builtin "min") [a, b]) Q E s := by
  have hT : (s.heap.push { cls := .type "tuple", data := .seq #[a, b] }).IsTuple s.heap.objs.size #[a, b] := ⟨_, Heap.get?_push_size _ rfl, rfl, 0, rfl⟩
  have hsz : (s.heap.push { cls := .type "tuple", data := .seq #[a, b] }).objs.size = s.heap.objs.size + 1 := Heap.size_push ..
  refine call_min_twoH (wpAny_pyIter_tuple hT ?_)
  refine ⟨_, [_, s.heap.objs.size], [_], _, _, _, _, s.heap, lt, rfl, (Walks.tuple (A := A.in1) hh _ s.heap.objs.size (by rw [hsz]; exact Nat.ne_of_lt (Nat.lt_succ_self _)) #[a, b]).toS, ⟨⟨_, Heap.get?_push_size _ rfl, rfl, rfl⟩, hT.push _⟩, fun c hcm => ?_, by simp, fun c o e z => ?_, fun c o e => Heap.get?_push_of_some _ (Heap.get?_push_of_some _ e), cmp, fun v s' hv hm => ?_⟩
  · show c < ((s.heap.push _).push _).objs.size
    rw [Heap.size_push, hsz]
    rcases List.mem_cons.mp hcm with rfl | hcm
    · rw [hsz]; exact Nat.lt_succ_self _
    · rw [List.mem_singleton.mp hcm]; exact Nat.lt_succ_of_lt (Nat.lt_succ_self _)
  · have := Heap.lt_size e
    rw [List.mem_singleton.mp z, hsz] at this
    exact Nat.lt_irrefl _ (Nat.lt_of_succ_lt this)
  · rw [Moved.eq_with hm]
    refine hQ v s'.heap s'.toks hv fun c o e => hm.heap c o (fun z => ?_) (Heap.get?_push_of_some _ (Heap.get?_push_of_some _ e))
    have := Heap.lt_size e
    rw [List.mem_singleton.mp z, hsz] at this
    exact Nat.lt_irrefl _ (Nat.lt_of_succ_lt this)
end
def rMin2IS (K : PySem.W.Frag) : List V → Hp → VK → Prop := fun xs H Q => ∃ (a b : Addr) (i j : Int) (l m : List Nat), xs = [.ref a, .ref b] ∧ SqT K H a [.int i, .str (S l)] ∧ SqT K H b [.int j, .str (S m)] ∧ Q (.ref (if j < i ∨ (j = i ∧ m < l) then b else a)) H
theorem call_min2IS {X : Cx} (hu : X.A.units + 64 < cLine) (hc : X.calm = true) : CallR X (.builtin "min") (rMin2IS X.K) := by
  intro pins s σ H xs us Q I r h
  obtain ⟨a, b, i, j, l, m, rfl, ha, hb, q⟩ := h
  have pr : Paired (fun t (y : Int × List Nat) => SqT X.K H t [.int y.1, .str (S y.2)]) [a, b] [(i, l), (j, m)] := .cons ha (.cons hb .nil)
  obtain ⟨as, ra⟩ := Dp.readsAll I _ _ _ (dp_iss pr) r
  obtain ⟨u, w', rfl, rfl, rfl⟩ := vals2 r
  have cmp := PySem.W.cmpIn_lt (prog := X.prog) (w := X.w) (A := X.A.in1) (s := s) (vs := #[.ref a, .ref b]) (xs := [(i, l), (j, m)].map fun y => isD y.1 y.2) (as := as) (by simpa using ra)
    ⟨fun x hx y hy => by
      obtain ⟨x', _, rfl⟩ := List.mem_map.mp hx
      obtain ⟨y', _, rfl⟩ := List.mem_map.mp hy
      exact alike_isD _ _ _ _, fun x hx z => by
      obtain ⟨x', _, rfl⟩ := List.mem_map.mp hx
      cases z⟩ (by
      have : PyData.depthAll ([(i, l), (j, m)].map fun y => isD y.1 y.2) ≤ 1 := depth_of _ fun d hd => by
        obtain ⟨x', _, rfl⟩ := List.mem_map.mp hd
        simp [PyData.depth, PyData.depthAll]
      have e : X.A.in1.units = X.A.units + 1 := rfl
      omega)
  refine min_two_raw (I.ok.hd hc) cmp fun v h' tk hv hk => ?_
  refine ⟨.ref (if j < i ∨ (j = i ∧ m < l) then b else a), H, I.kept hk, ?_, q⟩
  have e1 : PySem.W.dataLt (isD j m) (isD i l) = decide (j < i ∨ (j = i ∧ m < l)) := lt_isD _ _ _ _
  by_cases z : j < i ∨ (j = i ∧ m < l)
  · have e2 : argBest (fun i_1 j_1 => PySem.W.dataLt (([(i, l), (j, m)].map fun y => isD y.1 y.2).getD i_1 .none) (([(i, l), (j, m)].map fun y => isD y.1 y.2).getD j_1 .none)) 1 = 1 := by
      show (if PySem.W.dataLt (isD j m) (isD i l) = true then 1 else 0) = 1
      rw [e1, decide_eq_true z]; rfl
    rw [e2] at hv
    cases hv
    rw [if_pos z]
    rfl
  · have e2 : argBest (fun i_1 j_1 => PySem.W.dataLt (([(i, l), (j, m)].map fun y => isD y.1 y.2).getD i_1 .none) (([(i, l), (j, m)].map fun y => isD y.1 y.2).getD j_1 .none)) 1 = 0 := by
      show (if PySem.W.dataLt (isD j m) (isD i l) = true then 1 else 0) = 0
      rw [e1, decide_eq_false z]; rfl
    rw [e2] at hv
    cases hv
    rw [if_neg z]
    rfl
theorem i_min2IS {K : PySem.W.Frag} {a b : Addr} {i j : Int} {l m : List Nat} {H : Hp} {Q : VK} (ha : SqT K H a [.int i, .str (S l)]) (hb : SqT K H b [.int j, .str (S m)]) (q : Q (.ref (if j < i ∨ (j = i ∧ m < l) then b else a)) H) : rMin2IS K [.ref a, .ref b] H Q := ⟨a, b, i, j, l, m, rfl, ha, hb, q⟩
end Lv

set_option Elab.async false
set_option linter.all false
set_option maxRecDepth 100000
set_option maxHeartbeats 2000000
/-! errors: caught, kept behind the suite, asked -/
namespace Lv
open PySem PySem.Spec PyProof.Rows L2 SX
section
variable {X : Cx} {pins : List (Addr × Obj)} {σ : L2.St} {H : Hp} {sI s' : Shared} {B : Heap}
/-- an error that landed is tracked from now on -/
theorem inv_cg {a : Addr} {oe : Obj} {vs : Array Value} {cls : Value} (I : Inv X pins σ H sI) (nb : ∀ b o, sI.heap.get? b = some o → b ∉ frs X.stack → B.get? b = some o) (st : B.StaysIn s'.heap) (up : sI.heap.UpToSlots s'.heap)
    (os : s'.os = sI.os) (ag : AllBare s'.gens) (hB : B.get? a = none) (nfr : a ∉ frs X.stack) (he : s'.heap.get? a = some oe) (hz : Zc cls none oe) (hd : oe.data = .fields vs) (na : H a = none) : Inv X pins σ (upd H a (CgO cls a)) s' := by
  have aI : sI.heap.get? a = none := by
    cases e : sI.heap.get? a with
    | none => rfl
    | some o => rw [nb a o e nfr] at hB; cases hB
  have slot : ∀ b ∈ frs X.stack, ∀ o, sI.heap.get? b = some o → ∃ sl, s'.heap.get? b = some { o with slots := sl } := fun b hb o e => by
    obtain ⟨_, o2, e2, nf⟩ := I.stack.mem hb
    rw [e] at e2
    cases e2
    exact up b o e nf
  have nea : ∀ b o, sI.heap.get? b = some o → b ≠ a := fun b o e z => by rw [z, aI] at e; cases e
  have U : Un (frs X.stack) [] H (upd H a (CgO cls a)) sI.heap s'.heap := {
    keep := fun b o e _ hb _ => st b o (nb b o e hb)
    slot := fun b o e _ hb _ => slot b hb o e
    free := fun b o e n _ => by rw [upd_ne (nea b o e)]; exact n
    there := fun b o e _ => by
      by_cases hb : b ∈ frs X.stack
      · exact (slot b hb o e).elim fun sl q => ⟨_, q⟩
      · exact ⟨o, st b o (nb b o e hb)⟩
    tups := fun b xs q => by rw [upd_ne (ne_of_none q na)]; exact q
    frzs := fun b o xs q => by rw [upd_ne (ne_of_none q na)]; exact q
    tbls := fun b ps q => ⟨#[], by rw [upd_ne (ne_of_none q na), q]; simp⟩ }
  exact I.call' os U (((I.inGround nb).kept st).laidN (fun _ _ q => q) na (cgO_ok he hz hd)) ag fun _ z => nomatch z
theorem inv_suite {s : Shared} (I : Inv X pins σ H s) (a : Addr) : Inv (X.suite a (X.pn ++ pins)) [] σ H s :=
  ⟨I.ok.suite _ _, I.os, I.bare, I.base, I.loc, I.cell, I.free, I.freeC, fun p hp => I.pin p (by rw [List.append_nil] at hp; exact hp), I.hok, I.len⟩
theorem inv_unsuite {s : Shared} {a : Addr} {pn : List (Addr × Obj)} (I : Inv (X.suite a (X.pn ++ pins)) pn σ H s) (ok : X.Ok) : Inv X pins σ H s :=
  ⟨ok, I.os, I.bare, I.base, I.loc, I.cell, I.free, I.freeC, fun p hp => I.pin p (List.mem_append_left _ hp), I.hok, I.len⟩
end
/-- what 'except x as n' wishes: the error is caught, its object is tracked -/
def wAx (K : PySem.W.Frag) (c : Value) (i : Nat) (ts : TS) (D : Ends) : WX := fun cls d σ H => PySem.W.exmOne K cls c = some true ∧ d = none ∧ ∀ a, H a = none →
  ts { nx := fun σ' H' => D.nx (σ'.set i none) H', rt := D.rt, bk := fun σ' H' => D.bk (σ'.set i none) H', ct := fun σ' H' => D.ct (σ'.set i none) H' } (σ.set i (some (.ref a))) (upd H a (CgO cls a))
def tTryAx (K : PySem.W.Frag) (c : Value) (i : Nat) (tb : WX → TS) (ts : TS) : TS := fun D σ H => tb (wAx K c i ts D) D σ H
section
variable {X : Cx} {x n : Str} {c : Value} {i : Nat} {body suite : List Stmt} {b₀ : Stmt} {np pos pos' : Pos} {tb : WX → TS} {ts : TS}
theorem ps_tryAx (hs : X.stack = X.env :: X.outer) (hf : X.env.frame = some X.env.locals) (hN : X.N.Nodup) (hi : X.N[i]? = some n) (hln : X.env.kindOf n = some .local) (hc : Names X x c)
    (hb : ∀ (W : WX) (pn : List (Addr × Obj)) (xe : Value → Shared → Prop), Takes (X.tr pn xe) W → PassesOwn (model X.prog X.w) X.A X.env xe → PSs (X.tr pn xe) body (tb W))
    (hsu : ∀ (a : Addr) (pn : List (Addr × Obj)), PSs (X.suite a pn) (b₀ :: suite) ts) :
    PS X (.Try body [.ExceptHandler (some (.Name x np)) (some n) (b₀ :: suite) pos'] [] [] pos) (tTryAx X.K c i tb ts) := by
  constructor
  intro pins s σ H D I h
  have ok := I.ok
  have hfr : X.A.frames = some (X.env :: X.outer) := hs ▸ ok.frames
  have hn2 : Loc X.env.scope n := .inl hln
  let after : Value → Shared → Prop := fun e s1 => wpAny (model X.prog X.w) X.A (noteFrame e X.env) (fun _ s2 => wpAny (model X.prog X.w) X.A (setFlight e none) (fun _ s3 => wpAny (model X.prog X.w) X.A (handleBy e X.env [.ExceptHandler (some (.Name x np)) (some n) (b₀ :: suite) pos']) (SP X pins D) X.xe s3) X.xe s2) X.xe s1
  have caught : Takes (X.tr (X.pn ++ pins) after) (wAx X.K c i ts D) := by
    rintro u s1 ⟨a, B, sI, pn1, σ1, H1, cls, d, rfl, J1, nb, up, sky, na, os, ag, ex, rfl, go⟩
    have J : Inv X pins σ1 H1 sI := J1.ofTry ok
    have fl0 : Sky B (X.env :: X.outer) a (Zc cls none) X.env.locals s1.heap := hs ▸ sky
    refine Sky.land Zc.steady hfr hf fl0 fun h2 fl2 up2 => ?_
    have J2 : Inv X pins σ1 H1 { s1 with heap := h2 } := J.landed nb fl2.1 (up.trans up2) os ag
    obtain ⟨o2, v2, ho2, hz2, hd2⟩ := fl2.there
    have nfr : a ∉ frs X.stack := fun hm => by
      rw [hs] at hm
      obtain ⟨_, o3, e3, nf⟩ := fl2.2.2.1.mem hm
      rw [ho2] at e3
      cases e3
      exact nf _ hd2
    have lk : PySem.W.Looks (model X.prog X.w) h2 (typeOf (.ref a)) cls := fun A Q E s k q => wpAny_typeOf_ref (k _ _ ho2) (by rw [hz2.1]; exact q)
    have lm := PySem.W.exm_one (M := model X.prog X.w) J2.kIn lk ex
    have name : ∀ {Q : Value → Shared → Prop} {E : Value → Shared → Prop}, Q c { s1 with heap := h2 } → wpAny (model X.prog X.w) (X.A.mark (some (.ref a))) (eval (.Name x np) X.env) Q E { s1 with heap := h2 } := fun {Q E} q => by
      rcases hc with ⟨g1, g2, g3 | ⟨g3, g4, g5⟩⟩
      · exact ld_glob (X := X.suite a (X.pn ++ pins)) (inv_suite J2 a) g1 g3 q g2
      · exact ld_blt (X := X.suite a (X.pn ++ pins)) (inv_suite J2 a) g1 g3 g4 q g5 g2
    refine wpAny_handleBy_cons (codeAny_handlers_test (name (lm.here (codeAny_handlers_suite_as ?_)))) (fun q => by cases q)
    refine HandSPX.lands_againZ fl2 fun h4 fl4 up4 => ?_
    obtain ⟨o4, v4, ho4, hz4, hd4⟩ := fl4.there
    have J4 : Inv X pins σ1 (upd H1 a (CgO cls a)) { s1 with heap := h4 } := inv_cg J nb fl4.1 ((up.trans up2).trans up4) os ag fl4.2.1 nfr ho4 hz4 hd4 na
    refine store_ok (X := X.suite a (X.pn ++ pins)) (v := .ref a) (inv_suite J4 a) hN hi hn2 rfl (fun s5 S5 => ?_) (.inr hln)
    refine wpAny_mono ((hsu a (X.pn ++ pins)).run [] s5 _ _ _ S5 (go a na)) (fun f s6 hsp => ?_) fun _ _ z => z.elim
    have fin : ∀ {σ6 : L2.St} {H6 : Hp} {Q : Shared → Prop}, Inv (X.suite a (X.pn ++ pins)) [] σ6 H6 s6 → (∀ s7, Inv X pins (σ6.set i none) H6 s7 → Q s7) →
        wpAny (model X.prog X.w) X.A (do bindName X.env n .none; unbindBehindTheSuite X.env n pos') (fun _ s7 => Q s7) X.xe s6 := fun {σ6 H6 Q} S6 hq => gone_ok (inv_unsuite S6 ok) hN hi hln hq
    cases f with
    | ret u => exact hsp.elim fun v ⟨σ6, H6, S6, r6, q6⟩ => fin S6 fun s7 J7 => ⟨v, _, H6, J7, r6, q6⟩
    | next => exact hsp.elim fun σ6 ⟨H6, S6, q6⟩ => fin S6 fun s7 J7 => ⟨_, H6, J7, q6⟩
    | brk => exact hsp.elim fun σ6 ⟨H6, S6, q6⟩ => fin S6 fun s7 J7 => ⟨_, H6, J7, q6⟩
    | cont => exact hsp.elim fun σ6 ⟨H6, S6, q6⟩ => fin S6 fun s7 J7 => ⟨_, H6, J7, q6⟩
  refine wpAny_Try_except (wpAny_mono ((hb _ (X.pn ++ pins) after caught PassesOwn.looking).run [] s σ H D (I.toTry _) h) (fun f s1 hsp => ?_) fun e s1 he => he)
  cases f with
  | ret u => exact hsp.elim fun v ⟨σ', H', J', r, q⟩ => ⟨v, σ', H', J'.ofTry ok, r, q⟩
  | next => exact hsp.elim fun σ' ⟨H', J', q⟩ => wpAny_execs_nil ⟨σ', H', J'.ofTry ok, q⟩
  | brk => exact hsp.elim fun σ' ⟨H', J', q⟩ => ⟨σ', H', J'.ofTry ok, q⟩
  | cont => exact hsp.elim fun σ' ⟨H', J', q⟩ => ⟨σ', H', J'.ofTry ok, q⟩
end

/-! raise, calls that may raise -/
def tRaise (E : XK) (C : Addr) : TS := fun _ _ H => E (.ref C) none H
theorem i_raise {E : XK} {C : Addr} {D : Ends} {σ : L2.St} {H : Hp} (h : E (.ref C) none H) : tRaise E C D σ H := h
theorem i_callS {sp : Sp} {W : WX} {t : TA} {σ : L2.St} {H : Hp} {Q : VK} (h : t σ H fun vs H1 => sp vs H1 Q (WE W σ)) : tCallS sp (WE W) t σ H Q := h
theorem pass1 {X : Cx} : Passes (L2.CX X.prog X.w) X E0 := fun _ _ _ _ _ _ _ ⟨_, _, _, _, _, _, _, _, _, _, _, _, z⟩ => z.elim
theorem passE {X : Cx} {E : XK} (tk : Takes X (fun cls d _ H => E cls d H)) : Passes (L2.CX X.prog X.w) X E := passes_call tk fun _ _ _ _ h => h
/-- o.m(e, ..) within a try -/
def tMethT (C : Addr) (m : Str) (sp : Sp) (W : WX) (ta : TE) (t : TA) : TE := fun σ H Q => ta σ H fun x H1 => ∃ a dx fs, x = .ref a ∧ H1 a = some (.ins C dx fs) ∧ fs.lookup m = none ∧ t σ H1 fun vs H2 => sp (x :: vs) H2 Q (WE W σ)
theorem pe_methT {X : Cx} {W : WX} {k : Nat} {f C : Addr} {fd : FuncData} {ps : List Str} {sp : Sp} {m : Str} {pos apos : Pos} {e o : Expr} {es : List Expr} {ta : TE} {t : TA} {pl : Sem Bool} (he : PE X o ta) (c : Cls X.K C) (hm : Meth X.K C m f)
    (F : FnOk X.prog X.w X.K X.mg X.base (L2.CX X.prog X.w) k f fd ps sp) (hr : Room k X.A) (hb : Binds X.K fd ps []) (tk : Takes X W) (ha : PA X (e :: es) t)
    (hst : starEach (e :: es) X.env = (false, eval e X.env) :: starEach es X.env := by rfl) (hpl : (backTo pos (starEach es X.env)).any (·.1) = false := by rfl)
    (ht : eval (.Call (.Attribute o m apos) (e :: es) [] pos) X.env = (do
      let v ← eval o X.env
      standAt apos.atName
      let (g, h) ← holding [v] (getMethod v m pl)
      callWith pos g h (backTo pos (starEach (e :: es) X.env)) (backToKw pos (keywordEach [] X.env))) := by rfl) :
    PE X (.Call (.Attribute o m apos) (e :: es) [] pos) (tMethT C m sp W ta t) := by
  constructor
  intro pins s σ H Q I h
  refine PySem.W.methodCall_KW (pl := pl) (thn (he.run pins s σ H _ I h) fun u s1 z => ?_) ht
  obtain ⟨x, H1, I1, rx, a, dx, fs, rfl, ea, l, q⟩ := z
  cases (show u = Value.ref a from rx)
  refine getmeth_ok I1 ea c hm l (PySem.W.callWith_K (first := [.ref a]) (h₀ := X.base) I.ok.mod.kin hm.kp (thn (ha.run pos pins s1 σ H1 _ I1 q) fun us s2 z2 => ?_) hst hpl)
  obtain ⟨vs, H2, I2, r, q2⟩ := z2
  exact ⟨I2.kIn, run_fnS (us := .ref a :: us) (vs := .ref a :: vs) F hr hb (passAt tk σ) I2 (.cons rfl r) q2⟩
/-- ValueError('..') as a thing -/
def tVE : TE := fun _ H Q => ∀ a, H a = none → Q (.ref a) (upd H a (CgO (.type "ValueError") a))
theorem pe_ve {X : Cx} {x m : Str} {j : Nat} {p p2 pos : Pos} (hg : Gl X x) (hm : X.mg x = none) (hv : bootBuiltins x = some (.type "ValueError")) (hn : x ≠ "__name__" := by decide) (hdb : (x == ("__debug__" : Str)) = false := by decide) :
    PE X (.Call (.Name x p) [.Constant (.str m) j p2] [] pos) tVE := by
  constructor
  intro pins s σ H Q I h
  refine wpAny_mono (pmk_exbS exb_ValueError hg hm hv hn hdb pins s σ H (fun cls d H' => cls = .type "ValueError" ∧ d = none ∧ H' = H) I ⟨rfl, rfl, rfl⟩) (fun u s' z => ?_) fun _ _ z => z
  obtain ⟨a, oe, vs, sI, H', cls, d, rfl, J, k, hne, ha, hz, hd, h1, na, os, ag, r, rfl, rfl, rfl⟩ := z
  exact ⟨.ref a, upd H' a (CgO (.type "ValueError") a), J.call' (ch := []) os (Un.laidN k hne na) (J.hok.laidN k na (cgO_ok ha hz hd)) ag (fun _ z => nomatch z), rfl, h a na⟩
theorem v_ve {σ : L2.St} {H : Hp} {Q : VK} (h : ∀ a H', H a = none → Same H H' → H' a = some (CgO (.type "ValueError") a) → Q (.ref a) H') : tVE σ H Q := fun a na => h a _ na (same_new na) upd_same
/-! the kinds of things -/
/-- isinstance(x, U) tells b -/
def Kd (K : PySem.W.Frag) (H : Hp) (x : V) (U : String) (b : Bool) : Prop := ∃ t, Ty2 K H x t ∧ PySem.W.kitOne K t (.type U) = some b
theorem i_kd {K : PySem.W.Frag} {H : Hp} {x : V} {U : String} {b : Bool} {Q : VK} (h : Kd K H x U b) (q : Q (.bl b) H) : rIs1 K [x, .ty U] H Q := h.elim fun t z => ⟨x, _, t, _, b, rfl, .ty U, z.1, z.2, q⟩
theorem Kd.same {K : PySem.W.Frag} {H H' : Hp} {x : V} {U : String} {b : Bool} (h : Kd K H x U b) (s : Same H H') : Kd K H' x U b := by
  obtain ⟨t, ty, e⟩ := h
  refine ⟨t, ?_, e⟩
  cases ty with
  | exc q c => exact .exc (s _ _ q) c
  | of q =>
    refine .of ?_
    cases q with
    | base z =>
      refine .base ?_
      cases z with
      | non => exact .non
      | bl z => exact .bl z
      | int z => exact .int z
      | str z => exact .str z
      | flt z => exact .flt z
      | lst z => exact .lst (s _ _ z)
      | frz z => exact .frz (s _ _ z)
      | tup z => exact .tup (s _ _ z)
      | dK z => exact .dK (s _ _ z)
      | dT z => exact .dT (s _ _ z)
      | ins z a1 a2 a3 a4 a5 => exact .ins (s _ _ z) a1 a2 a3 a4 a5
    | byt z => exact .byt z
    | set z => exact .set (s _ _ z)
    | kList z c => exact .kList z c
    | kTuple z c => exact .kTuple z c
    | kDict z c => exact .kDict z c
    | fTuple z => exact .fTuple (s _ _ z)
    | fDict z => exact .fDict (s _ _ z)
theorem kd_of {K : PySem.W.Frag} {H : Hp} {x : V} {T U : String} {b : Bool} (t : TyOf K H x (.type T)) (h : kitB T U = some b) : Kd K H x U b := ⟨_, .of (.base t), kit_ty h⟩
theorem kd_ve {K : PySem.W.Frag} {H : Hp} {a : Addr} {U : String} {b : Bool} (e : H a = some (CgO (.type "ValueError") a)) (h : kitB "ValueError" U = some b) : Kd K H (.ref a) U b := ⟨_, .exc e .ve, kit_ty h⟩
/-! the program's errors: er 0 LeaveError, 1 NoCommand, 2 NoLetter, 3 NoLetters, 4 NoPlace, 5 NoRow, 6 NoText -/
structure ErrC (K : PySem.W.Frag) (er : Nat → Addr) (i : Nat) : Prop where
  xC : PySem.W.excIn K (er i) [.type "ValueError", .type "Exception", .type "BaseException", .type "object"] "ValueError.__new__" = true
  kC : PySem.W.keepIn K (.ref (er i)) = true
  bC : PySem.W.subIn K (.ref (er i)) (.type "BaseException") = some true
  tC : PySem.W.typeIn K (.ref (er i)) = some (.type "type")
  cC : ExcC K (er i)
  eC : PySem.W.exmOne K (.ref (er i)) (.ref (er 0)) = some true
  vC : PySem.W.kitOne K (.ref (er i)) (.type "ValueError") = some true
  kk : ∀ j, 1 ≤ j → j ≤ 6 → PySem.W.kitOne K (.ref (er i)) (.ref (er j)) = some (decide (i = j))
section
variable {K : PySem.W.Frag}
theorem kit_own {C D : Addr} {b : Bool} (h1 : PySem.W.isClsIn K D = true) (h2 : PySem.W.typeIn K (.ref D) = some (.type "type")) (h3 : PySem.W.subIn K (.ref C) (.ref D) = some b) (h4 : PySem.W.subIn K (.ref C) (.ref C) = some true) : PySem.W.kitOne K (.ref C) (.ref D) = some b := by
  unfold PySem.W.kitOne
  by_cases z : (Value.ref C == Value.ref D) = true
  · rw [if_pos z]
    cases Value.ref.inj (beq_iff_eq.mp z)
    rw [h3] at h4
    exact h4.symm
  · rw [if_neg z]
    show (if ((PySem.W.clsIn K D).isSome && PySem.W.typeIn K (.ref D) == some (.type "type")) = true then _ else _) = _
    rw [if_pos (by rw [show (PySem.W.clsIn K D).isSome = true from h1, h2] <;> rfl)]
    exact h3
theorem kk_of {er : Nat → Addr} {i : Nat} (h1 : PySem.W.kitOne K (.ref (er i)) (.ref (er 1)) = some (decide (i = 1))) (h2 : PySem.W.kitOne K (.ref (er i)) (.ref (er 2)) = some (decide (i = 2))) (h3 : PySem.W.kitOne K (.ref (er i)) (.ref (er 3)) = some (decide (i = 3)))
    (h4 : PySem.W.kitOne K (.ref (er i)) (.ref (er 4)) = some (decide (i = 4))) (h5 : PySem.W.kitOne K (.ref (er i)) (.ref (er 5)) = some (decide (i = 5))) (h6 : PySem.W.kitOne K (.ref (er i)) (.ref (er 6)) = some (decide (i = 6))) : ∀ j, 1 ≤ j → j ≤ 6 → PySem.W.kitOne K (.ref (er i)) (.ref (er j)) = some (decide (i = j))
  | 1, _, _ => h1 | 2, _, _ => h2 | 3, _, _ => h3 | 4, _, _ => h4 | 5, _, _ => h5 | 6, _, _ => h6
  | 0, z, _ => absurd z (by omega)
  | n + 7, _, z => absurd z (by omega)
theorem kit_vE {C : Addr} (h : PySem.W.subIn K (.ref C) (.type "ValueError") = some true) : PySem.W.kitOne K (.ref C) (.type "ValueError") = some true := by
  unfold PySem.W.kitOne
  rw [if_neg (show ¬ (Value.ref C == Value.type "ValueError") = true by intro z; cases beq_iff_eq.mp z)]
  have e : PySem.W.kitMeta "ValueError" = true := by decide +kernel
  unfold PySem.W.kitCls
  simp only [e, if_true]
  exact h
end
section
variable {K : PySem.W.Frag} {er : Nat → Addr} {i : Nat} {a : Addr} {H : Hp} {Q : VK}
theorem i_er {j : Nat} (Z : ErrC K er i) (e : H a = some (CgO (.ref (er i)) a)) (h1 : 1 ≤ j) (h2 : j ≤ 6) (q : Q (.bl (decide (i = j))) H) : rIs1 K [.ref a, .ref (er j)] H Q := ⟨_, _, _, _, _, rfl, .own _, .exc e (.own Z.cC), Z.kk j h1 h2, q⟩
theorem i_erV (Z : ErrC K er i) (e : H a = some (CgO (.ref (er i)) a)) (q : Q (.bl true) H) : rIs1 K [.ref a, .ty "ValueError"] H Q := ⟨_, _, _, _, _, rfl, .ty _, .exc e (.own Z.cC), Z.vC, q⟩
theorem kitAny_er (Z : ErrC K er i) : ∀ js : List Nat, (∀ j ∈ js, 1 ≤ j ∧ j ≤ 6) → PySem.W.kitAny K (.ref (er i)) (js.map fun j => .ref (er j)) = some (js.contains i)
  | [], _ => rfl
  | j :: js, h => by
    refine kitAny_cons (Z.kk j (h j List.mem_cons_self).1 (h j List.mem_cons_self).2) (fun z => ?_) fun z => ?_
    · rw [kitAny_er Z js fun j hj => h j (List.mem_cons_of_mem _ hj), List.contains_cons, beq_eq_false_iff_ne.mpr (of_decide_eq_false z), Bool.false_or]
    · rw [List.contains_cons, beq_iff_eq.mpr (of_decide_eq_true z), Bool.true_or]
theorem paired_er : ∀ js : List Nat, Paired ClsV (js.map fun j => V.ref (er j)) (js.map fun j => Value.ref (er j))
  | [] => .nil
  | j :: js => .cons (.own _) (paired_er js)
theorem i_erT {tp : Addr} (js : List Nat) (Z : ErrC K er i) (e : H a = some (CgO (.ref (er i)) a)) (ht : H tp = some (.tup (js.map fun j => V.ref (er j)))) (hj : ∀ j ∈ js, 1 ≤ j ∧ j ≤ 6) (q : Q (.bl (js.contains i)) H) : rIsT K [.ref a, .ref tp] H Q :=
  ⟨_, _, _, _, _, _, rfl, ht, paired_er js, .exc e (.own Z.cC), kitAny_er Z js hj, q⟩
theorem i_tryAx {c : Value} {n : Nat} {tb : WX → TS} {ts : TS} {D : Ends} {σ : L2.St} (h : tb (wAx K c n ts D) D σ H) : tTryAx K c n tb ts D σ H := h
theorem wAx_er {n : Nat} {ts : TS} {D : Ends} {σ : L2.St} (Z : ErrC K er i) (h : ∀ a H', H a = none → Same H H' → H' a = some (CgO (.ref (er i)) a) →
    ts { nx := fun σ' H' => D.nx (σ'.set n none) H', rt := D.rt, bk := fun σ' H' => D.bk (σ'.set n none) H', ct := fun σ' H' => D.ct (σ'.set n none) H' } (σ.set n (some (.ref a))) H') : wAx K (.ref (er 0)) n ts D (.ref (er i)) none σ H :=
  ⟨Z.eC, rfl, fun a na => h a _ na (same_new na) upd_same⟩
end
end Lv

set_option Elab.async false
set_option linter.all false
set_option maxRecDepth 100000
set_option maxHeartbeats 2000000
/-! things that are no place, no row -/
namespace Lv
open PySem PySem.Spec PyProof.Rows L2 SX
/-- what is no whole number below n -/
def BadPl (K : PySem.W.Frag) (H : Hp) (n : Nat) (x : V) : Prop := (∃ i : Int, x = .int i ∧ ¬ (0 ≤ i ∧ i < n)) ∨ (∃ b, x = .bl b) ∨ Kd K H x "int" false
theorem BadPl.same {K : PySem.W.Frag} {H H' : Hp} {n : Nat} {x : V} (h : BadPl K H n x) (s : Same H H') : BadPl K H' n x := h.imp id (·.imp id (·.same s))
/-- isinstance(x, int), isinstance(x, bool), as a whole: not both right -/
theorem BadPl.kd {K : PySem.W.Frag} {H : Hp} {n : Nat} {x : V} (h : BadPl K H n x) : (Kd K H x "int" false) ∨ (Kd K H x "int" true ∧ Kd K H x "bool" true) ∨ (∃ i : Int, x = .int i ∧ ¬ (0 ≤ i ∧ i < n)) := by
  rcases h with h | ⟨b, rfl⟩ | h
  · exact .inr (.inr h)
  · exact .inr (.inl ⟨kd_of (.bl b) (by decide +kernel), kd_of (.bl b) (by decide +kernel)⟩)
  · exact .inl h
section
variable {K : PySem.W.Frag} {H : Hp} {n : Nat}
theorem bad_int {i : Int} (h : ¬ (0 ≤ i ∧ i < n)) : BadPl K H n (.int i) := .inl ⟨i, rfl, h⟩
theorem bad_bl {b : Bool} : BadPl K H n (.bl b) := .inr (.inl ⟨b, rfl⟩)
theorem bad_non : BadPl K H n .non := .inr (.inr (kd_of .non (by decide +kernel)))
theorem bad_str {x : Str} : BadPl K H n (.str x) := .inr (.inr (kd_of (.str x) (by decide +kernel)))
theorem bad_lst {a : Addr} {xs : List V} (h : H a = some (.lst xs)) : BadPl K H n (.ref a) := .inr (.inr (kd_of (.lst h) (by decide +kernel)))
theorem bad_tup {a : Addr} {xs : List V} (h : H a = some (.tup xs)) : BadPl K H n (.ref a) := .inr (.inr (kd_of (.tup h) (by decide +kernel)))
theorem bad_dK {a : Addr} {kvs : List (Key × V)} (h : H a = some (.dK kvs)) : BadPl K H n (.ref a) := .inr (.inr (kd_of (.dK h) (by decide +kernel)))
theorem bad_ve {a : Addr} (h : H a = some (CgO (.type "ValueError") a)) : BadPl K H n (.ref a) := .inr (.inr (kd_ve h (by decide +kernel)))
end
/-! plain data told twice -/
theorem sqT_same {K : PySem.W.Frag} {H H' : Hp} {a : Addr} {xs : List V} (s : Same H H') (h : SqT K H a xs) : SqT K H' a xs := by
  rcases h with (h | ⟨o, h⟩) | h
  · exact .inl (.inl (s _ _ h))
  · exact .inl (.inr ⟨o, s _ _ h⟩)
  · exact .inr h
mutual
theorem Dp.same {K : PySem.W.Frag} {H H' : Hp} (s : Same H H') : ∀ {x : V} {d : PyData}, Dp K H x d → Dp K H' x d
  | _, _, .non => .non
  | _, _, .bl b => .bl b
  | _, _, .int i => .int i
  | _, _, .str x => .str x
  | _, _, .lst h a => .lst (s.seq h) (DpAll.same s a)
  | _, _, .tup h a => .tup (sqT_same s h) (DpAll.same s a)
theorem DpAll.same {K : PySem.W.Frag} {H H' : Hp} (s : Same H H') : ∀ {xs : List V} {ds : List PyData}, DpAll K H xs ds → DpAll K H' xs ds
  | _, _, .nil => .nil
  | _, _, .cons a b => .cons (Dp.same s a) (DpAll.same s b)
end
theorem i_neSame {n : Nat} {K : PySem.W.Frag} {H : Hp} {x y : V} {d : PyData} {Q : VK} (h1 : Dp K H x d) (h2 : Dp K H y d) (hs : Shp n d) (hn : n ≤ 64) (q : Q (.bl false) H) : L2.rNeD K x y H Q := ⟨d, d, h1, h2, hs.ok hn, hs.ok hn, by rw [SeqAt.eqv_refl d hs.1]; exact q⟩
theorem i_eqSame {n : Nat} {K : PySem.W.Frag} {H : Hp} {x y : V} {d : PyData} {Q : VK} (h1 : Dp K H x d) (h2 : Dp K H y d) (hs : Shp n d) (hn : n ≤ 64) (q : Q (.bl true) H) : L2.rEqD K x y H Q := ⟨d, d, h1, h2, hs.ok hn, hs.ok hn, by rw [SeqAt.eqv_refl d hs.1]; exact q⟩
theorem shp_int {n : Nat} (i : Int) : Shp n (.int i) := ⟨by simp [PyData.canLay0], by simp [PyData.depth]⟩
theorem shp_bl {n : Nat} (b : Bool) : Shp n (.bool b) := ⟨by simp [PyData.canLay0], by simp [PyData.depth]⟩
theorem shp_non {n : Nat} : Shp n .none := ⟨by simp [PyData.canLay0], by simp [PyData.depth]⟩
theorem shp_str {n : Nat} {l : List Nat} (h : Chr l) : Shp n (.str (S l)) := ⟨by rw [PyData.canLay0]; exact strOk_S h, by simp [PyData.depth]⟩
/-- lists of lists of numbers -/
def llD (xss : List (List Nat)) : PyData := .list (xss.map dNats)
theorem shp_nats (ns : List Nat) : Shp 1 (dNats ns) := Shp.lst (n := 0) fun d hd => by
  obtain ⟨i, _, rfl⟩ := List.mem_map.mp hd
  exact shp_int i
theorem llD_shp (xss : List (List Nat)) : Shp 2 (llD xss) := Shp.lst fun d hd => by
  obtain ⟨i, _, rfl⟩ := List.mem_map.mp hd
  exact shp_nats i
theorem dp_nats {K : PySem.W.Frag} {H : Hp} {p : Addr} {ns : List Nat} (h : H p = some (.lst (ns.map iv))) : Dp K H (.ref p) (dNats ns) := by
  rw [ivs] at h
  exact .lst (SqL.of1 h) (dp_ints _)
theorem dp_llAll {K : PySem.W.Frag} {H : Hp} : ∀ {ps : List Addr} {xss : List (List Nat)}, Paired (fun p o => H p = some o) ps (xss.map fun ns => HO.lst (ns.map iv)) → DpAll K H (ps.map V.ref) (xss.map dNats)
  | [], [], .nil => .nil
  | _ :: _, _ :: _, .cons h r => .cons (dp_nats h) (dp_llAll r)
theorem dp_ll {K : PySem.W.Frag} {H : Hp} {D : Addr} {ps : List Addr} {xss : List (List Nat)} (hD : H D = some (.lst (ps.map V.ref))) (h : Paired (fun p o => H p = some o) ps (xss.map fun ns => HO.lst (ns.map iv))) : Dp K H (.ref D) (llD xss) := .lst (SqL.of1 hD) (dp_llAll h)
/-- a list of lists of numbers, at D, its lists at ps -/
def TL (H : Hp) (D : Addr) (ps : List Addr) (xss : List (List Nat)) : Prop := H D = some (.lst (ps.map V.ref)) ∧ Paired (fun p o => H p = some o) ps (xss.map fun ns => HO.lst (ns.map iv))
theorem TL.dp {K : PySem.W.Frag} {H : Hp} {D : Addr} {ps : List Addr} {xss : List (List Nat)} (h : TL H D ps xss) : Dp K H (.ref D) (llD xss) := dp_ll h.1 h.2
theorem TL.same {H H' : Hp} {D : Addr} {ps : List Addr} {xss : List (List Nat)} (h : TL H D ps xss) (s : Same H H') : TL H' D ps xss := ⟨s _ _ h.1, paired_imp h.2 fun a _ o z => s _ _ z⟩
theorem TL.but {H H' : Hp} {D : Addr} {ps : List Addr} {xss : List (List Nat)} {k : Addr} (h : TL H D ps xss) (s : But k H H') (n1 : D ≠ k) (n2 : ∀ p ∈ ps, p ≠ k) : TL H' D ps xss := ⟨s.at h.1 n1, paired_imp h.2 fun a ha o z => s.at z (n2 a ha)⟩
theorem TL.butN {H0 H H' : Hp} {D : Addr} {ps : List Addr} {xss : List (List Nat)} {k : Addr} (h : TL H D ps xss) (s : But k H H') (hk : ∃ o, H0 k = some o) (n1 : H0 D = none) (n2 : ∀ p ∈ ps, H0 p = none) : TL H' D ps xss := by
  obtain ⟨o, hk⟩ := hk
  exact h.but s (fun z => by rw [z, hk] at n1; cases n1) fun p hp z => by have := n2 p hp; rw [z, hk] at this; cases this
end Lv

set_option Elab.async false
set_option linter.all false
set_option maxRecDepth 100000
set_option maxHeartbeats 2000000
/-! text.upper() of small letters, tuple(text), str(number) -/
namespace Lv
open PySem PySem.Spec PyProof.Rows L2 SX
theorem up_one : ∀ k, k < 26 → Unicode.upperOf (97 + k) = [65 + k] := by decide +kernel
def upL (l : List Nat) : List Nat := l.map fun c => c - 32
theorem upper_S {l : List Nat} (h : Low l) : Txt.upper (S l) = S (upL l) := by
  have e : (Array.mapIdx (fun (_ : Nat) c => (Unicode.upperOf c).toArray) l.toArray).flatten = (upL l).toArray := by
    apply Array.ext'
    rw [Array.toList_flatten, Array.toList_mapIdx]
    show (List.map Array.toList (List.mapIdx (fun (_ : Nat) c => (Unicode.upperOf c).toArray) l)).flatten = upL l
    induction l with
    | nil => rfl
    | cons c l ih =>
      have hc := h c List.mem_cons_self
      have e1 : Unicode.upperOf c = [c - 32] := by
        have := up_one (c - 97) (by omega)
        rw [show 97 + (c - 97) = c by omega, show 65 + (c - 97) = c - 32 by omega] at this
        exact this
      rw [List.mapIdx_cons, List.map_cons, List.flatten_cons, e1]
      show [c - 32] ++ _ = (c - 32) :: upL l
      rw [List.singleton_append]
      congr 1
      exact ih fun d hd => h d (List.mem_cons_of_mem _ hd)
  show (⟨placed (S l) fun _ c => Unicode.upperOf c⟩ : Str) = S (upL l)
  unfold placed
  exact congrArg Str.mk e
def rUpper : V → List V → Hp → VK → Prop := fun x xs H Q => ∃ l : List Nat, x = .str (S l) ∧ xs = [] ∧ l.length ≤ 100000 ∧ Low l ∧ Q (.str (S (upL l))) H
def rTupS : List V → Hp → VK → Prop := fun xs H Q => ∃ l : List Nat, xs = [.str (S l)] ∧ l.length ≤ 1000000 ∧ ∀ p, H p = none → Q (.ref p) (upd H p (.tup (l.map vc)))
def rStrI : List V → Hp → VK → Prop := fun xs H Q => ∃ i : Int, xs = [.int i] ∧ i.natAbs.log2 < 1920 ∧ Q (.str (toString i)) H
section
variable {X : Cx}
theorem mt_upperL : MtR X "str.upper" rUpper := by
  intro pins s σ H x xs v us Q I rx r h
  obtain ⟨l, rfl, rfl, hl, lw, q⟩ := h
  refine mt_upper pins s σ H _ _ v us Q I rx r ⟨_, rfl, rfl, by rw [S_len]; omega, ?_⟩
  rw [upper_S lw]
  exact q
theorem call_tupS (hc : X.calm = true) : CallR X (.type "tuple") rTupS := by
  intro pins s σ H xs us Q I r h
  obtain ⟨l, rfl, hl, q⟩ := h
  obtain ⟨u, rfl, rx⟩ := vals1 r
  obtain ⟨t, rfl⟩ := rx
  refine PySem.call_tuple_str (hsz := le_line (by simpa using hl)) (I.ok.hd hc) (S l) t fun h' tk acc hk hacc => ?_
  have k2 : ∀ b o, s.heap.get? b = some o → (h'.push { cls := .type "tuple", data := .seq acc }).get? b = some o := fun b o e => Heap.get?_push_of_some _ (hk b o e)
  have hn : s.heap.get? h'.objs.size = none := by
    cases e : s.heap.get? h'.objs.size with
    | none => rfl
    | some o => exact absurd (Heap.lt_size (hk _ _ e)) (Nat.lt_irrefl _)
  have hH := I.hok.gone hn
  refine ⟨.ref h'.objs.size, upd H h'.objs.size (.tup (l.map vc)), I.laidN (t' := tk) k2 hn hH (show ObjOk X.prog X.w _ _ _ (.tup (l.map vc)) from ⟨?_, acc.toList, ?_, ?_⟩), rfl, q _ hH⟩
  · rw [List.length_map]; exact le_line hl
  · have el : acc.toList.length = l.length := by
      have := hacc.1
      rw [Array.length_toList, this]
      simp
    refine vals_of_at (by rw [List.length_map, el]) fun j x w h1 h2 => ?_
    obtain ⟨d0, tk2, e0, e⟩ := hacc.2 j w (by rw [← Array.getElem?_toList]; exact h2)
    rw [List.getElem?_map] at h1
    have e2 : l[j]? = some d0 := by simpa using e0
    rw [e2] at h1
    have h1 : vc d0 = x := Option.some.inj h1
    subst h1
    exact ⟨tk2, e⟩
  · exact ⟨_, Heap.get?_push_size _ rfl, rfl, 0, by rw [Array.toArray_toList]⟩
theorem call_strI : CallR X (.type "str") rStrI := fun pins s σ H xs us Q I r h => call_str_int pins s σ H xs us Q I r h
end
theorem v_tupS {l : List Nat} {H : Hp} {Q : VK} (hl : l.length ≤ 1000000) (h : ∀ p H2, H p = none → Same H H2 → H2 p = some (.tup (l.map vc)) → Q (.ref p) H2) : rTupS [.str (S l)] H Q := ⟨l, rfl, hl, fun p n => h p _ n (same_new n) upd_same⟩
theorem i_upper {l : List Nat} {H : Hp} {Q : VK} (hl : l.length ≤ 100000) (lw : Low l) (q : Q (.str (S (upL l))) H) : rUpper (.str (S l)) [] H Q := ⟨l, rfl, rfl, hl, lw, q⟩
theorem upL_chr {l : List Nat} (h : Low l) : Chr (upL l) := fun c hc => by
  obtain ⟨d, hd, rfl⟩ := List.mem_map.mp hc
  have := h d hd
  show d - 32 < _
  omega
theorem upL_no {l : List Nat} (h : Low l) (n : l ≠ []) : ¬ Low (upL l) := fun z => by
  cases l with
  | nil => exact n rfl
  | cons c l =>
    have h1 := h c List.mem_cons_self
    have h2 := z (c - 32) List.mem_cons_self
    omega
/-- other signs -/
def oddSigns : List Nat := [32, 33, 35, 36, 38, 39, 40, 41, 42, 43, 44, 45, 46, 47, 48, 49, 50, 51, 52, 53, 54, 55, 56, 57, 58, 59, 60, 61, 62, 63, 64, 65, 66, 67, 68, 69, 70, 71, 72, 73, 74, 75, 76, 77, 78, 79, 80, 81, 82, 83, 84, 85, 86, 87, 88, 89, 90, 91, 93, 94, 95, 96, 123, 124, 125, 126, 10, 34, 92]
theorem odd_no : ∀ c ∈ oddSigns, ¬ (97 ≤ c ∧ c ≤ 122) ∧ c < 1114112 := by decide
def azmSigns : List Nat := 97 :: 122 :: 109 :: oddSigns
theorem cutL_from1 {α : Type} (l : List α) (n : Nat) : cutL l (some ((n : Int) + 1)) none = l.drop (n + 1) := by
  have := cutL_from l (n + 1)
  rw [show ((n + 1 : Nat) : Int) = (n : Int) + 1 by omega] at this
  exact this
end Lv

set_option Elab.async false
set_option linter.all false
set_option maxRecDepth 100000
set_option maxHeartbeats 2000000
/-! numbers as texts, a text parted at blanks -/
namespace Lv
open PySem PySem.Spec PyProof.Rows L2 SX
/-- the words of a text -/
def wds (a : List Nat) : List (List Nat) := TL.spl [32] 0 [] a
def rSplit1 : V → List V → Hp → VK → Prop := fun x xs H Q => ∃ a : List Nat, x = .str (S a) ∧ xs = [.str (S [32])] ∧ a.length ≤ 900000 ∧ ∀ p, H p = none → Q (.ref p) (upd H p (.lst ((wds a).map vs)))
def rIntS : List V → Hp → VK → Prop := fun xs H Q => ∃ a : List Nat, xs = [.str (S a)] ∧ NumText.AllDigits a ∧ a ≠ [] ∧ a.length ≤ 640 ∧ Q (.int ((NumText.digitsVal a : Nat) : Int)) H
section
variable {X : Cx}
theorem mt_split1 : MtR X "str.split" rSplit1 := by
  intro pins s σ H x xs v us Q I rx r h
  obtain ⟨a, rfl, rfl, hl, q⟩ := h
  refine mt_split pins s σ H _ _ v us Q I rx r ⟨_, _, rfl, rfl, by decide, le_line (by rw [S_len]; omega), fun p np => ?_⟩
  rw [split_S (by decide) (by decide), List.map_map]
  exact q p np
theorem call_intS : CallR X (.type "int") rIntS := by
  intro pins s σ H xs us Q I r h
  obtain ⟨a, rfl, hd, hn, hl, q⟩ := h
  exact call_int_str pins s σ H _ us Q I r ⟨S a, _, rfl, int_S (List.all_eq_true.mpr fun c hc => by rw [Bool.and_eq_true, decide_eq_true_eq, decide_eq_true_eq]; exact hd c hc) hn (by omega), by rw [S_len]; exact hl, q⟩
end
theorem v_split1 {a : List Nat} {H : Hp} {Q : VK} (hl : a.length ≤ 900000) (h : ∀ p H2, H p = none → Same H H2 → H2 p = some (.lst ((wds a).map vs)) → Q (.ref p) H2) : rSplit1 (.str (S a)) [.str (S [32])] H Q := ⟨a, rfl, rfl, hl, fun p n => h p _ n (same_new n) upd_same⟩
theorem i_intS {a : List Nat} {H : Hp} {Q : VK} (hd : NumText.AllDigits a) (hn : a ≠ []) (hl : a.length ≤ 640) (q : Q (.int ((NumText.digitsVal a : Nat) : Int)) H) : rIntS [.str (S a)] H Q := ⟨a, rfl, hd, hn, hl, q⟩
theorem i_strN {n : Nat} {H : Hp} {Q : VK} (hn : n < 10 ^ 500) (q : Q (.str (S (TL.numL n))) H) : rStrI [.int (n : Nat)] H Q := by
  refine ⟨_, rfl, ?_, ?_⟩
  · rw [Int.natAbs_natCast]
    by_cases z : n = 0
    · subst z; decide
    · exact (Nat.log2_lt z).mpr (Nat.lt_trans hn (by decide))
  · rw [← num_S] at q
    exact q
/-- numbers written -/
def wrt (ns : List Nat) : List Nat := if ns = [] then [45] else TL.joinL [32] (ns.map TL.numL)
theorem wds_wrt {ns : List Nat} (h : ns ≠ []) : wds (TL.joinL [32] (ns.map TL.numL)) = ns.map TL.numL := by
  unfold wds
  refine TL.spl_join (by simpa using h) fun p hp => ?_
  obtain ⟨n, _, rfl⟩ := List.mem_map.mp hp
  exact TL.numL_free (.inl (by decide))
theorem join_len : ∀ (ps : List (List Nat)), (TL.joinL [32] ps).length ≤ (ps.map List.length).sum + ps.length
  | [] => by simp [TL.joinL]
  | [p] => by simp [TL.joinL]
  | p :: r :: ps => by
    have ih := join_len (r :: ps)
    simp only [TL.joinL, List.length_append, List.map_cons, List.sum_cons, List.length_cons, List.length_nil] at ih ⊢
    omega
theorem sum_len {ps : List (List Nat)} {k : Nat} (h : ∀ p ∈ ps, p.length ≤ k) : (ps.map List.length).sum ≤ ps.length * k := by
  induction ps with
  | nil => simp
  | cons p ps ih =>
    have h1 := h p List.mem_cons_self
    have h2 := ih fun q hq => h q (List.mem_cons_of_mem _ hq)
    simp only [List.map_cons, List.sum_cons, List.length_cons, Nat.add_mul, Nat.one_mul]
    omega
theorem numL_cut (n : Nat) : TL.numL n ≠ [] := TL.numL_ne n
theorem numL_chr (n : Nat) : ∀ c ∈ TL.numL n, 48 ≤ c ∧ c ≤ 57 := TL.numL_digits n
/-- a number's text begins with 0 just where it is 0's -/
theorem numL_head : ∀ n : Nat, (TL.numL n).head? = some 48 → TL.numL n = [48] := by
  intro n
  induction n using Nat.strongRecOn with
  | ind n ih =>
    intro h
    by_cases z : n < 10
    · rw [TL.numL_lt z] at h ⊢
      simp at h
      rw [h]
    · rw [TL.numL_step (by omega)] at h
      have hn := TL.numL_ne (n / 10)
      rw [List.head?_append, (List.head?_eq_some_head hn)] at h
      have h : (TL.numL (n / 10)).head? = some 48 := by rw [List.head?_eq_some_head hn]; simpa using h
      have e := ih (n / 10) (by omega) h
      have e2 : n / 10 = 0 := TL.numL_inj (e.trans (TL.numL_lt (by decide : 0 < 10)).symm)
      omega
end Lv

set_option Elab.async false
set_option linter.all false
set_option maxRecDepth 100000
set_option maxHeartbeats 2000000
/-! repr of plain things, dicts of whole numbers too -/
namespace Lv
open PySem PySem.Spec PyProof.Rows L2 SX
/-- data that can be shown: so heavy, so deep at most -/
structure Fn (w k : Nat) (d : PyData) : Prop where
  sh : d.showable = true
  lv : d.leavesShort 1921 = true
  wt : d.weight ≤ w
  dp : d.depth ≤ k
theorem Fn.mono {w k w' k' : Nat} {d : PyData} (h : Fn w k d) (h1 : w ≤ w') (h2 : k ≤ k') : Fn w' k' d := ⟨h.sh, h.lv, Nat.le_trans h.wt h1, Nat.le_trans h.dp h2⟩
theorem fn_non {w k : Nat} : Fn w k .none := ⟨rfl, rfl, by simp [PyData.weight], by simp [PyData.depth]⟩
theorem fn_bl {w k : Nat} {b : Bool} : Fn w k (.bool b) := ⟨rfl, rfl, by simp [PyData.weight], by simp [PyData.depth]⟩
theorem fn_int {w k : Nat} {i : Int} (h : i.natAbs.log2 < w) (hw : w ≤ 1920) : Fn w k (.int i) := by
  refine ⟨?_, ?_, ?_, by simp [PyData.depth]⟩
  · show decide (i.natAbs.log2 < 1920) = true
    exact decide_eq_true (by omega)
  · show decide ((PyData.shown (.int i)).length ≤ 1921) = true
    refine decide_eq_true ?_
    have := int_text_len_1921 (i := i) (by omega)
    exact this
  · rw [PyData.weight]
    split <;> omega
theorem fn_str {w k : Nat} {l : List Nat} (h : Chr l) (hl : l.length ≤ w) : Fn w k (.str (S l)) := by
  refine ⟨rfl, ?_, ?_, by simp [PyData.depth]⟩
  · show ((S l).cps.toList.all fun c => decide (c < 16 ^ 8)) = true
    rw [List.all_eq_true]
    intro c hc
    have := h c hc
    exact decide_eq_true (by omega)
  · rw [PyData.weight]
    simpa using hl
theorem fn_all {w k : Nat} : ∀ {ds : List PyData}, (∀ d ∈ ds, Fn w k d) → PyData.showableAll ds = true ∧ PyData.leavesShortAll 1921 ds = true ∧ PyData.weightAll ds ≤ ds.length * (w + 1) ∧ PyData.depthAll ds ≤ k
  | [], _ => ⟨rfl, rfl, by simp [PyData.weightAll], by simp [PyData.depthAll]⟩
  | d :: ds, h => by
    obtain ⟨a1, a2, a3, a4⟩ := h d List.mem_cons_self
    obtain ⟨b1, b2, b3, b4⟩ := fn_all fun e he => h e (List.mem_cons_of_mem _ he)
    refine ⟨by rw [PyData.showableAll, a1, b1]; rfl, by rw [PyData.leavesShortAll, a2, b2]; rfl, ?_, ?_⟩
    · rw [PyData.weightAll, List.length_cons, Nat.add_mul, Nat.one_mul]
      omega
    · rw [PyData.depthAll]
      omega
theorem fn_lst {w k : Nat} {ds : List PyData} (h : ∀ d ∈ ds, Fn w k d) : Fn (ds.length * (w + 1)) (k + 1) (.list ds) := by
  obtain ⟨a1, a2, a3, a4⟩ := fn_all h
  exact ⟨by rw [PyData.showable]; exact a1, by rw [PyData.leavesShort]; exact a2, by rw [PyData.weight]; exact a3, by rw [PyData.depth]; omega⟩
theorem fn_tup {w k : Nat} {ds : List PyData} (h : ∀ d ∈ ds, Fn w k d) : Fn (ds.length * (w + 1)) (k + 1) (.tuple ds) := by
  obtain ⟨a1, a2, a3, a4⟩ := fn_all h
  exact ⟨by rw [PyData.showable]; exact a1, by rw [PyData.leavesShort]; exact a2, by rw [PyData.weight]; exact a3, by rw [PyData.depth]; omega⟩
def keyD : Key → PyData
  | .inl i => .int i
  | .inr x => .str x
def dkD (ks : List (Key × Int)) : PyData := .dict (ks.map fun p => (keyD p.1, .int p.2))
theorem fn_dk {w : Nat} : ∀ {ks : List (Key × Int)}, (∀ p ∈ ks, Fn w 0 (keyD p.1) ∧ Fn w 0 (.int p.2)) → PyData.showableKv (ks.map fun p => (keyD p.1, PyData.int p.2)) = true ∧ PyData.leavesShortKv 1921 (ks.map fun p => (keyD p.1, PyData.int p.2)) = true ∧
    PyData.weightKv (ks.map fun p => (keyD p.1, PyData.int p.2)) ≤ ks.length * (2 * w + 2) ∧ PyData.depthKv (ks.map fun p => (keyD p.1, PyData.int p.2)) ≤ 0
  | [], _ => ⟨rfl, rfl, by simp [PyData.weightKv], by simp [PyData.depthKv]⟩
  | p :: ks, h => by
    obtain ⟨⟨a1, a2, a3, a4⟩, ⟨c1, c2, c3, c4⟩⟩ := h p List.mem_cons_self
    obtain ⟨b1, b2, b3, b4⟩ := fn_dk fun e he => h e (List.mem_cons_of_mem _ he)
    refine ⟨by rw [List.map_cons, PyData.showableKv, a1, b1, c1]; rfl, by rw [List.map_cons, PyData.leavesShortKv, a2, b2, c2]; rfl, ?_, ?_⟩
    · rw [List.map_cons, PyData.weightKv, List.length_cons, Nat.add_mul, Nat.one_mul]
      omega
    · rw [List.map_cons, PyData.depthKv]
      omega
theorem fn_dict {w : Nat} {ks : List (Key × Int)} (h : ∀ p ∈ ks, Fn w 0 (keyD p.1) ∧ Fn w 0 (.int p.2)) : Fn (ks.length * (2 * w + 2)) 1 (dkD ks) := by
  obtain ⟨a1, a2, a3, a4⟩ := fn_dk h
  exact ⟨by unfold dkD; rw [PyData.showable]; exact a1, by unfold dkD; rw [PyData.leavesShort]; exact a2, by unfold dkD; rw [PyData.weight]; exact a3, by unfold dkD; rw [PyData.depth]; omega⟩
/-- a thing's data -/
inductive RX (K : PySem.W.Frag) (H : Hp) : V → PyData → Prop where
  | dp {v : V} {d : PyData} (h : Dp K H v d) (n : d.hasDict = false) : RX K H v d
  | dk {a : Addr} {ks : List (Key × Int)} (h : H a = some (.dK (ks.map fun p => (p.1, .int p.2)))) : RX K H (.ref a) (dkD ks)
theorem RX.same {K : PySem.W.Frag} {H H' : Hp} {v : V} {d : PyData} (h : RX K H v d) (s : Same H H') : RX K H' v d := by
  cases h with
  | dp h n => exact .dp (Dp.same s h) n
  | dk h => exact .dk (s _ _ h)
theorem key_reads {h : Heap} {k : Key} {v : Value} (e : keyIs k v = true) : Reads h v (keyD k) [] := by
  rcases keyIs_shape e with ⟨i, t, rfl, rfl⟩ | ⟨x, t, rfl, rfl⟩
  · exact .int i t
  · exact .str x t
theorem kv_reads {P : Program} {w : World} {h : Heap} : ∀ {ks : List (Key × Int)} {vs : List (Key × Value)} {es : List DictEntry}, KV (ks.map fun p => (p.1, V.int p.2)) vs → Pairs (mixKind P w) es vs →
    ReadsAll h (es.map (·.key)) ((ks.map fun p => (keyD p.1, PyData.int p.2)).map (·.1)) [] ∧ ReadsAll h (es.map (·.val)) ((ks.map fun p => (keyD p.1, PyData.int p.2)).map (·.2)) []
  | [], _, _, .nil, .nil => ⟨.nil, .nil⟩
  | p :: ks, _, _, .cons r t, .cons e1 e2 e3 => by
    obtain ⟨h1, h2⟩ := kv_reads t e3
    obtain ⟨r1, tk, r2⟩ := r
    refine ⟨.cons (as := []) (bs := []) (key_reads ?_) h1, .cons (as := []) (bs := []) ?_ h2⟩
    · rw [← r1] at e1
      exact e1
    · show Reads h _ (PyData.int p.2) []
      dsimp only
      rw [e2, r2]
      exact .int _ _
def rRepr2 (K : PySem.W.Frag) : List V → Hp → VK → Prop := fun xs H Q => ∃ (v : V) (d : PyData), xs = [v] ∧ RX K H v d ∧ Fn 8000 20 d ∧ Q (.str (S (shw d))) H
section
variable {X : Cx}
theorem call_repr2 (guard : X.A.guards = some []) (hu : X.A.units + 64 < cLine) : CallR X (.builtin "repr") (rRepr2 X.K) := by
  intro pins s σ H xs us Q I r h
  obtain ⟨v, d, rfl, rx, fn, q⟩ := h
  have sz : d.shown.length ≤ sizeLine := by
    have h1 := PyData.shown_le 1921 (by decide) d fn.lv
    have h2 := fn.wt
    have h3 : (1921 + 2) * d.weight ≤ (1921 + 2) * 8000 := Nat.mul_le_mul_left _ h2
    rw [sizeLine_eq]
    omega
  cases rx with
  | dp hd nd => exact call_repr guard hu pins s σ H _ us Q I r ⟨v, d, rfl, hd, fn.sh, nd, fn.dp, sz, q⟩
  | @dk a ks hd =>
    rw [shw_S] at q
    obtain ⟨u, rfl, ru⟩ := vals1 r
    cases (show u = Value.ref a from ru)
    have O : ObjOk X.prog X.w H s.heap a (.dK (ks.map fun p => (p.1, .int p.2))) := I.hok a _ hd
    obtain ⟨_, ns, vs, kv, o, es, ep, ho, ex, hda, _, pr, _⟩ := O
    obtain ⟨r1, r2⟩ := kv_reads (h := s.heap) kv pr
    have rd : Reads s.heap (.ref a) (dkD ks) (a :: [] ++ []) := Reads.dict ho ex.1 hda r1 r2
    have dp := fn.dp
    exact repr_of_reads' rd fn.sh (fun _ hm => by
      rcases List.mem_cons.mp hm with z | z
      · rw [← z] at ns
        exact absurd ns (by decide)
      · cases z) guard (by omega) (fun _ _ e => e) (fun h' u tk hk => ⟨.str _, H, I.kept hk, ⟨_, rfl⟩, q⟩) sz
end
theorem i_repr2 {K : PySem.W.Frag} {H : Hp} {Q : VK} {v : V} {d : PyData} (h : RX K H v d) (f : Fn 8000 20 d) (q : Q (.str (S (shw d))) H) : rRepr2 K [v] H Q := ⟨v, d, rfl, h, f, q⟩
/-- a thing that can be shown -/
def Shw (K : PySem.W.Frag) (H : Hp) (v : V) : Prop := ∃ d, RX K H v d ∧ Fn 8000 20 d
section
variable {K : PySem.W.Frag} {H : Hp}
theorem sw_non : Shw K H .non := ⟨_, .dp .non rfl, fn_non⟩
theorem sw_bl {b : Bool} : Shw K H (.bl b) := ⟨_, .dp (.bl b) rfl, fn_bl⟩
theorem sw_int {i : Int} (h : i.natAbs.log2 < 1920) : Shw K H (.int i) := ⟨_, .dp (.int i) rfl, (fn_int (k := 0) h (by decide)).mono (by decide) (by decide)⟩
theorem sw_str {l : List Nat} (h : Chr l) (hl : l.length ≤ 8000) : Shw K H (.str (S l)) := ⟨_, .dp (.str _) rfl, fn_str h hl⟩
theorem nodict_strs : ∀ ls : List (List Nat), PyData.hasDictAll (ls.map fun l => PyData.str (S l)) = false
  | [] => rfl
  | l :: ls => by rw [List.map_cons, PyData.hasDictAll, nodict_strs ls]; rfl
theorem dp_txts : ∀ ls : List (List Nat), DpAll K H (ls.map vs) (ls.map fun l => PyData.str (S l))
  | [] => .nil
  | _ :: ls => .cons (.str _) (dp_txts ls)
theorem sw_lstS {a : Addr} {ls : List (List Nat)} (h : H a = some (.lst (ls.map vs))) (hc : ∀ l ∈ ls, Chr l ∧ l.length ≤ 79) (hl : ls.length ≤ 100) : Shw K H (.ref a) := by
  refine ⟨_, .dp (.lst (SqL.of1 h) (dp_txts ls)) (by rw [PyData.hasDict]; exact nodict_strs ls), (fn_lst (w := 79) (k := 0) fun d hd => ?_).mono (by rw [List.length_map]; omega) (by decide)⟩
  obtain ⟨l, hl, rfl⟩ := List.mem_map.mp hd
  exact fn_str (hc l hl).1 (hc l hl).2
theorem sw_tupS {a : Addr} {ls : List (List Nat)} (h : H a = some (.tup (ls.map vs))) (hc : ∀ l ∈ ls, Chr l ∧ l.length ≤ 79) (hl : ls.length ≤ 100) : Shw K H (.ref a) := by
  refine ⟨_, .dp (.tup (SqT.of1 h) (dp_txts ls)) (by rw [PyData.hasDict]; exact nodict_strs ls), (fn_tup (w := 79) (k := 0) fun d hd => ?_).mono (by rw [List.length_map]; omega) (by decide)⟩
  obtain ⟨l, hl, rfl⟩ := List.mem_map.mp hd
  exact fn_str (hc l hl).1 (hc l hl).2
theorem sw_lst1 {a : Addr} {l : List Nat} (h : H a = some (.lst [.str (S l)])) (hc : Chr l) (hl : l.length ≤ 7000) : Shw K H (.ref a) :=
  ⟨.list [.str (S l)], .dp (.lst (SqL.of1 h) (.cons (.str _) .nil)) rfl, (fn_lst (w := 7000) (k := 0) fun d hd => by rw [List.mem_singleton.mp hd]; exact fn_str hc hl).mono (by simp) (by decide)⟩
theorem sw_tup1 {a : Addr} {l : List Nat} (h : H a = some (.tup [.str (S l)])) (hc : Chr l) (hl : l.length ≤ 7000) : Shw K H (.ref a) :=
  ⟨.tuple [.str (S l)], .dp (.tup (SqT.of1 h) (.cons (.str _) .nil)) rfl, (fn_tup (w := 7000) (k := 0) fun d hd => by rw [List.mem_singleton.mp hd]; exact fn_str hc hl).mono (by simp) (by decide)⟩
theorem sw_dK0 {a : Addr} (h : H a = some (.dK [])) : Shw K H (.ref a) := ⟨_, .dk (ks := []) h, (fn_dict (w := 0) (ks := []) fun _ z => (nomatch z)).mono (by decide) (by decide)⟩
theorem sw_dK1 {a : Addr} {l : List Nat} {i : Int} (h : H a = some (.dK [(.inr (S l), .int i)])) (hc : Chr l) (hl : l.length ≤ 1000) (hi : i.natAbs.log2 < 1000) : Shw K H (.ref a) :=
  ⟨_, .dk (ks := [(.inr (S l), i)]) h, (fn_dict (w := 1000) fun p hp => by rw [List.mem_singleton.mp hp]; exact ⟨fn_str hc hl, fn_int hi (by decide)⟩).mono (show 1 * (2 * 1000 + 2) ≤ 8000 by decide) (by decide)⟩
theorem Shw.same {H' : Hp} {v : V} (h : Shw K H v) (s : Same H H') : Shw K H' v := h.imp fun _ z => ⟨z.1.same s, z.2⟩
end
/-! ASCII texts -/
def Asc (l : List Nat) : Prop := ∀ c ∈ l, c < 128
theorem Asc.chr {l : List Nat} (h : Asc l) : Chr l := fun c hc => by have := h c hc; omega
theorem Low.asc {l : List Nat} (h : Low l) : Asc l := fun c hc => by have := h c hc; omega
theorem Asc.app {a b : List Nat} (h : Asc a) (k : Asc b) : Asc (a ++ b) := fun c hc => (List.mem_append.mp hc).elim (h c) (k c)
theorem Asc.sub {a b : List Nat} (h : Asc b) (k : ∀ c ∈ a, c ∈ b) : Asc a := fun c hc => h c (k c hc)
theorem Asc.one {c : Nat} (h : c < 128) : Asc [c] := fun d hd => by rw [List.mem_singleton.mp hd]; exact h
theorem up1_lt : ∀ c, c < 128 → PyProof.Rows.up1 c < 128 := by decide
def upA (l : List Nat) : List Nat := l.map PyProof.Rows.up1
theorem upA_asc {l : List Nat} (h : Asc l) : Asc (upA l) := fun c hc => by
  obtain ⟨d, hd, rfl⟩ := List.mem_map.mp hc
  exact up1_lt d (h d hd)
theorem azm_asc : Asc azmSigns := by unfold Asc; decide
def rUpA : V → List V → Hp → VK → Prop := fun x xs H Q => ∃ l : List Nat, x = .str (S l) ∧ xs = [] ∧ l.length ≤ 100000 ∧ Asc l ∧ Q (.str (S (upA l))) H
theorem mt_upperA {X : Cx} : MtR X "str.upper" rUpA := by
  intro pins s σ H x xs v us Q I rx r h
  obtain ⟨l, rfl, rfl, hl, as, q⟩ := h
  refine mt_upper pins s σ H _ _ v us Q I rx r ⟨_, rfl, rfl, by rw [S_len]; omega, ?_⟩
  rw [SX.upper_S (List.all_eq_true.mpr fun c hc => decide_eq_true (as c hc))]
  exact q
theorem i_upperA {l : List Nat} {H : Hp} {Q : VK} (hl : l.length ≤ 100000) (as : Asc l) (q : Q (.str (S (upA l))) H) : rUpA (.str (S l)) [] H Q := ⟨l, rfl, rfl, hl, as, q⟩
/-- texts in a list, not too many -/
def Gd (ls : List (List Nat)) : Prop := (∀ l ∈ ls, Asc l) ∧ (ls.map List.length).sum + ls.length ≤ 7000
theorem wt_txts : ∀ ls : List (List Nat), (∀ l ∈ ls, Asc l) → PyData.showableAll (ls.map fun l => PyData.str (S l)) = true ∧ PyData.leavesShortAll 1921 (ls.map fun l => PyData.str (S l)) = true ∧ PyData.weightAll (ls.map fun l => PyData.str (S l)) ≤ (ls.map List.length).sum + ls.length ∧ PyData.depthAll (ls.map fun l => PyData.str (S l)) ≤ 0
  | [], _ => ⟨rfl, rfl, by simp [PyData.weightAll], by simp [PyData.depthAll]⟩
  | l :: ls, h => by
    obtain ⟨a1, a2, a3, a4⟩ := fn_str (w := l.length) (k := 0) (h l List.mem_cons_self).chr (Nat.le_refl _)
    obtain ⟨b1, b2, b3, b4⟩ := wt_txts ls fun e he => h e (List.mem_cons_of_mem _ he)
    refine ⟨by rw [List.map_cons, PyData.showableAll, a1, b1]; rfl, by rw [List.map_cons, PyData.leavesShortAll, a2, b2]; rfl, ?_, ?_⟩
    · rw [List.map_cons, PyData.weightAll, List.map_cons, List.sum_cons, List.length_cons]
      omega
    · rw [List.map_cons, PyData.depthAll]
      omega
/-- a thing that is no text, of plain data -/
def OdX (H : Hp) (x : V) : Prop := x = .non ∨ (∃ i : Int, x = .int i ∧ i.natAbs.log2 < 1000) ∨ (∃ b, x = .bl b) ∨ ∃ a, x = .ref a ∧ ((∃ ls, H a = some (.lst (ls.map vs)) ∧ Gd ls) ∨ (∃ ls, H a = some (.tup (ls.map vs)) ∧ Gd ls) ∨ H a = some (.dK []) ∨ ∃ l, H a = some (.dK [(.inr (S l), .int 1)]) ∧ Asc l ∧ l.length ≤ 3500)
theorem OdX.kd {K : PySem.W.Frag} {H : Hp} {x : V} (h : OdX H x) : Kd K H x "str" false := by
  rcases h with rfl | ⟨i, rfl, _⟩ | ⟨b, rfl⟩ | ⟨a, rfl, ⟨xs, h, _⟩ | ⟨xs, h, _⟩ | h | ⟨l, h, _⟩⟩
  · exact kd_of .non (by decide +kernel)
  · exact kd_of (.int i) (by decide +kernel)
  · exact kd_of (.bl b) (by decide +kernel)
  · exact kd_of (.lst h) (by decide +kernel)
  · exact kd_of (.tup h) (by decide +kernel)
  · exact kd_of (.dK h) (by decide +kernel)
  · exact kd_of (.dK h) (by decide +kernel)
theorem OdX.sw {K : PySem.W.Frag} {H : Hp} {x : V} (h : OdX H x) : Shw K H x := by
  rcases h with rfl | ⟨i, rfl, hi⟩ | ⟨b, rfl⟩ | ⟨a, rfl, ⟨ls, h, g1, g2⟩ | ⟨ls, h, g1, g2⟩ | h | ⟨l, h, g1, g2⟩⟩
  · exact sw_non
  · exact sw_int (by omega)
  · exact sw_bl
  · obtain ⟨a1, a2, a3, a4⟩ := wt_txts ls g1
    exact ⟨_, .dp (.lst (SqL.of1 h) (dp_txts ls)) (by rw [PyData.hasDict]; exact nodict_strs ls), by rw [PyData.showable]; exact a1, by rw [PyData.leavesShort]; exact a2, by rw [PyData.weight]; omega, by rw [PyData.depth]; omega⟩
  · obtain ⟨a1, a2, a3, a4⟩ := wt_txts ls g1
    exact ⟨_, .dp (.tup (SqT.of1 h) (dp_txts ls)) (by rw [PyData.hasDict]; exact nodict_strs ls), by rw [PyData.showable]; exact a1, by rw [PyData.leavesShort]; exact a2, by rw [PyData.weight]; omega, by rw [PyData.depth]; omega⟩
  · exact sw_dK0 h
  · exact ⟨_, .dk (ks := [(.inr (S l), 1)]) h, (fn_dict (w := 3500) fun p hp => by rw [List.mem_singleton.mp hp]; exact ⟨fn_str g1.chr g2, (fn_int (w := 1) (k := 0) (show (1 : Int).natAbs.log2 < 1 by decide) (by decide)).mono (by decide) (by decide)⟩).mono (show 1 * (2 * 3500 + 2) ≤ 8000 by decide) (by decide)⟩
theorem OdX.keep {H H' : Hp} {x : V} (h : OdX H x) (s : ∀ a o, x = .ref a → H a = some o → H' a = some o) : OdX H' x := by
  rcases h with h | h | h | ⟨a, e, h⟩
  · exact .inl h
  · exact .inr (.inl h)
  · exact .inr (.inr (.inl h))
  · refine .inr (.inr (.inr ⟨a, e, ?_⟩))
    rcases h with ⟨ls, h, g⟩ | ⟨ls, h, g⟩ | h | ⟨l, h, g⟩
    · exact .inl ⟨ls, s _ _ e h, g⟩
    · exact .inr (.inl ⟨ls, s _ _ e h, g⟩)
    · exact .inr (.inr (.inl (s _ _ e h)))
    · exact .inr (.inr (.inr ⟨l, s _ _ e h, g⟩))
theorem OdX.same {H H' : Hp} {x : V} (h : OdX H x) (s : Same H H') : OdX H' x := h.keep fun a o _ e => s _ _ e
theorem OdX.hd {H H' : Hp} {x : V} {k : Addr} (h : OdX H x) (hk : Hd H k) (s : But k H H') : OdX H' x := by
  refine OdX.keep h fun a o e q => s _ _ (fun z => ?_) q
  subst z
  obtain ⟨d, m, hk, _⟩ := hk
  rcases h with h | ⟨i, h, _⟩ | ⟨b, h⟩ | ⟨a, e2, h⟩
  · rw [e] at h; cases h
  · rw [e] at h; cases h
  · rw [e] at h; cases h
  · rw [e] at e2
    cases e2
    rcases h with ⟨ls, h, _⟩ | ⟨ls, h, _⟩ | h | ⟨l, h, _⟩
    · rw [hk] at h
      have h := HO.lst.inj (Option.some.inj h)
      cases ls with
      | nil => cases h
      | cons l ls => cases h
    · rw [hk] at h; cases h
    · rw [hk] at h; cases h
    · rw [hk] at h; cases h
section
variable {H : Hp}
theorem ox_non : OdX H .non := .inl rfl
theorem ox_int {i : Int} (h : i.natAbs.log2 < 1000) : OdX H (.int i) := .inr (.inl ⟨i, rfl, h⟩)
theorem ox_bl {b : Bool} : OdX H (.bl b) := .inr (.inr (.inl ⟨b, rfl⟩))
theorem ox_lst {a : Addr} {ls : List (List Nat)} (h : H a = some (.lst (ls.map vs))) (g : Gd ls) : OdX H (.ref a) := .inr (.inr (.inr ⟨a, rfl, .inl ⟨ls, h, g⟩⟩))
theorem ox_tup {a : Addr} {ls : List (List Nat)} (h : H a = some (.tup (ls.map vs))) (g : Gd ls) : OdX H (.ref a) := .inr (.inr (.inr ⟨a, rfl, .inr (.inl ⟨ls, h, g⟩)⟩))
theorem ox_dK0 {a : Addr} (h : H a = some (.dK [])) : OdX H (.ref a) := .inr (.inr (.inr ⟨a, rfl, .inr (.inr (.inl h))⟩))
theorem ox_dK1 {a : Addr} {l : List Nat} (h : H a = some (.dK [(.inr (S l), .int 1)])) (g : Asc l) (hl : l.length ≤ 3500) : OdX H (.ref a) := .inr (.inr (.inr ⟨a, rfl, .inr (.inr (.inr ⟨l, h, g, hl⟩))⟩))
end
theorem gd_nil : Gd [] := ⟨(fun _ z => by cases z), by simp⟩
theorem gd_one {l : List Nat} (h : Asc l) (hl : l.length ≤ 3500) : Gd [l] := ⟨fun m hm => by rw [List.mem_singleton.mp hm]; exact h, by simp; omega⟩
theorem gd_signs {l : List Nat} (h : Asc l) (hl : l.length ≤ 3500) : Gd (l.map fun c => [c]) := by
  refine ⟨fun m hm => ?_, ?_⟩
  · obtain ⟨c, hc, rfl⟩ := List.mem_map.mp hm
    exact Asc.one (h c hc)
  · have e : ∀ l : List Nat, ((l.map fun c => [c]).map List.length).sum = l.length := fun l => by
      induction l with
      | nil => rfl
      | cons c l ih => rw [List.map_cons, List.map_cons, List.sum_cons, ih, List.length_cons]; simp; omega
    rw [e, List.length_map]
    omega
end Lv

set_option Elab.async false
set_option linter.all false
set_option maxRecDepth 100000
set_option maxHeartbeats 2000000
/-! try .. except (A, B): a clause of two classes -/
namespace Lv
open PySem PySem.Spec PyProof.Rows L2 SX
theorem flyZ_keeps {B h h' : Heap} {l : List Env} {e : Addr} {Z : Obj → Prop} (R : PX.FlyingZ B l e Z h) (k : ∀ b o, h.get? b = some o → h'.get? b = some o) : PX.FlyingZ B l e Z h' := by
  obtain ⟨f1, f2, f3, oe, vs, T, oT, ts, he, hz, hd, h1, hn, hne, hT, hdT, h3⟩ := R
  exact ⟨fun b o q => k b o (f1 b o q), f2, f3.of_keeps fun b o q _ => ⟨o, k b o q, rfl⟩, oe, vs, T, oT, ts, k _ _ he, hz, hd, h1, hn, hne, k _ _ hT, hdT, h3⟩
/-- what 'except (x, y)' wishes: the error is one of both -/
def wT2 (K : PySem.W.Frag) (c1 c2 : Value) (ts : TS) (D : Ends) : WX := fun cls d σ H => PySem.W.exmAny K cls [c1, c2] = some true ∧ d = none ∧ ts D σ H
def tTryT2 (K : PySem.W.Frag) (c1 c2 : Value) (tb : WX → TS) (ts : TS) : TS := fun D σ H => tb (wT2 K c1 c2 ts D) D σ H
section
variable {X : Cx} {x1 x2 : Str} {c1 c2 : Value} {body suite : List Stmt} {b₀ : Stmt} {np1 np2 tpos pos pos' : Pos} {kk : Nat} {tb : WX → TS} {ts : TS}
theorem ps_tryT2 (hs : X.stack = X.env :: X.outer) (hf : X.env.frame = some X.env.locals) (hc1 : Names X x1 c1) (hc2 : Names X x2 c2)
    (hb : ∀ (W : WX) (pn : List (Addr × Obj)) (xe : Value → Shared → Prop), Takes (X.tr pn xe) W → PassesOwn (model X.prog X.w) X.A X.env xe → PSs (X.tr pn xe) body (tb W))
    (hsu : ∀ (a : Addr) (pn : List (Addr × Obj)), PSs (X.suite a pn) (b₀ :: suite) ts) :
    PS X (.Try body [.ExceptHandler (some (.Tuple [.Name x1 np1, .Name x2 np2] kk tpos)) none (b₀ :: suite) pos'] [] [] pos) (tTryT2 X.K c1 c2 tb ts) := by
  constructor
  intro pins s σ H D I h
  have ok := I.ok
  have hfr : X.A.frames = some (X.env :: X.outer) := hs ▸ ok.frames
  let after : Value → Shared → Prop := fun e s1 => wpAny (model X.prog X.w) X.A (noteFrame e X.env) (fun _ s2 => wpAny (model X.prog X.w) X.A (setFlight e none) (fun _ s3 => wpAny (model X.prog X.w) X.A (handleBy e X.env [.ExceptHandler (some (.Tuple [.Name x1 np1, .Name x2 np2] kk tpos)) none (b₀ :: suite) pos']) (SP X pins D) X.xe s3) X.xe s2) X.xe s1
  have caught : Takes (X.tr (X.pn ++ pins) after) (wT2 X.K c1 c2 ts D) := by
    rintro u s1 ⟨a, B, sI, pn1, σ1, H1, cls, d, rfl, J1, nb, up, sky, na, os, ag, ex, rfl, go⟩
    have J : Inv X pins σ1 H1 sI := J1.ofTry ok
    have fl0 : Sky B (X.env :: X.outer) a (Zc cls none) X.env.locals s1.heap := hs ▸ sky
    refine Sky.land Zc.steady hfr hf fl0 fun h2 fl2 up2 => ?_
    have J2 : Inv X pins σ1 H1 { s1 with heap := h2 } := J.landed nb fl2.1 (up.trans up2) os ag
    obtain ⟨o2, v2, ho2, hz2, hd2⟩ := fl2.there
    have lk : PySem.W.Looks (model X.prog X.w) h2 (typeOf (.ref a)) cls := fun A Q E s k q => wpAny_typeOf_ref (k _ _ ho2) (by rw [hz2.1]; exact q)
    have name : ∀ {x : Str} {c : Value} {np : Pos} (hc : Names X x c) {Q : Value → Shared → Prop} {E : Value → Shared → Prop}, Q c { s1 with heap := h2 } → wpAny (model X.prog X.w) (X.A.mark (some (.ref a))) (eval (.Name x np) X.env) Q E { s1 with heap := h2 } := fun {x c np} hc {Q E} q => by
      rcases hc with ⟨g1, g2, g3 | ⟨g3, g4, g5⟩⟩
      · exact ld_glob (X := X.suite a (X.pn ++ pins)) (inv_suite J2 a) g1 g3 q g2
      · exact ld_blt (X := X.suite a (X.pn ++ pins)) (inv_suite J2 a) g1 g3 g4 q g5 g2
    have kp : ∀ q o, h2.get? q = some o → (h2.push { cls := .type "tuple", data := .seq [c1, c2].toArray }).get? q = some o := fun _ _ z => Heap.get?_push_of_some _ z
    have fl3 := flyZ_keeps fl2 kp
    have J3 : Inv X pins σ1 H1 { s1 with heap := h2.push { cls := .type "tuple", data := .seq [c1, c2].toArray } } := J.landed nb fl3.1 ((up.trans up2).trans (Heap.UpToSlots.of_keeps kp)) os ag
    have lm := PySem.W.exm_tup2 (M := model X.prog X.w) J3.kIn (lk.keeps kp) (Heap.get?_push_size h2 rfl) ex
    refine wpAny_handleBy_cons (codeAny_handlers_test ?_) (fun q => by cases q)
    refine wpAny_Tuple ?_
    refine wpAny_items_cons (name hc1 ?_)
    refine wpAny_items_cons (name hc2 ?_)
    refine wpAny_items_nil ⟨by size_fits, ?_⟩
    refine lm.here (codeAny_handlers_suite ?_)
    refine HandSPX.lands_againZ fl3 fun h4 fl4 up4 => ?_
    have J4 : Inv X pins σ1 H1 { s1 with heap := h4 } := J.landed nb fl4.1 (((up.trans up2).trans (Heap.UpToSlots.of_keeps kp)).trans up4) os ag
    refine wpAny_mono ((hsu a (X.pn ++ pins)).run [] _ _ _ _ (inv_suite J4 a) go) (fun f s6 hsp => ?_) fun _ _ z => z.elim
    cases f with
    | ret u => exact hsp.elim fun v ⟨σ6, H6, S6, r6, q6⟩ => ⟨v, _, H6, inv_unsuite S6 ok, r6, q6⟩
    | next => exact hsp.elim fun σ6 ⟨H6, S6, q6⟩ => ⟨_, H6, inv_unsuite S6 ok, q6⟩
    | brk => exact hsp.elim fun σ6 ⟨H6, S6, q6⟩ => ⟨_, H6, inv_unsuite S6 ok, q6⟩
    | cont => exact hsp.elim fun σ6 ⟨H6, S6, q6⟩ => ⟨_, H6, inv_unsuite S6 ok, q6⟩
  refine wpAny_Try_except (wpAny_mono ((hb _ (X.pn ++ pins) after caught PassesOwn.looking).run [] s σ H D (I.toTry _) h) (fun f s1 hsp => ?_) fun e s1 he => he)
  cases f with
  | ret u => exact hsp.elim fun v ⟨σ', H', J', r, q⟩ => ⟨v, σ', H', J'.ofTry ok, r, q⟩
  | next => exact hsp.elim fun σ' ⟨H', J', q⟩ => wpAny_execs_nil ⟨σ', H', J'.ofTry ok, q⟩
  | brk => exact hsp.elim fun σ' ⟨H', J', q⟩ => ⟨σ', H', J'.ofTry ok, q⟩
  | cont => exact hsp.elim fun σ' ⟨H', J', q⟩ => ⟨σ', H', J'.ofTry ok, q⟩
end
section
variable {K : PySem.W.Frag} {er : Nat → Addr} {i j : Nat}
theorem exc_self {C : Addr} {l : List Value} {n : String} (h : PySem.W.excIn K C l n = true) : PySem.W.subIn K (.ref C) (.ref C) = some true := by
  unfold PySem.W.excIn at h
  show PySem.W.mroIn K C (.ref C) = some true
  unfold PySem.W.mroIn PySem.W.clsIn
  split at h
  · rename_i d cd sl e
    rw [e]
    split at h
    · rename_i C' bm z1 z2 z3 z4 n' z5 em es
      simp only [Bool.and_eq_true, beq_iff_eq] at h
      have : C' = C := h.1.1.1.1.1
      subst this
      show (if cd.mro.isEmpty then none else some (cd.mro.contains (.ref C'))) = some true
      rw [em]
      simp
    · cases h
  · cases h
theorem exm_er (Zi : ErrC K er i) (Zj : ErrC K er j) (h1 : 1 ≤ j) (h2 : j ≤ 6) : PySem.W.exmOne K (.ref (er i)) (.ref (er j)) = some (decide (i = j)) := by
  by_cases e : i = j
  · subst e
    rw [decide_eq_true rfl]
    exact PySem.W.exm_ref Zi.bC Zi.cC.hd Zi.tC (exc_self Zi.xC)
  · have k := Zi.kk j h1 h2
    rw [decide_eq_false e] at k ⊢
    unfold PySem.W.kitOne at k
    split at k
    · cases k
    · unfold PySem.W.exmOne
      rw [if_pos (by rw [Zj.bC]; rfl)]
      exact k
/-- an error of a law that knows NoLetters and NoPlace alone -/
structure ErrS (K : PySem.W.Frag) (er : Nat → Addr) (i : Nat) : Prop where
  xC : PySem.W.excIn K (er i) [.type "ValueError", .type "Exception", .type "BaseException", .type "object"] "ValueError.__new__" = true
  kC : PySem.W.keepIn K (.ref (er i)) = true
  bC : PySem.W.subIn K (.ref (er i)) (.type "BaseException") = some true
  tC : PySem.W.typeIn K (.ref (er i)) = some (.type "type")
  hd : PySem.W.hasDictIn K (er i) = true
  s3 : PySem.W.subIn K (.ref (er i)) (.ref (er 3)) = some (decide (i = 3))
  s4 : PySem.W.subIn K (.ref (er i)) (.ref (er 4)) = some (decide (i = 4))
theorem wT2_er {ts : TS} {D : Ends} {σ : L2.St} {H : Hp} (Zi : ErrS K er i) (Z3 : ErrS K er 3) (Z4 : ErrS K er 4) (hi : i = 3 ∨ i = 4) (h : ts D σ H) : wT2 K (.ref (er 3)) (.ref (er 4)) ts D (.ref (er i)) none σ H := by
  refine ⟨?_, rfl, h⟩
  unfold PySem.W.exmAny PySem.W.exmAny PySem.W.exmAny
  rw [PySem.W.exm_ref Z3.bC Z3.hd Z3.tC Zi.s3, PySem.W.exm_ref Z4.bC Z4.hd Z4.tC Zi.s4]
  rcases hi with e | e <;> simp [e]
end
end Lv

set_option Elab.async false
set_option linter.all false
set_option maxRecDepth 100000
set_option maxHeartbeats 2000000
/-! a list comprehension whose element may raise -/
namespace Lv
open PySem PySem.Spec PyProof.Rows L2 SX
theorem note_same {e : Value} {c env : Env} (h : c.frame = env.frame) : noteFrame e c = noteFrame e env := by
  unfold noteFrame PySem.frameOf
  rw [h]
theorem funFrames_at {base h h' : Heap} : ∀ {l : List Env}, h.FunFrames base l → (∀ L ∈ frs l, h'.get? L = h.get? L) → h'.FunFrames base l
  | [], _, _ => trivial
  | env :: l, h, hn => by
    obtain ⟨hk, ⟨L, o, hf, z, ho, hd⟩, hr⟩ := h
    exact ⟨hk, ⟨L, o, hf, z, by rw [hn L (List.mem_filterMap.mpr ⟨env, List.mem_cons_self, hf⟩)]; exact ho, hd⟩, funFrames_at hr fun b hb => by
      obtain ⟨e, he, q⟩ := List.mem_filterMap.mp hb
      exact hn b (List.mem_filterMap.mpr ⟨e, List.mem_cons_of_mem _ he, q⟩)⟩
section
variable {X : Cx} {pins : List (Addr × Obj)} {σ : L2.St} {H : Hp} {s s' : Shared} {C : Addr} {oC : Obj} {ce : Env} {E : XK} {u : Value} {m : Str → Option Value} {E1 : Value → Shared → Prop}
theorem comp_out (hs : X.stack = X.env :: X.outer) (hf : X.env.frame = some X.env.locals) (tk : Takes X (fun cls d _ H => E cls d H)) (I : Inv X pins σ H s) (fc : FpOk X pins H C) (hC : s.heap.get? C = some oC) (hcl : ∀ v, oC.data ≠ .cell v) (hm : s.heap.Ns C m)
    (hl : ce.locals = C) (hfr : ce.frame = X.env.frame) (c : L2.CX X.prog X.w X.stack H s E u s') :
    wpAny (model X.prog X.w) X.A (noteFrame u ce) (fun _ s2 => CompFails (model X.prog X.w) X.A X.xe ce u s2) E1 s' := by
  obtain ⟨f1, f2, f3, f4, f5, f6⟩ := fc
  have nCf : C ∉ frs X.stack := by
    rw [hs]
    intro z
    obtain ⟨e, he, q⟩ := List.mem_filterMap.mp z
    rcases List.mem_cons.mp he with r | r
    · rw [r, hf] at q
      exact f2 (Option.some.inj q).symm
    · exact f3 (List.mem_filterMap.mpr ⟨e, r, q⟩)
  have I1 : Inv X (pins ++ [(C, oC)]) σ H s := ⟨I.ok, I.os, I.bare, I.base, I.loc, I.cell, I.free, I.freeC, fun p hp => by
    rw [← List.append_assoc] at hp
    rcases List.mem_append.mp hp with z | z
    · exact I.pin p z
    · rw [List.mem_singleton.mp z]
      exact ⟨hC, f1, f2, f3, hcl⟩, I.hok, I.len⟩
  obtain ⟨a, B, sI, pn1, σ1, H1, cls, d, rfl, J1, nb, up, sky, na, os, ag, w⟩ := XE.of_call (X := X.tr (X.pn ++ (pins ++ [(C, oC)])) X.xe) (W := fun cls d _ H => E cls d H) (I1.toTry X.xe) (fun _ _ _ h => h) c
  have JX : Inv X (pins ++ [(C, oC)]) σ1 H1 sI := J1.ofTry I.ok
  have JP : Inv X pins σ1 H1 sI := ⟨JX.ok, JX.os, JX.bare, JX.base, JX.loc, JX.cell, JX.free, JX.freeC, fun p hp => JX.pin p (by rw [← List.append_assoc]; exact List.mem_append_left _ hp), JX.hok, JX.len⟩
  have pC := JX.pin (C, oC) (by rw [← List.append_assoc]; exact List.mem_append_right _ (List.mem_singleton.mpr rfl))
  have hCI : sI.heap.get? C = some oC := pC.1
  have nb : ∀ b o, sI.heap.get? b = some o → b ∉ frs X.stack → B.get? b = some o := nb
  have hCB : B.get? C = some oC := nb C oC hCI nCf
  have frA : X.A.frames = some (X.env :: X.outer) := hs ▸ I.ok.frames
  have after : ∀ h1, HandSPX.HeldZ B (X.env :: X.outer) a (Zc cls d) X.env.locals h1 → s'.heap.UpToSlots h1 → CompFails (model X.prog X.w) X.A X.xe ce (.ref a) { s' with heap := h1 } := by
    intro h1 hh up1
    obtain ⟨k1, k2, k3, oe, vs, T, oT, ts, he, hz, hd, hv1, hnT, hTe, hT, hdT, hv3⟩ := hh
    have hC1 : h1.get? C = some oC := k1 C oC hCB
    refine ⟨m, ?_, fun h2 m2 hn2 sb => ?_⟩
    · rw [hl]
      obtain ⟨o, es, ep, e, r⟩ := hm
      rw [hC] at e
      cases e
      exact ⟨oC, es, ep, hC1, r⟩
    rw [hl] at sb
    have keep : ∀ b, b ≠ C → h2.get? b = h1.get? b := fun b hb => sb.2 b hb
    have aC : a ≠ C := fun z => by rw [z, hCB] at k2; cases k2
    have TC : T ≠ C := fun z => by rw [z, hCB] at hnT; cases hnT
    obtain ⟨G, g1, g2⟩ := restrict h2 fun b => (sI.heap.get? b).isSome
    obtain ⟨B2, c1, c2⟩ := restrict h2 fun b => (B.get? b).isSome
    have stB : B2.StaysIn h2 := fun b o e => by
      cases q : (B.get? b).isSome with
      | true => rw [← c1 b q]; exact e
      | false => rw [c2 b q] at e; cases e
    have noB : ∀ b, B.get? b = none → B2.get? b = none := fun b e => c2 b (by rw [e]; rfl)
    have ffs : ∀ L ∈ frs (X.env :: X.outer), B.get? L = none := fun L hL => (k3.mem hL).1
    have fr2 : h2.FunFrames B2 (X.env :: X.outer) := by
      refine funFrames_none (base := B) (funFrames_at k3 fun L hL => keep L fun z => ?_) fun L hL => noB L (ffs L hL)
      rw [z] at hL
      exact nCf (by rw [hs]; exact hL)
    have tr2 : HandSPX.TracedZ h2 B2 a (Zc cls d) (rawInt X.env.locals) := ⟨oe, vs, T, oT, ts, by rw [keep a aC]; exact he, hz, hd, hv1, noB T hnT, hTe, by rw [keep T TC]; exact hT, hdT, hv3⟩
    have ndG : ∀ b o, G.get? b = some o → h2.get? b = some o := fun b o e => by
      cases q : (sI.heap.get? b).isSome with
      | true => rw [← g1 b q]; exact e
      | false => rw [g2 b q] at e; cases e
    have gAt : ∀ b o, sI.heap.get? b = some o → G.get? b = h2.get? b := fun b o e => g1 b (by rw [e]; rfl)
    have gKeep : ∀ b o, sI.heap.get? b = some o → b ∉ frs X.stack → b ≠ C → G.get? b = some o := fun b o e hb hc => by rw [gAt b o e, keep b hc]; exact k1 b o (nb b o e hb)
    have gSlot : ∀ b o, sI.heap.get? b = some o → b ∈ frs X.stack → ∃ sl, G.get? b = some { o with slots := sl } := fun b o e hb => by
      obtain ⟨_, o2, e2, nf⟩ := JP.stack.mem hb
      rw [e] at e2
      cases e2
      obtain ⟨sl, q⟩ := (up.trans up1) b o e nf
      exact ⟨sl, by rw [gAt b o e, keep b fun z => nCf (z ▸ hb)]; exact q⟩
    have JG : Inv X pins σ1 H1 { sI with heap := G } := by
      refine JP.call' (ch := [C]) rfl ⟨fun b o e _ hb hx => gKeep b o e hb fun z => hx (by simp [z]), fun b o e _ hb _ => gSlot b o e hb, fun _ _ _ n _ => n, fun b o e hx => ?_, fun _ _ q => q, fun _ _ _ q => q, fun b ps q => ⟨#[], by rw [q]; simp⟩⟩ (fun b o q => ?_) JP.bare fun b hb => ?_
      · by_cases hb : b ∈ frs X.stack
        · obtain ⟨sl, q⟩ := gSlot b o e hb
          exact ⟨_, q⟩
        · exact ⟨o, gKeep b o e hb fun z => hx (by simp [z])⟩
      · refine (JP.hok b o q).stay (fun c u hc r => gKeep c u r (fun hm => ?_) fun z => ?_) (fun _ r => r) fun _ _ r => r
        · have z := JP.stkFree c hm
          rcases hc with hc | hc
          · rw [hc, q] at z; cases z
          · rw [hc] at z; cases z
        · have y : H1 C = none := pC.2.1
          rcases hc with hc | hc
          · rw [← z, hc, q] at y; cases y
          · rw [← z, hc] at y; cases y
      · rw [List.mem_singleton.mp hb]
        exact ⟨f4, fun z => f2 z, f5, f6⟩
    unfold PySem.passOn
    refine wpAny_bind (wpAny_field (by show h2.get? a = _; rw [keep a aC]; exact he) hd hv1 ?_)
    rw [if_neg (show ¬ ((Value.ref T == Value.none) = true) from by simp)]
    have fin : wpAny (model X.prog X.w) X.A (setFlight (.ref a) ce.frame) (fun _ s4 => wpAny (model X.prog X.w) X.A (throw (.ref a) : Sem Value) (fun _ _ => False) X.xe s4) X.xe { s' with heap := h2 } := by
      rw [hfr, hf]
      refine HandSPX.setFlight_anyZ stB fr2 tr2 fun h4 q1 q2 q3 q4 => wpAny_throw (tk _ _ ⟨a, B2, { sI with heap := G }, pins, σ1, H1, cls, d, rfl, JG, fun b o e hb => ?_, (Heap.UpToSlots.of_keeps ndG).trans q4, .inr (.inr (by rw [hs]; exact ⟨q1, noB a k2, q2, q3⟩)), na, os, ag, w⟩)
      cases q : sI.heap.get? b with
      | none => rw [g2 b (by rw [q]; rfl)] at e; cases e
      | some o2 => rw [c1 b (by rw [nb b o2 q hb]; rfl)]; exact ndG b o e
    first
      | exact wpAny_bind (wpAny_pure (wpAny_bind fin))
      | exact wpAny_bind fin
  rw [note_same hfr]
  have sky : Sky B (X.env :: X.outer) a (Zc cls d) X.env.locals s'.heap := hs ▸ sky
  rcases sky with ⟨hB, hn, hl2, oe, vs, he, hz, hd, h1⟩ | fl | hh
  · exact HandSPX.look_newZ Zc.steady frA hl2 hf he hB hn hd h1 hz after
  · exact HandSPX.looks_onZ Zc.steady frA hf fl after
  · exact HandSPX.againZ hf hh.2.2.2 (after s'.heap hh (Heap.UpToSlots.refl _))
end
section
variable {X : Cx}
/-- [elt for target in iter if ..] where elt may raise -/
theorem pe_lcX {E : XK} {elt tg iter : Expr} {ifs : List Expr} {scope : Scope} {own : List (Str × Nat)} {pos : Pos} {wi : TI} {g : TG} {tt : TT} {te : TE} (hst : X.stack = X.env :: X.outer) (hfr : X.env.frame = some X.env.locals) (tk : Takes X (fun cls d _ H => E cls d H))
    (hc : X.calm = true) (hN : X.N.Nodup) (hi : PI X tg iter wi) (ok : BlkOk X.N X.env.scope scope own)
    (hg : ∀ (s : Shared) (H : Hp) (C : Addr) (cl : List (Str × Addr)) (fp : List Addr), PG (X.blk s H scope (compEnvC scope cl C X.env) fp) tg g) (ht : ∀ (s : Shared) (H : Hp) (C : Addr) (cl : List (Str × Addr)) (fp : List Addr), PTs (X.blk s H scope (compEnvC scope cl C X.env) fp) ifs tt)
    (he : ∀ (s : Shared) (H : Hp) (C : Addr) (cl : List (Str × Addr)) (fp : List Addr) (pn : List (Addr × Obj)) (xe : Value → Shared → Prop), Passes (L2.CX X.prog X.w) ((X.blk s H scope (compEnvC scope cl C X.env) fp).tr pn xe) E → PE ((X.blk s H scope (compEnvC scope cl C X.env) fp).tr pn xe) elt te)
    (hs : ∀ x, foldedSetIterable iter X.env x = pure x := by intro _; rfl) :
    PE X (.ListComp elt [⟨tg, iter, ifs, 0⟩] scope pos) (tLc wi g tt te (own.map (·.2))) := by
  constructor
  intro pins s σ H Q I h
  rw [eval_ListComp]
  have hfree : ∀ y ∈ scope.names, y.2 = .free → ∃ c, X.env.cells.lookup y.1 = some c := fun y hy e => by
    rcases ok.free y hy e with k | k
    · exact I.ok.has _ (.inl k)
    · exact I.ok.has _ (.inr k)
  refine comprehension_at (use := none) rfl hs (closure_ok hfree) ok.kind (fun y hy e => by rw [ok.uniq y hy, e]) (thn (hi.run pins s σ H _ I h) fun xv s1 hx => thn hx fun itv s2 h2 => ?_)
  obtain ⟨it, fp, tn, J, H2, e, I2, T, st2, f2, q⟩ := h2
  subst e
  refine wpAny_newObj_type (newEnv_comp ?_) (by show 0 ≤ sizeLine; decide)
  generalize hD : s2.heap.objs.size = D
  have hDn : H2 D = none := I2.hok.fresh (Nat.le_of_eq hD)
  obtain ⟨W, ⟨m0, w0⟩, turn⟩ := q D hDn
  generalize hs3 : ({ s2 with heap := s2.heap.push { cls := .type "list", data := .seq ([] : List Value).toArray } } : Shared) = s3
  have I3 : Inv X pins σ (upd H2 D (.lst [])) s3 := by
    rw [← hs3]
    refine I2.laid (t' := s2.toks) (fun b o e => Heap.get?_push_of_some _ e) (Nat.le_of_eq hD) ⟨Nat.zero_le _, [], 0, .nil, ?_⟩
    rw [← hD]
    exact Heap.get?_push_size _ rfl
  have h3 : s3.heap = s2.heap.push { cls := .type "list", data := .seq ([] : List Value).toArray } := by rw [← hs3]
  have sz : ∀ b ∈ fp, b < s2.heap.objs.size := fun b hb => by
    obtain ⟨o, e, _⟩ := T.obj _ _ st2 b hb
    exact Heap.lt_size e
  have f3 : ∀ b ∈ fp, FpOk X pins (upd H2 D (.lst [])) b ∧ b < s3.heap.objs.size := fun b hb => by
    have hlt := sz b hb
    refine ⟨⟨?_, (f2 b hb).2⟩, by rw [h3, Heap.size_push]; exact Nat.lt_succ_of_lt hlt⟩
    rw [upd_ne (by rw [← hD]; exact Nat.ne_of_lt hlt)]
    exact (f2 b hb).1
  have st3 : tn 0 s3.heap := T.keep _ _ _ st2 fun b _ o e => by rw [h3]; exact Heap.get?_push_of_some _ e
  have I4 := block_start I3 ok hN f3
  have pg := hg s3 (upd H2 D (.lst [])) s3.heap.objs.size (cellsFrom (s3.heap.objs.size + 1) scope.names (cloFrom X.env.cells scope.names [])) fp
  have pt := ht s3 (upd H2 D (.lst [])) s3.heap.objs.size (cellsFrom (s3.heap.objs.size + 1) scope.names (cloFrom X.env.cells scope.names [])) fp
  have pe := he s3 (upd H2 D (.lst [])) s3.heap.objs.size (cellsFrom (s3.heap.objs.size + 1) scope.names (cloFrom X.env.cells scope.names [])) fp
  show codeAny _ _ (.compStart (.ListComp elt [⟨tg, iter, ifs, 0⟩] scope pos) 0 (.ref it) (.ref D) (compEnvC scope (cellsFrom (s3.heap.objs.size + 1) scope.names (cloFrom X.env.cells scope.names [])) s3.heap.objs.size X.env)) (compEnds (model X.prog X.w) X.A X.xe none _ (.ref D) (compEnvC scope (cellsFrom (s3.heap.objs.size + 1) scope.names (cloFrom X.env.cells scope.names [])) s3.heap.objs.size X.env)) { s3 with heap := pushCells (s3.heap.push { cls := .type "dict", data := .dict #[] }) scope.names }
  have nfp : ∀ b ∈ fp, (upd H2 D (.lst [])) b = none := fun b hb => (f3 b hb).1.1
  have cF : (compEnvC scope (cellsFrom (s3.heap.objs.size + 1) scope.names (cloFrom X.env.cells scope.names [])) s3.heap.objs.size X.env).frame = X.env.frame := rfl
  generalize hce : compEnvC scope (cellsFrom (s3.heap.objs.size + 1) scope.names (cloFrom X.env.cells scope.names [])) s3.heap.objs.size X.env = ce at I4 pg pt pe cF ⊢
  have cL : ce.locals = s3.heap.objs.size := by subst hce; rfl
  generalize hH3 : upd H2 D (.lst []) = H3 at I3 I4 pg pt pe w0 nfp f3
  generalize hs4 : ({ s3 with heap := pushCells (s3.heap.push { cls := .type "dict", data := .dict #[] }) scope.names } : Shared) = s4 at I4 ⊢
  have st4 : tn 0 s4.heap := T.keep _ _ _ st3 fun b _ o e => by rw [← hs4]; exact pushCells_keeps _ _ _ _ (Heap.get?_push_of_some _ e)
  have stat : ∀ {σ' : L2.St} {H' : Hp} {s' : Shared}, Inv (X.blk s3 H3 scope ce fp) [] σ' H' s' → (∀ b ∈ fp, H' b = none) → ∀ b ∈ fp, FpOk (X.blk s3 H3 scope ce fp) [] H' b := fun {σ' H' s'} I' hn b hb =>
    ⟨hn b hb, (I'.ok.exf b hb).1, I'.ok.exfs b hb, .inl hb, fun x c e => (I'.ok.exf b hb).2 x c e, fun p hp => absurd (show p ∈ ([] : List (Addr × Obj)) ++ [] from hp) (by simp)⟩
  -- back in the def's context
  have back : ∀ {pn : List (Addr × Obj)} {σ' : L2.St} {H' : Hp} {s' : Shared}, Inv (X.blk s3 H3 scope ce fp) pn σ' H' s' → Inv X pins σ H' s' ∧ FpOk X pins H' s3.heap.objs.size ∧ ∃ m, s'.heap.Ns s3.heap.objs.size m := fun {pn σ' H' s'} I6 => by
    have I7 : Inv X pins σ H' s' := I3.call' (ch := fp) I6.os I6.base I6.hok I6.bare fun b hb => ⟨(f3 b hb).1.2.2.2.1, (f3 b hb).1.2.1, (f3 b hb).1.2.2.2.2.1, (f3 b hb).1.2.2.2.2.2⟩
    have nC : H' s3.heap.objs.size = none := by
      have z : H' ce.locals = none := I6.free
      rw [cL] at z
      exact z
    obtain ⟨m, hn, _⟩ := I6.loc
    have hn : s'.heap.Ns ce.locals m := hn
    rw [cL] at hn
    exact ⟨I7, I3.fpOk (Nat.le_refl _) nC, m, hn⟩
  have loop : codeAny (model X.prog X.w) X.A (.compLoop (.ListComp elt [⟨tg, iter, ifs, 0⟩] scope pos) 0 (.ref it) (.ref D) ce) (compEnds (model X.prog X.w) X.A X.xe none (EP X pins σ Q) (.ref D) ce) s4 := by
    refine compLoop_any (fun n s' => ∃ i H', Inv (X.blk s3 H3 scope ce fp) [] (wipe σ (own.map (·.2))) H' s' ∧ tn i s'.heap ∧ (∀ b ∈ fp, H' b = none) ∧ W i n H') ?_ m0 ⟨0, H3, I4, st4, nfp, w0⟩
    rintro n s5 ⟨i, H5, I5, st5, n5, w5⟩
    rcases turn i n H5 w5 with ⟨stop, qq⟩ | ⟨go, Nx, hNx, step⟩
    · have td := T.done (X.blk s3 H3 scope ce fp) rfl rfl rfl hc i [] s5 _ H5 (fun _ _ => False) I5 (stat I5 n5) st5 stop
      refine thnF td fun r s6 ⟨hr, I6⟩ => ?_
      subst hr
      obtain ⟨I7, f, m, hn⟩ := back I6
      rw [← cL] at hn
      refine ⟨m, hn, fun h' sb => ?_⟩
      obtain ⟨f0, f1, f2', f3', f4, f5⟩ := f
      rw [cL] at sb
      exact ⟨.ref D, H5, I7.turned (t' := s6.toks) (fun b o hb e => (sb.2 b hb).trans e) f0 f1 f3' f4 f5, rfl, qq⟩
    · have ti := T.item (X.blk s3 H3 scope ce fp) rfl rfl rfl hc i [] s5 _ H5 (fun _ _ => False) I5 (stat I5 n5) st5 go
      refine thnF ti fun r s6 ⟨u, hr, h6⟩ => ?_
      subst hr
      refine thnF h6 fun _ s7 ⟨x, H7, I7, r7, y7, st7, n7⟩ => ?_
      have I7' := I7.pinned (stat I7 n7) (T.obj _ _ st7)
      refine thnF (pg.run _ s7 _ H7 x u _ I7' r7 (step x H7 y7)) fun _ s8 ⟨σ8, H8, I8, hw8, q8⟩ => ?_
      refine thnF (pt.run _ s8 σ8 H8 _ I8 q8) fun b s9 ⟨H9, I9, q9⟩ => ?_
      have fin : ∀ {s' : Shared} {H' : Hp}, Inv (X.blk s3 H3 scope ce fp) ([] ++ pinsAt fp s7.heap) σ8 H' s' → Nx H' → ∃ m, m < n ∧ ∃ i H', Inv (X.blk s3 H3 scope ce fp) [] (wipe σ (own.map (·.2))) H' s' ∧ tn i s'.heap ∧ (∀ b ∈ fp, H' b = none) ∧ W i m H' := fun {s' H'} I' nx => by
        obtain ⟨m', hm, w'⟩ := hNx H' nx
        have pin' : ∀ b ∈ fp, ∀ o, s7.heap.get? b = some o → s'.heap.get? b = some o ∧ H' b = none := fun b hb o e =>
          let z := I'.pin (b, o) (List.mem_append_right _ (List.mem_append_right _ (mem_pinsAt hb e)))
          ⟨z.1, z.2.1⟩
        have hl : (wipe σ (own.map (·.2))).length = σ8.length := by rw [← hw8, wipe_length]
        refine ⟨m', hm, i + 1, H', (I'.unpinned (pins := [])).weak hl (fun j v e => ?_), T.keep _ _ _ st7 fun b hb o e => (pin' b hb o e).1, fun b hb => ?_, w'⟩
        · rw [← hw8] at e
          exact (wipe_some e).1
        · obtain ⟨o, e, _⟩ := T.obj _ _ st7 b hb
          exact (pin' b hb o e).2
      cases b with
      | false =>
        simp only [Bool.false_eq_true, if_false] at q9 ⊢
        exact fin I9 q9
      | true =>
        simp only [if_true] at q9 ⊢
        have okB := I9.ok
        have pass : Passes (L2.CX X.prog X.w) ((X.blk s3 H3 scope ce fp).tr ((X.blk s3 H3 scope ce fp).pn ++ ([] ++ pinsAt fp s7.heap)) (notedBy (model X.prog X.w) X.A ce fun e s' => compEnds (model X.prog X.w) X.A X.xe none (EP X pins σ Q) (.ref D) ce (.error e) s')) E := by
          intro pn1 σ1 H1 s1 e1 s1' J c
          obtain ⟨K7, f, m, hn⟩ := back (J.ofTry okB)
          obtain ⟨oC, es, ep, eC, ed, er⟩ := hn
          exact comp_out (m := m) hst hfr tk K7 f eC (fun v z => by rw [ed] at z; cases z) ⟨oC, es, ep, eC, ed, er⟩ cL cF c
        refine wpAny_mono ((pe _ _ pass).run [] s9 σ8 H9 _ (I9.toTry _) q9) (fun z s10 ⟨yv, H10, I10, r10, acc, hD10, hz10, nx⟩ => ?_) fun _ _ h' => h'
        exact app_ok (X := X.blk s3 H3 scope ce fp) (I10.ofTry okB) hD10 hz10 r10 fun s11 I11 => fin I11 nx
  exact codeAny_compStart_list loop (T.self X.A 0 _ _ _ st4 loop)
end
theorem pre1 (c : Nat) (r : List Nat) : TL.pre [32] (c :: r) = decide (c = 32) := by
  by_cases h : c = 32
  · subst h; simp [TL.pre]
  · rw [decide_eq_false h]
    simp [TL.pre]
    exact fun z => h z
theorem spl_bound : ∀ (l acc : List Nat), (TL.spl [32] 0 acc l).length ≤ l.length + 1 ∧ ∀ w ∈ TL.spl [32] 0 acc l, w.length ≤ acc.length + l.length ∧ ∀ c ∈ w, c ∈ acc ∨ c ∈ l
  | [], acc => by
    rw [TL.spl_nil]
    exact ⟨by simp, fun w hw => by rw [List.mem_singleton.mp hw]; exact ⟨by simp, fun c hc => .inl hc⟩⟩
  | c :: r, acc => by
    by_cases h : c = 32
    · rw [TL.spl_hit (by rw [pre1]; exact decide_eq_true h)]
      obtain ⟨h1, h2⟩ := spl_bound r []
      refine ⟨by simp only [List.length_cons, List.length_nil]; show (TL.spl [32] 0 [] r).length + 1 ≤ _; omega, fun w hw => ?_⟩
      rcases List.mem_cons.mp hw with e | e
      · rw [e]
        exact ⟨by omega, fun d hd => .inl hd⟩
      · obtain ⟨z1, z2⟩ := h2 w e
        refine ⟨by rw [List.length_cons]; simp at z1; omega, fun d hd => .inr ?_⟩
        rcases z2 d hd with y | y
        · cases y
        · exact List.mem_cons_of_mem _ y
    · rw [TL.spl_miss (by rw [pre1]; exact decide_eq_false h)]
      obtain ⟨h1, h2⟩ := spl_bound r (acc ++ [c])
      refine ⟨by rw [List.length_cons]; omega, fun w hw => ?_⟩
      obtain ⟨z1, z2⟩ := h2 w hw
      refine ⟨by rw [List.length_cons]; rw [List.length_append] at z1; simp at z1; omega, fun d hd => ?_⟩
      rcases z2 d hd with y | y
      · rcases List.mem_append.mp y with x | x
        · exact .inl x
        · rw [List.mem_singleton.mp x]; exact .inr List.mem_cons_self
      · exact .inr (List.mem_cons_of_mem _ y)
theorem wds_len (a : List Nat) : (wds a).length ≤ a.length + 1 := (spl_bound a []).1
theorem wds_le {a w : List Nat} (h : w ∈ wds a) : w.length ≤ a.length := by have := ((spl_bound a []).2 w h).1; simpa using this
section
variable {K : PySem.W.Frag} {g : TG} {tt : TT} {te : TE} {vs : List Nat} {σ : L2.St} {H : Hp} {Q : VK}
/-- [e for x in list] by turns that leave the heap or raise -/
theorem c_lPX {α : Type} {a : Addr} (items : List α) (v : α → V) (f : α → V) (P : α → Prop) (ha : SqL K H a (items.map v)) (h6 : items.length ≤ 1000000)
    (step : ∀ c H', c ∈ items → Same H H' → ∀ (Yk : VK) (N : Hp → Prop), (P c → ∀ H4, Same H' H4 → Yk (f c) H4) →
      g (v c) (wipe σ vs) H' fun σ2 H2 => wipe σ2 vs = wipe σ vs ∧ tt σ2 H2 fun b H3 => if b = true then te σ2 H3 Yk else N H3)
    (fin : (∀ c ∈ items, P c) → ∀ D H', H D = none → Same H H' → H' D = some (.lst (items.map f)) → Q (.ref D) H') : LcJ (Itl K a) g tt te vs σ H Q := by
  refine lcG_ok (walk_list (xs := items.map v)) fun D nD => ⟨fun i acc H' => acc = (items.take i).map f ∧ Same H H' ∧ ∀ c ∈ items.take i, P c, ⟨rfl, same_new nD, fun _ z => by simp at z⟩, fun i acc H' _ _ z => z.2.1.seq ha, ?_, ?_⟩
  · rintro i acc x H' H'' hi hll hD ⟨rfl, sm, hp⟩ ⟨rfl, hx⟩
    rw [List.length_map] at hi
    obtain ⟨c, hc⟩ : ∃ c, items[i]? = some c := ⟨items[i]'(by omega), List.getElem?_eq_getElem (by omega)⟩
    rw [List.getElem?_map, hc] at hx
    have e : v c = x := Option.some.inj hx
    subst e
    refine step c _ (List.mem_of_getElem? hc) sm _ _ fun pc H4 s4 => ?_
    have et : items.take (i + 1) = items.take i ++ [c] := by rw [List.take_add_one, hc]; rfl
    refine lc_put (s4 _ _ hD) hll (by omega) ⟨?_, (sm.trans s4).updN nD, ?_⟩
    · rw [et, List.map_append]; rfl
    · rw [et]
      intro d hd
      rcases List.mem_append.mp hd with z | z
      · exact hp d z
      · rw [List.mem_singleton.mp z]; exact pc
  · rintro acc H' _ hD ⟨rfl, sm, hp⟩
    rw [List.length_map, List.take_length] at hp hD
    exact fin hp D H' nD sm hD
end
end Lv

set_option linter.all false
namespace Lv
/-! first places: greedy -/
theorem nextP_here {l : List Nat} {i c : Nat} (h : l[i]? = some c) : nextP l i c = some i := nextP_some.mpr ⟨Nat.le_refl _, h, fun j h1 h2 => by omega⟩
theorem nextP_skip {l : List Nat} {i c d : Nat} (h : l[i]? = some d) (n : d ≠ c) : nextP l i c = nextP l (i + 1) c := by
  cases e : nextP l (i + 1) c with
  | none =>
    rw [nextP_none] at e ⊢
    intro j hj z
    rcases Nat.eq_or_lt_of_le hj with q | q
    · subst q; rw [h] at z; exact n (Option.some.inj z)
    · exact e j q z
  | some k =>
    rw [nextP_some] at e ⊢
    refine ⟨by omega, e.2.1, fun j h1 h2 z => ?_⟩
    rcases Nat.eq_or_lt_of_le h1 with q | q
    · subst q; rw [h] at z; exact n (Option.some.inj z)
    · exact e.2.2 j q h2 z
theorem nextP_end {l : List Nat} {i c : Nat} (h : l.length ≤ i) : nextP l i c = none := nextP_none.mpr fun j hj z => by
  rw [List.getElem?_eq_none (by omega)] at z; cases z
theorem nextP_lt {l : List Nat} {i c k : Nat} (h : nextP l i c = some k) : i ≤ k ∧ k < l.length := by
  have := nextP_some.mp h
  refine ⟨this.1, ?_⟩
  exact (List.getElem?_eq_some_iff.mp this.2.1).1
def fp (l : List Nat) : Nat → List Nat → Option (List Nat)
  | _, [] => some []
  | i, c :: m => match nextP l i c with
    | none => none
    | some k => (fp l (k + 1) m).map (k :: ·)
theorem fp_nil (l : List Nat) (i : Nat) : fp l i [] = some [] := rfl
theorem fp_none {l : List Nat} {i c : Nat} (m : List Nat) (h : nextP l i c = none) : fp l i (c :: m) = none := by rw [fp, h]
theorem fp_some {l : List Nat} {i c k : Nat} (m : List Nat) (h : nextP l i c = some k) : fp l i (c :: m) = (fp l (k + 1) m).map (k :: ·) := by rw [fp, h]
theorem fp_eq {l : List Nat} {i c : Nat} (m : List Nat) (h : l[i]? = some c) : fp l i (c :: m) = (fp l (i + 1) m).map (i :: ·) := fp_some m (nextP_here h)
theorem fp_ne {l : List Nat} {i c d : Nat} (m : List Nat) (h : l[i]? = some d) (n : d ≠ c) : fp l i (c :: m) = fp l (i + 1) (c :: m) := by
  rw [fp, fp, nextP_skip h n]
theorem fp_end {l : List Nat} {i c : Nat} (m : List Nat) (h : l.length ≤ i) : fp l i (c :: m) = none := fp_none m (nextP_end h)
theorem drop_at {l : List Nat} {i : Nat} (h : i < l.length) : ∃ c, l[i]? = some c ∧ l.drop i = c :: l.drop (i + 1) := ⟨l[i], List.getElem?_eq_getElem h, List.drop_eq_getElem_cons h⟩
/-- just where the row is left -/
theorem fp_left (l : List Nat) : ∀ (n i : Nat) (m : List Nat), l.length - i = n → ((fp l i m).isSome ↔ m.Sublist (l.drop i))
  | 0, i, m, e => by
    cases m with
    | nil => simp [fp_nil]
    | cons c m =>
      rw [fp_end m (by omega), List.drop_of_length_le (by omega)]
      simp
  | n + 1, i, m, e => by
    cases m with
    | nil => simp [fp_nil]
    | cons c m =>
      obtain ⟨d, hd, ed⟩ := drop_at (l := l) (i := i) (by omega)
      rw [ed]
      by_cases z : d = c
      · subst z
        rw [fp_eq m hd, Option.isSome_map, fp_left l n (i + 1) m (by omega), List.cons_sublist_cons]
      · rw [fp_ne m hd z, fp_left l n (i + 1) (c :: m) (by omega)]
        constructor
        · exact fun h => h.cons _
        · intro h
          cases h with
          | cons _ h => exact h
          | cons_cons => exact absurd rfl z
theorem fp0 (l m : List Nat) : (fp l 0 m).isSome ↔ m.Sublist l := fp_left l _ 0 m rfl
theorem fp_length (l : List Nat) : ∀ (m : List Nat) (i : Nat) (ps : List Nat), fp l i m = some ps → ps.length = m.length
  | [], i, ps, h => by rw [fp_nil] at h; cases h; rfl
  | c :: m, i, ps, h => by
    cases e : nextP l i c with
    | none => rw [fp_none m e] at h; cases h
    | some k =>
      rw [fp_some m e] at h
      cases e2 : fp l (k + 1) m with
      | none => rw [e2] at h; cases h
      | some qs =>
        rw [e2] at h
        cases h
        simp [fp_length l m (k + 1) qs e2]
/-- rising, in the row, spelling -/
theorem fp_spell (l : List Nat) : ∀ (m : List Nat) (i : Nat) (ps : List Nat), fp l i m = some ps → ps.Pairwise (· < ·) ∧ (∀ p ∈ ps, i ≤ p ∧ p < l.length) ∧ ∀ (j p : Nat), ps[j]? = some p → l[p]? = m[j]?
  | [], i, ps, h => by rw [fp_nil] at h; cases h; simp
  | c :: m, i, ps, h => by
    cases e : nextP l i c with
    | none => rw [fp_none m e] at h; cases h
    | some k =>
      rw [fp_some m e] at h
      cases e2 : fp l (k + 1) m with
      | none => rw [e2] at h; cases h
      | some qs =>
        rw [e2] at h
        cases h
        obtain ⟨h1, h2, h3⟩ := fp_spell l m (k + 1) qs e2
        have hk := nextP_lt e
        refine ⟨List.pairwise_cons.mpr ⟨fun p hp => by have := (h2 p hp).1; omega, h1⟩, fun p hp => ?_, fun j p hj => ?_⟩
        · rcases List.mem_cons.mp hp with z | z
          · rw [z]; exact hk
          · have := h2 p z; omega
        · cases j with
          | zero =>
            have : k = p := Option.some.inj hj
            rw [← this, (nextP_some.mp e).2.1]
            rfl
          | succ j => exact h3 j p hj
theorem sub_snoc {l m : List Nat} {i c : Nat} (h : m.Sublist (l.take i)) (hc : l[i]? = some c) : (m ++ [c]).Sublist (l.take (i + 1)) := by
  rw [List.take_add_one, hc]
  exact h.append (List.Sublist.refl _)
theorem sub_skip {l m : List Nat} {i : Nat} (h : m.Sublist (l.take i)) : m.Sublist (l.take (i + 1)) := h.trans (List.take_sublist_take_left (by omega))
/-- last places -/
def lp (l m : List Nat) : Option (List Nat) := (fp l.reverse 0 m.reverse).map fun ps => ps.reverse.map fun k => l.length - 1 - k
theorem lp_left (l m : List Nat) : (lp l m).isSome ↔ m.Sublist l := by
  rw [lp, Option.isSome_map, fp0, List.reverse_sublist]
end Lv

set_option linter.all false
set_option maxRecDepth 100000
namespace Lv
/-! all unlike rows left of a row, in order -/
theorem lt_ext {α : Type} {r : α → α → Prop} (irr : ∀ a, ¬ r a a) (asy : ∀ a b, r a b → ¬ r b a) : ∀ xs ys : List α, xs.Pairwise r → ys.Pairwise r → (∀ c, c ∈ xs ↔ c ∈ ys) → xs = ys
  | [], [], _, _, _ => rfl
  | [], y :: ys, _, _, h => absurd ((h y).mpr List.mem_cons_self) (by simp)
  | x :: xs, [], _, _, h => absurd ((h x).mp List.mem_cons_self) (by simp)
  | x :: xs, y :: ys, h1, h2, h => by
    have e : x = y := by
      rcases List.mem_cons.mp ((h x).mp List.mem_cons_self) with z | z
      · exact z
      · rcases List.mem_cons.mp ((h y).mpr List.mem_cons_self) with z2 | z2
        · exact z2.symm
        · exact absurd ((List.pairwise_cons.mp h1).1 y z2) (asy _ _ ((List.pairwise_cons.mp h2).1 x z))
    subst e
    rw [lt_ext irr asy xs ys (List.pairwise_cons.mp h1).2 (List.pairwise_cons.mp h2).2 fun c => ?_]
    have := h c
    constructor
    · intro hc
      rcases List.mem_cons.mp (this.mp (List.mem_cons_of_mem _ hc)) with z | z
      · subst z; exact absurd ((List.pairwise_cons.mp h1).1 c hc) (irr c)
      · exact z
    · intro hc
      rcases List.mem_cons.mp (this.mpr (List.mem_cons_of_mem _ hc)) with z | z
      · subst z; exact absurd ((List.pairwise_cons.mp h2).1 c hc) (irr c)
      · exact z
theorem lt_ext_nat {xs ys : List Nat} (h1 : xs.Pairwise (· < ·)) (h2 : ys.Pairwise (· < ·)) (h : ∀ c, c ∈ xs ↔ c ∈ ys) : xs = ys := lt_ext (fun _ => Nat.lt_irrefl _) (fun _ _ h => Nat.lt_asymm h) xs ys h1 h2 h
theorem lt_ext_int {xs ys : List Int} (h1 : xs.Pairwise (· < ·)) (h2 : ys.Pairwise (· < ·)) (h : ∀ c, c ∈ xs ↔ c ∈ ys) : xs = ys := lt_ext (fun _ => Int.lt_irrefl _) (fun _ _ h => Int.lt_asymm h) xs ys h1 h2 h
theorem lt_ext_txt {xs ys : List (List Nat)} (h1 : xs.Pairwise (· < ·)) (h2 : ys.Pairwise (· < ·)) (h : ∀ c, c ∈ xs ↔ c ∈ ys) : xs = ys := lt_ext (fun _ => List.lt_irrefl _) (fun _ _ h => List.lt_asymm h) xs ys h1 h2 h
/-- what is behind the first c -/
def aft (c : Nat) : List Nat → List Nat
  | [] => []
  | d :: l => if d = c then l else aft c l
theorem aft_self (c : Nat) (l : List Nat) : aft c (c :: l) = l := by rw [aft, if_pos rfl]
theorem aft_ne {c d : Nat} (l : List Nat) (h : d ≠ c) : aft c (d :: l) = aft c l := by rw [aft, if_neg h]
theorem aft_suffix (c : Nat) : ∀ l : List Nat, (aft c l) <:+ l
  | [] => List.suffix_refl _
  | d :: l => by
    by_cases h : d = c
    · subst h; rw [aft_self]; exact List.suffix_cons _ _
    · rw [aft_ne l h]; exact (aft_suffix c l).trans (List.suffix_cons _ _)
theorem aft_lt (c : Nat) : ∀ l : List Nat, c ∈ l → (aft c l).length < l.length
  | [], h => by cases h
  | d :: l, h => by
    by_cases z : d = c
    · subst z; rw [aft_self]; exact Nat.lt_succ_self _
    · rw [aft_ne l z]
      have : c ∈ l := by
        rcases List.mem_cons.mp h with q | q
        · exact absurd q.symm z
        · exact q
      exact Nat.lt_succ_of_lt (aft_lt c l this)
theorem aft_low {c : Nat} {l : List Nat} (h : Low l) : Low (aft c l) := h.sub fun d hd => (aft_suffix c l).subset hd
theorem aft_len (c : Nat) (l : List Nat) : (aft c l).length ≤ l.length := (aft_suffix c l).length_le
theorem aft_next {l : List Nat} {c : Nat} : ∀ {n i k : Nat}, l.length - i = n → nextP l i c = some k → aft c (l.drop i) = l.drop (k + 1)
  | 0, i, k, e, h => by have := nextP_lt h; omega
  | n + 1, i, k, e, h => by
    obtain ⟨d, hd, ed⟩ := drop_at (l := l) (i := i) (by omega)
    rw [ed]
    by_cases z : d = c
    · subst z
      rw [nextP_here hd] at h
      cases h
      rw [aft_self]
    · rw [nextP_skip hd z] at h
      rw [aft_ne _ z]
      exact aft_next (n := n) (by omega) h
theorem nextP_mem {l : List Nat} {i c : Nat} : (nextP l i c).isSome ↔ c ∈ l.drop i := by
  constructor
  · intro h
    cases e : nextP l i c with
    | none => rw [e] at h; cases h
    | some k =>
      obtain ⟨h1, h2, _⟩ := nextP_some.mp e
      apply List.mem_of_getElem? (i := k - i)
      rw [List.getElem?_drop, show i + (k - i) = k by omega]
      exact h2
  · intro h
    cases e : nextP l i c with
    | some k => rfl
    | none =>
      obtain ⟨j, hj⟩ := List.mem_iff_getElem?.mp h
      rw [List.getElem?_drop] at hj
      exact absurd hj (nextP_none.mp e (i + j) (by omega))
theorem next_of_mem {l : List Nat} {i c : Nat} (h : c ∈ l.drop i) : ∃ k, nextP l i c = some k := by
  have := nextP_mem.mpr h
  cases e : nextP l i c with
  | none => rw [e] at this; cases this
  | some k => exact ⟨k, rfl⟩
theorem cons_sub {c : Nat} {m : List Nat} : ∀ {l : List Nat}, (c :: m).Sublist l ↔ c ∈ l ∧ m.Sublist (aft c l)
  | [] => by simp
  | d :: l => by
    by_cases z : d = c
    · subst z; rw [aft_self, List.cons_sublist_cons]; simp
    · rw [aft_ne l z, show (c ∈ d :: l) ↔ c ∈ l by simp [Ne.symm z], ← cons_sub (l := l)]
      constructor
      · intro h
        cases h with
        | cons _ h => exact h
        | cons_cons => exact absurd rfl z
      · exact fun h => h.cons _
/-- the unlike letters, rising -/
def lets (l : List Nat) : List Nat := abc.filter (· ∈ l)
theorem lets_mem {l : List Nat} (h : Low l) {c : Nat} : c ∈ lets l ↔ c ∈ l := by
  unfold lets
  rw [List.mem_filter]
  simp only [decide_eq_true_eq]
  refine ⟨fun z => z.2, fun z => ⟨?_, z⟩⟩
  have := h c z
  have : ∀ d : Fin 26, d.val + 97 ∈ abc := by decide
  have := this ⟨c - 97, by omega⟩
  rw [show c - 97 + 97 = c by omega] at this
  exact this
theorem abc_up : abc.Pairwise (· < ·) := by decide
theorem lets_up (l : List Nat) : (lets l).Pairwise (· < ·) := abc_up.filter _
theorem lets_len (l : List Nat) : (lets l).length ≤ 26 := Nat.le_trans (List.length_filter_le _ _) (by decide)
theorem lets_is {l ys : List Nat} (h : Low l) (up : ys.Pairwise (· < ·)) (hm : ∀ c, c ∈ ys ↔ c ∈ l) : ys = lets l := lt_ext_nat up (lets_up l) fun c => by rw [hm, lets_mem h]
theorem lets_low (l : List Nat) : Low (lets l) := low_abc.sub fun c hc => (List.mem_filter.mp hc).1
def lxF : Nat → List Nat → List (List Nat)
  | 0, _ => [[]]
  | n + 1, l => [] :: (lets l).flatMap fun c => (lxF n (aft c l)).map (c :: ·)
theorem lxF_same : ∀ (n m : Nat) (l : List Nat), l.length ≤ n → l.length ≤ m → lxF n l = lxF m l
  | 0, 0, l, _, _ => rfl
  | 0, m + 1, l, h, _ => by
    have : l = [] := List.length_eq_zero_iff.mp (by omega)
    subst this
    have e : lets [] = [] := by unfold lets; simp
    rw [lxF, lxF, e]
    rfl
  | n + 1, 0, l, _, h => by
    have : l = [] := List.length_eq_zero_iff.mp (by omega)
    subst this
    have e : lets [] = [] := by unfold lets; simp
    rw [lxF, lxF, e]
    rfl
  | n + 1, m + 1, l, h1, h2 => by
    rw [lxF, lxF]
    congr 1
    have : ∀ c ∈ lets l, (lxF n (aft c l)).map (c :: ·) = (lxF m (aft c l)).map (c :: ·) := fun c hc => by
      have hm : c ∈ l := by have := (List.mem_filter.mp hc).2; simpa using this
      have := aft_lt c l hm
      rw [lxF_same n m (aft c l) (by omega) (by omega)]
    rw [List.flatMap_def, List.flatMap_def, List.map_congr_left this]
def lx (l : List Nat) : List (List Nat) := lxF l.length l
theorem lx_eq (l : List Nat) : lx l = [] :: (lets l).flatMap fun c => (lx (aft c l)).map (c :: ·) := by
  unfold lx
  rw [lxF_same l.length (l.length + 1) l (Nat.le_refl _) (Nat.le_succ _), lxF]
  congr 1
  have : ∀ c ∈ lets l, (lxF l.length (aft c l)).map (c :: ·) = (lxF (aft c l).length (aft c l)).map (c :: ·) := fun c hc => by
    rw [lxF_same l.length (aft c l).length (aft c l) (aft_len c l) (Nat.le_refl _)]
  rw [List.flatMap_def, List.flatMap_def, List.map_congr_left this]
theorem lx_mem : ∀ (m l : List Nat), Low l → (m ∈ lx l ↔ m.Sublist l)
  | [], l, _ => by rw [lx_eq]; simp
  | c :: m, l, h => by
    rw [lx_eq, cons_sub, ← lx_mem m (aft c l) (aft_low h)]
    simp only [List.mem_cons, List.mem_flatMap, List.mem_map, reduceCtorEq, false_or]
    constructor
    · rintro ⟨d, hd, x, hx, e⟩
      cases e
      exact ⟨(lets_mem h).mp hd, hx⟩
    · rintro ⟨h1, h2⟩
      exact ⟨c, (lets_mem h).mpr h1, m, h2, rfl⟩
theorem lx_up : ∀ (n : Nat) (l : List Nat), l.length ≤ n → (lx l).Pairwise (· < ·)
  | n, l, hn => by
    rw [lx_eq, List.pairwise_cons]
    refine ⟨fun m hm => ?_, ?_⟩
    · obtain ⟨c, _, hm⟩ := List.mem_flatMap.mp hm
      obtain ⟨x, _, rfl⟩ := List.mem_map.mp hm
      exact List.nil_lt_cons _ _
    · rw [List.pairwise_flatMap]
      refine ⟨fun c hc => ?_, ?_⟩
      · have hm : c ∈ l := by have := (List.mem_filter.mp hc).2; simpa using this
        have hl := aft_lt c l hm
        rw [List.pairwise_map]
        cases n with
        | zero => omega
        | succ n =>
          refine (lx_up n (aft c l) (by omega)).imp fun {a b} h => ?_
          exact List.cons_lt_cons_iff.mpr (.inr ⟨rfl, h⟩)
      · refine (lets_up l).imp fun {a b} h x hx y hy => ?_
        obtain ⟨x, _, rfl⟩ := List.mem_map.mp hx
        obtain ⟨y, _, rfl⟩ := List.mem_map.mp hy
        exact List.cons_lt_cons_iff.mpr (.inl h)
theorem lx_sorted (l : List Nat) : (lx l).Pairwise (· < ·) := lx_up _ l (Nat.le_refl _)
/-- how many -/
def cn (l : List Nat) : Nat := (lx l).length
theorem cn_eq (l : List Nat) : cn l = 1 + ((lets l).map fun c => cn (aft c l)).sum := by
  unfold cn
  rw [lx_eq, List.length_cons, List.length_flatMap]
  simp only [List.length_map]
  omega
theorem cn_pos (l : List Nat) : 0 < cn l := by rw [cn_eq]; omega
/-- those of a length -/
def lxn (n : Nat) (l : List Nat) : List (List Nat) := (lx l).filter (·.length = n)
theorem lxn_zero (l : List Nat) : lxn 0 l = [[]] := by
  unfold lxn
  rw [lx_eq, List.filter_cons_of_pos (by simp), List.filter_eq_nil_iff.mpr]
  intro m hm
  obtain ⟨c, _, hm⟩ := List.mem_flatMap.mp hm
  obtain ⟨x, _, rfl⟩ := List.mem_map.mp hm
  simp
theorem lxn_succ (n : Nat) (l : List Nat) : lxn (n + 1) l = (lets l).flatMap fun c => (lxn n (aft c l)).map (c :: ·) := by
  unfold lxn
  rw [lx_eq, List.filter_cons_of_neg (by simp), List.filter_flatMap]
  congr 1
  funext c
  rw [List.filter_map]
  congr 1
  apply List.filter_congr
  intro x _
  simp
theorem lxn_mem {n : Nat} {m l : List Nat} (h : Low l) : m ∈ lxn n l ↔ m.Sublist l ∧ m.length = n := by
  unfold lxn
  rw [List.mem_filter, lx_mem m l h]
  simp
theorem lxn_sorted (n : Nat) (l : List Nat) : (lxn n l).Pairwise (· < ·) := (lx_sorted l).filter _
def cl (n : Nat) (l : List Nat) : Nat := (lxn n l).length
theorem cl_zero (l : List Nat) : cl 0 l = 1 := by unfold cl; rw [lxn_zero]; rfl
theorem cl_succ (n : Nat) (l : List Nat) : cl (n + 1) l = ((lets l).map fun c => cl n (aft c l)).sum := by
  unfold cl
  rw [lxn_succ, List.length_flatMap]
  simp only [List.length_map]
/-! a letter ahead -/
theorem sum_filter {p : Nat → Prop} [DecidablePred p] (f : Nat → Nat) : ∀ l : List Nat, ((l.filter (fun c => decide (p c))).map f).sum = (l.map fun c => if p c then f c else 0).sum
  | [] => rfl
  | c :: l => by
    by_cases h : p c
    · rw [List.filter_cons_of_pos (by simp [h]), List.map_cons, List.sum_cons, sum_filter f l, List.map_cons, List.sum_cons, if_pos h]
    · rw [List.filter_cons_of_neg (by simp [h]), sum_filter f l, List.map_cons, List.sum_cons, if_neg h, Nat.zero_add]
theorem sum_swap {F G : Nat → Nat} {c : Nat} : ∀ (l : List Nat), l.Nodup → (∀ d ∈ l, d ≠ c → F d = G d) → (c ∈ l → (l.map F).sum + G c = (l.map G).sum + F c) ∧ (c ∉ l → (l.map F).sum = (l.map G).sum)
  | [], _, _ => ⟨fun h => (by cases h), fun _ => rfl⟩
  | d :: l, hn, h => by
    obtain ⟨hd, hn'⟩ := List.nodup_cons.mp hn
    obtain ⟨i1, i2⟩ := sum_swap l hn' fun e he => h e (List.mem_cons_of_mem _ he)
    by_cases z : d = c
    · subst z
      refine ⟨fun _ => ?_, fun q => absurd List.mem_cons_self q⟩
      rw [List.map_cons, List.sum_cons, List.map_cons, List.sum_cons, i2 hd]
      omega
    · have e := h d List.mem_cons_self z
      refine ⟨fun q => ?_, fun q => ?_⟩
      · have hc : c ∈ l := by
          rcases List.mem_cons.mp q with q | q
          · exact absurd q.symm z
          · exact q
        have := i1 hc
        rw [List.map_cons, List.sum_cons, List.map_cons, List.sum_cons, e]
        omega
      · have := i2 fun x => q (List.mem_cons_of_mem _ x)
        rw [List.map_cons, List.sum_cons, List.map_cons, List.sum_cons, e, this]
theorem abc_nodup : abc.Nodup := by decide
theorem abc_mem {c : Nat} (h : 97 ≤ c ∧ c ≤ 122) : c ∈ abc := by
  have : ∀ d : Fin 26, d.val + 97 ∈ abc := by decide
  have := this ⟨c - 97, by omega⟩
  rw [show c - 97 + 97 = c by omega] at this
  exact this
theorem sum_ahead (f : List Nat → Nat) {c : Nat} (l : List Nat) (h : 97 ≤ c ∧ c ≤ 122) :
    ((lets (c :: l)).map fun d => f (aft d (c :: l))).sum + (if c ∈ l then f (aft c l) else 0) = ((lets l).map fun d => f (aft d l)).sum + f l := by
  unfold lets
  rw [sum_filter (p := (· ∈ c :: l)) (fun d => f (aft d (c :: l))), sum_filter (p := (· ∈ l)) (fun d => f (aft d l))]
  have := (sum_swap (F := fun d => if d ∈ c :: l then f (aft d (c :: l)) else 0) (G := fun d => if d ∈ l then f (aft d l) else 0) (c := c) abc abc_nodup fun d _ hd => ?_).1 (abc_mem h)
  · rw [this]
    simp only [List.mem_cons, true_or, if_true, aft_self]
  · simp only [List.mem_cons, hd, false_or]
    rw [aft_ne l (Ne.symm hd)]
theorem cn_cons {c : Nat} (l : List Nat) (h : 97 ≤ c ∧ c ≤ 122) : cn (c :: l) + (if c ∈ l then cn (aft c l) else 0) = 2 * cn l := by
  have := sum_ahead cn l h
  have e1 := cn_eq (c :: l)
  have e2 := cn_eq l
  omega
theorem cl_cons {c : Nat} (n : Nat) (l : List Nat) (h : 97 ≤ c ∧ c ≤ 122) : cl (n + 1) (c :: l) + (if c ∈ l then cl n (aft c l) else 0) = cl (n + 1) l + cl n l := by
  have := sum_ahead (cl n) l h
  rw [cl_succ, cl_succ]
  exact this
theorem cn_nil : cn [] = 1 := rfl
theorem cl_long {n : Nat} {l : List Nat} (h : l.length < n) (lw : Low l) : cl n l = 0 := by
  unfold cl
  rw [List.length_eq_zero_iff, List.eq_nil_iff_forall_not_mem]
  intro m hm
  have := (lxn_mem lw).mp hm
  have := this.1.length_le
  omega
theorem cl_self {l : List Nat} (lw : Low l) : cl l.length l = 1 := by
  unfold cl
  have : lxn l.length l = [l] := lt_ext_txt (lxn_sorted _ _) (by simp) fun m => by
    rw [lxn_mem lw, List.mem_singleton]
    exact ⟨fun h => h.1.eq_of_length h.2, fun h => by subst h; exact ⟨List.Sublist.refl _, rfl⟩⟩
  rw [this]
  rfl
theorem cn_le : ∀ l : List Nat, Low l → cn l ≤ 2 ^ l.length
  | [], _ => Nat.le_refl _
  | c :: l, h => by
    have := cn_cons l (h c List.mem_cons_self)
    have := cn_le l (h.sub fun d hd => List.mem_cons_of_mem _ hd)
    rw [List.length_cons, Nat.pow_succ]
    omega
theorem cl_le (n : Nat) (l : List Nat) : cl n l ≤ cn l := List.length_filter_le _ _
end Lv

set_option linter.all false
set_option maxRecDepth 100000
namespace Lv
open PySem PySem.Spec PyProof.Rows L2 SX
/-! arches -/
def Lets (ls : List Nat) : Prop := ls ≠ [] ∧ Low ls ∧ ls.Pairwise (· < ·)
theorem Lets.len {ls : List Nat} (h : Lets ls) : ls.length ≤ 26 := nodup_len ls abc (h.2.2.imp fun h => Nat.ne_of_lt h) fun c hc => abc_mem (h.2.1 c hc)
theorem Lets.pos {ls : List Nat} (h : Lets ls) : 0 < ls.length := List.length_pos_iff.mpr h.1
theorem Lets.one {c : Nat} (h : 97 ≤ c ∧ c ≤ 122) : Lets [c] := ⟨by simp, Low.one h, by simp⟩
def allIn (ls w : List Nat) : Bool := ls.all fun c => decide (c ∈ w)
theorem allIn_iff {ls w : List Nat} : allIn ls w = true ↔ ∀ c ∈ ls, c ∈ w := by
  unfold allIn
  rw [List.all_eq_true]
  simp
theorem allIn_nil {ls w : List Nat} : allIn ls w = decide (ls.filter (fun c => decide (c ∉ w)) = []) := by
  rw [Bool.eq_iff_iff, allIn_iff, decide_eq_true_eq, List.filter_eq_nil_iff]
  simp
def cutN (l : List Nat) (b e : Nat) : List Nat := (l.drop b).take (e - b)
theorem cutL_N {l : List Nat} {b e : Nat} (h : b ≤ e) : cutL l (some (b : Int)) (some (e : Int)) = cutN l b e := by
  have := cutL_mid l b (e - b)
  rw [show ((b : Nat) : Int) + ((e - b : Nat) : Int) = (e : Nat) by omega] at this
  exact this
theorem cutN_succ {l : List Nat} {b e c : Nat} (h : b ≤ e) (hc : l[e]? = some c) : cutN l b (e + 1) = cutN l b e ++ [c] := by
  unfold cutN
  rw [show e + 1 - b = (e - b) + 1 by omega, List.take_add_one, List.getElem?_drop, show b + (e - b) = e by omega, hc]
  rfl
def arcS (ls l : List Nat) : Nat → List Nat × Nat
  | 0 => ([], 0)
  | e + 1 => if allIn ls (cutN l (arcS ls l e).2 (e + 1)) then ((arcS ls l e).1 ++ [e + 1], e + 1) else arcS ls l e
def arcs (ls l : List Nat) : List Nat := (arcS ls l l.length).1
theorem arcS_le (ls l : List Nat) : ∀ e, (arcS ls l e).2 ≤ e
  | 0 => Nat.le_refl _
  | e + 1 => by
    rw [arcS]
    split
    · exact Nat.le_refl _
    · have := arcS_le ls l e; omega
theorem arcS_len (ls l : List Nat) : ∀ e, (arcS ls l e).1.length ≤ e
  | 0 => Nat.le_refl _
  | e + 1 => by
    rw [arcS]
    have := arcS_len ls l e
    split
    · simp; omega
    · omega
theorem arcs_len (ls l : List Nat) : (arcs ls l).length ≤ l.length := arcS_len ls l _
def pap (ls l : List Nat) : Nat → List Nat → Bool
  | _, [] => true
  | b, e :: es => decide (b < e ∧ e ≤ l.length) && (allIn ls (cutN l b e) && pap ls l e es)
theorem pap_snoc (ls l : List Nat) : ∀ (es : List Nat) (b e : Nat), pap ls l b (es ++ [e]) = (pap ls l b es && (decide ((b :: es).getLastD 0 < e ∧ e ≤ l.length) && allIn ls (cutN l ((b :: es).getLastD 0) e)))
  | [], b, e => by simp [pap]
  | d :: es, b, e => by
    rw [List.cons_append, pap, pap_snoc ls l es d e, pap]
    have : (b :: d :: es).getLastD 0 = (d :: es).getLastD 0 := by simp [List.getLastD]
    rw [this]
    cases decide (b < d ∧ d ≤ l.length) <;> cases allIn ls (cutN l b d) <;> simp
theorem pap_arcS (ls l : List Nat) : ∀ e, e ≤ l.length → pap ls l 0 (arcS ls l e).1 = true ∧ (0 :: (arcS ls l e).1).getLastD 0 = (arcS ls l e).2
  | 0, _ => ⟨rfl, rfl⟩
  | e + 1, h => by
    obtain ⟨h1, h2⟩ := pap_arcS ls l e (by omega)
    have h3 := arcS_le ls l e
    rw [arcS]
    by_cases z : allIn ls (cutN l (arcS ls l e).2 (e + 1)) = true
    · rw [if_pos z]
      refine ⟨?_, (by rw [← List.cons_append, List.getLastD_concat])⟩
      rw [pap_snoc, h1, h2, z, decide_eq_true ⟨by omega, h⟩]
      rfl
    · rw [if_neg z]
      exact ⟨h1, h2⟩
theorem pap_arcs (ls l : List Nat) : pap ls l 0 (arcs ls l) = true := (pap_arcS ls l _ (Nat.le_refl _)).1
/-- numbers to be drawn -/
def Dr (H : Hp) (d : Addr) : Prop := ∃ ns : List Nat, H d = some (.lst (ns.map iv)) ∧ ns.length ≤ 240
theorem Dr.same {H H' : Hp} {d : Addr} (e : Same H H') (x : Dr H d) : Dr H' d := by
  obtain ⟨ns, a, b⟩ := x
  exact ⟨ns, e _ _ a, b⟩
theorem Dr.ne {H : Hp} {d p : Addr} (x : Dr H d) (n : H p = none) : d ≠ p := by
  obtain ⟨ns, a, b⟩ := x
  exact ne_of_none a n
theorem Dr.updN {H : Hp} {d p : Addr} {o : HO} (x : Dr H d) (n : d ≠ p) : Dr (L2.upd H p o) d := by
  obtain ⟨ns, a, b⟩ := x
  exact ⟨ns, by rw [upd_ne n]; exact a, b⟩
end Lv

set_option linter.all false
set_option maxRecDepth 100000
namespace Lv
open PySem PySem.Spec PyProof.Rows L2 SX
/-! things that are no letters -/
def NoLt (K : PySem.W.Frag) (H : Hp) (x : V) : Prop := (∃ ls : List Nat, x = .str (S ls) ∧ ls.length ≤ 1000 ∧ Chr ls ∧ ¬ Lets ls) ∨ Kd K H x "str" false
theorem NoLt.same {K : PySem.W.Frag} {H H' : Hp} {x : V} (h : NoLt K H x) (s : Same H H') : NoLt K H' x := h.imp id (·.same s)
section
variable {K : PySem.W.Frag} {H : Hp}
theorem nl_str {ls : List Nat} (h1 : ls.length ≤ 1000) (h2 : Chr ls) (h3 : ¬ Lets ls) : NoLt K H (.str (S ls)) := .inl ⟨ls, rfl, h1, h2, h3⟩
theorem nl_non : NoLt K H .non := .inr (kd_of .non (by decide +kernel))
theorem nl_bl {b : Bool} : NoLt K H (.bl b) := .inr (kd_of (.bl b) (by decide +kernel))
theorem nl_int {i : Int} : NoLt K H (.int i) := .inr (kd_of (.int i) (by decide +kernel))
theorem nl_lst {a : Addr} {xs : List V} (h : H a = some (.lst xs)) : NoLt K H (.ref a) := .inr (kd_of (.lst h) (by decide +kernel))
theorem nl_tup {a : Addr} {xs : List V} (h : H a = some (.tup xs)) : NoLt K H (.ref a) := .inr (kd_of (.tup h) (by decide +kernel))
theorem nl_dK {a : Addr} {kvs : List (Key × V)} (h : H a = some (.dK kvs)) : NoLt K H (.ref a) := .inr (kd_of (.dK h) (by decide +kernel))
theorem nl_ve {a : Addr} (h : H a = some (CgO (.type "ValueError") a)) : NoLt K H (.ref a) := .inr (kd_ve h (by decide +kernel))
end
theorem nlet_mem {ls : List Nat} {s : Nat} (h : s ∈ ls) (n : ¬ (97 ≤ s ∧ s ≤ 122)) : ¬ Lets ls := fun z => n (z.2.1 s h)
theorem nlet_two {a b : List Nat} {x y : Nat} (hx : x ∈ a) (hy : y ∈ b) (n : ¬ x < y) : ¬ Lets (a ++ b) := fun z => n ((List.pairwise_append.mp z.2.2).2.2 x hx y hy)
theorem abc_iff1 {c : Nat} : c ∈ abc ↔ 97 ≤ c ∧ c ≤ 122 := ⟨fun h => low_abc c h, abc_mem⟩
theorem chr_app {a b : List Nat} (h : Chr a) (k : Chr b) : Chr (a ++ b) := fun c hc => (List.mem_append.mp hc).elim (h c) (k c)
theorem chr_sub {a b : List Nat} (h : Chr b) (k : ∀ c ∈ a, c ∈ b) : Chr a := fun c hc => h c (k c hc)
/-- what needs no filter: none is kept just where all go -/
theorem filt_nil {α β : Type} {f : α → Option β} {l : List α} : l.filterMap f = [] ↔ ∀ c ∈ l, f c = none := List.filterMap_eq_nil_iff
theorem pw_of_adj : ∀ {ls : List Nat}, (∀ i, i + 1 < ls.length → ls.getD i 0 < ls.getD (i + 1) 0) → ls.Pairwise (· < ·)
  | [], _ => List.Pairwise.nil
  | [a], _ => List.pairwise_singleton _ _
  | a :: b :: l, h => by
    have h1 : a < b := h 0 (by simp)
    have ih : (b :: l).Pairwise (· < ·) := pw_of_adj fun i hi => h (i + 1) (by simp at hi ⊢; omega)
    refine List.Pairwise.cons (fun c hc => ?_) ih
    rcases List.mem_cons.mp hc with z | z
    · omega
    · have := (List.pairwise_cons.mp ih).1 c z
      omega
theorem fm_congr {α β : Type} {f g : α → Option β} : ∀ {l : List α}, (∀ c ∈ l, f c = g c) → l.filterMap f = l.filterMap g
  | [], _ => rfl
  | c :: l, h => by
    rw [List.filterMap_cons, List.filterMap_cons, h c List.mem_cons_self, fm_congr fun d hd => h d (List.mem_cons_of_mem _ hd)]
/-- the signs that are no small letters -/
def nots (ls : List Nat) : List Nat := ls.filterMap fun c => if c ∈ abc then none else some c
theorem keep_no (ls : List Nat) : ls.filterMap (fun c => if c ∈ abc then none else some (vc c)) = (nots ls).map vc := by
  unfold nots
  rw [List.map_filterMap]
  refine fm_congr fun c _ => ?_
  by_cases z : c ∈ abc
  · rw [if_pos z, if_pos z]; rfl
  · rw [if_neg z, if_neg z]; rfl
theorem nots_nil {ls : List Nat} : nots ls = [] ↔ Low ls := by
  unfold nots
  rw [filt_nil]
  constructor
  · intro h c hc
    have := h c hc
    by_cases z : c ∈ abc
    · exact abc_iff1.mp z
    · rw [if_neg z] at this; cases this
  · intro h c hc
    rw [if_pos (abc_mem (h c hc))]
theorem nots_mem {ls : List Nat} {c : Nat} (h : c ∈ nots ls) : c ∈ ls := by
  obtain ⟨d, hd, e⟩ := List.mem_filterMap.mp h
  by_cases z : d ∈ abc
  · rw [if_pos z] at e; cases e
  · rw [if_neg z] at e
    cases e
    exact hd
end Lv

set_option Elab.async false
set_option linter.all false
set_option maxRecDepth 100000
set_option maxHeartbeats 4000000
namespace Lv
open PySem PySem.Spec PyProof.Rows L2 SX
local macro_rules | `(tactic| tm_at "n") => `(tactic| (first | assumption | (simp only [List.length_append, List.length_cons, List.length_nil, List.length_reverse, List.length_map, List.length_replicate, List.length_set, List.length_singleton, List.length_range, List.length_take, List.length_drop, List.length_flatten]; omega) | omega | decide))
local macro_rules | `(tactic| tm_at "z") => `(tactic| (first | exact Lv.le_line (by tm_at "n") | exact Lv.lt_line (by tm_at "n")))
local macro_rules | `(tactic| tm_at "c") => `(tactic| (first | (show (0 : Int) < _; omega) | exact ⟨by omega, by omega⟩ | exact Or.inl ⟨by omega, by omega⟩ | exact Or.inr ⟨by omega, by omega⟩ | decide))
local macro_rules | `(tactic| tm_at "s") => `(tactic| first
  | with_reducible refine Lv.i_seq ?_ | with_reducible refine Lv.i_set ?_ | with_reducible refine Lv.i_ret ?_ | with_reducible refine Lv.i_if ?_ | with_reducible refine Lv.i_drop ?_ | with_reducible refine Lv.i_next ?_
  | with_reducible refine Lv.i_brk ?_ | with_reducible refine Lv.i_cont ?_ | ((with_reducible refine' Lv.i_var ?hv ?_); (case hv => exact rfl)) | with_reducible refine Lv.i_c ?_ | with_reducible refine Lv.i_op ?_ | with_reducible refine Lv.i_un ?_
  | with_reducible refine Lv.i_cb ?_ | with_reducible refine Lv.i_call ?_ | with_reducible refine Lv.i_meth ?_ | with_reducible refine Lv.i_fld ?_ | with_reducible refine Lv.i_sfld ?_ | with_reducible refine Lv.i_make ?_ | with_reducible refine Lv.i_nil ?_ | with_reducible refine Lv.i_cons ?_ | with_reducible refine Lv.i_lst ?_ | with_reducible refine Lv.i_tup ?_
  | with_reducible refine Lv.i_bm ?_ | with_reducible refine Lv.i_bm0 ?_ | with_reducible refine Lv.i_tyS ?_ | with_reducible refine Lv.i_sl ?_ | with_reducible refine Lv.i_noPart ?_ | with_reducible refine Lv.i_part ?_ | with_reducible refine Lv.i_exI ?_
  | with_reducible refine Lv.i_chain ?_ | with_reducible refine Lv.i_isN_n ?_ | with_reducible refine Lv.i_isN_r ?_ | with_reducible refine Lv.i_isN_i ?_ | with_reducible refine Lv.i_isN_s ?_ | with_reducible refine Lv.i_notN_n ?_ | with_reducible refine Lv.i_notN_r ?_ | with_reducible refine Lv.i_notN_i ?_ | with_reducible refine Lv.i_notN_s ?_ | with_reducible refine Lv.i_bl ?_ | with_reducible refine Lv.i_test ?_ | with_reducible refine Lv.i_tB ?_ | with_reducible refine Lv.i_not ?_ | with_reducible refine Lv.i_and ?_ | with_reducible refine Lv.i_or ?_
  | with_reducible refine Lv.i_andV ?_ | with_reducible refine Lv.i_orV ?_ | with_reducible refine Lv.i_notV ?_ | with_reducible refine Lv.i_ifE ?_ | with_reducible refine Lv.i_rI0 ?_ | ((with_reducible refine Lv.i_rI ?hc ?_); (case hc => tm_at "c"))
  | with_reducible refine Lv.i_rU ?_ | with_reducible refine Lv.i_r2S ?_ | with_reducible refine Lv.i_in1 ?_ | with_reducible refine Lv.i_notIn1 ?_ | ((with_reducible refine Lv.i_addS ?hz ?_); (case hz => tm_at "z"))
  | ((with_reducible refine Lv.i_slS ?hz ?_); (case hz => tm_at "z")) | with_reducible refine Lv.i_tRevS ?_ | with_reducible refine Lv.i_revL ?_ | with_reducible refine Lv.i_zip ?_ | with_reducible refine Lv.i_abs ?_ | with_reducible refine Lv.i_max2 ?_ | with_reducible refine Lv.i_min2 ?_ | with_reducible refine Lv.i_lstRg ?_ | with_reducible refine Lv.i_rg1 ?_ | with_reducible refine Lv.i_sortSetS ?_ | with_reducible refine Lv.i_sortSetL ?_ | with_reducible refine Lv.i_sortSetI ?_ | with_reducible refine Lv.i_dnewK ?_ | with_reducible refine Lv.i_dIn ?_ | with_reducible refine Lv.i_dNotIn ?_ | with_reducible refine Lv.i_dGet ?_ | with_reducible refine Lv.i_dPut ?_ | with_reducible refine Lv.i_dGet1 ?_ | with_reducible refine Lv.i_dGet2 ?_ | ((with_reducible refine Lv.i_revS ?hz ?_); (case hz => tm_at "z")) | ((with_reducible refine Lv.i_lenT ?hz ?_); (case hz => tm_at "z"))
  | ((with_reducible refine' Lv.i_aug ?hv ?_); (case hv => exact rfl)) | with_reducible refine Lv.i_ipI ?_ | with_reducible refine Lv.i_asg ?_
  | with_reducible refine Lv.i_augS ?_ | with_reducible refine Lv.i_gSub ?_ | with_reducible refine Lv.i_gName ?_ | with_reducible refine Lv.i_gCons ?_ | with_reducible refine Lv.i_gNil ?_ | with_reducible refine Lv.i_par ?_ | with_reducible refine Lv.i_intB ?_ | with_reducible refine Lv.i_r2B ?_ | with_reducible refine Lv.i_listEn ?_ | with_reducible refine Lv.i_tYes ?_ | with_reducible refine Lv.i_str ?_ | with_reducible refine Lv.i_list ?_ | with_reducible refine Lv.i_rng1 ?_ | with_reducible refine Lv.i_rng2 ?_ | with_reducible refine Lv.i_rng3 ?_ | with_reducible refine Lv.i_enumS ?_ | with_reducible refine Lv.i_enumL ?_ | with_reducible refine Lv.i_tupI ?_
  | ((with_reducible refine Lv.x_r1 ?h0 ?h1 ?_); (case h0 => first | omega | (simp; omega)); (case h1 => first | omega | (simp; omega))) | ((with_reducible refine Lv.x_r2 ?h0 ?_); (case h0 => exact ⟨by omega, by omega, by omega, by omega⟩)) | ((with_reducible refine Lv.x_dn ?h0 ?_); (case h0 => exact ⟨by omega, by omega, by omega, by omega⟩))
  | with_reducible refine Lv.x_str ?_ | with_reducible refine Lv.x_enumS ?_ | ((with_reducible refine' Lv.x_list ?h0 ?_); (case h0 => first | exact SqL.of1 (by assumption) | assumption | exact SqL.of1 upd_same)) | ((with_reducible refine' Lv.x_enumL ?h0 ?_); (case h0 => first | exact SqL.of1 (by assumption) | assumption | exact SqL.of1 upd_same))
  | ((with_reducible refine' Lv.i_ixL ?hp ?hn ?_); (case hp => first | exact SqL.of1 (by assumption) | exact SqL.of1 upd_same); (case hn => exact rfl))
  | (with_reducible refine L2.iteT ?_) | (with_reducible refine L2.iteF ?_) | (with_reducible refine Lv.iteNF ?_) | (with_reducible refine Lv.iteNT ?_) | (with_reducible refine Lv.iteNNF ?_) | (with_reducible refine Lv.iteNNT ?_) | (with_reducible refine Lv.iteR ?_) | (with_reducible refine Lv.iteNR ?_) | (with_reducible refine Lv.iteFT ?_) | (with_reducible refine Lv.iteTF ?_) | (with_reducible refine Lv.iteNFT ?_) | (with_reducible refine Lv.iteNTF ?_) | (with_reducible refine Lv.x_nx ?_))
local macro_rules | `(tactic| tm_at "w") => `(tactic| (repeat tm_at "s"))
local macro_rules | `(tactic| tm_at "fo") => `(tactic| ((refine' Lv.fo ?a ?_); (case a => (intro R' k'; tm_at "w"; exact k'))))
local macro_rules | `(tactic| tm_at "lc") => `(tactic| ((refine' Lv.lc ?a ?_); (case a => (intro R' k'; tm_at "w"; exact k'))))
local macro_rules | `(tactic| tm_at "t") => `(tactic| first
  | with_reducible refine Lv.v_lst ?_ | with_reducible refine Lv.v_tup ?_ | ((with_reducible refine Lv.v_lstK ?hz ?_); (case hz => tm_at "z")) | ((with_reducible refine Lv.v_tupK ?hz ?_); (case hz => tm_at "z")) | with_reducible refine Lv.v_dnewK ?_ | with_reducible refine Lv.v_revL ?_ | with_reducible refine Lv.v_sortSetS ?_ | with_reducible refine Lv.v_lenSetS ?_
  | tm_at "s" | with_reducible refine Lv.i_raise ?_ | with_reducible refine Lv.i_callS ?_ | with_reducible refine Lv.i_tryAx ?_ | with_reducible refine Lv.v_ve ?_)
local macro_rules | `(tactic| tm_at "v") => `(tactic| (repeat tm_at "t"))
/-! law_take_1(deck, many): slots 0 deck, 1 many, 2 come, 3 number -/
abbrev N_law_take_1 : List Str := ["deck", "many", "come", "number"]
def t_law_take_1 (K : PySem.W.Frag) : TS :=
  (tSeq (tIfS (tTest (tOp Lv.rEqI (tOp (rIxL K) (tVar 0) (tC (.int 1))) (tC (.int 0)))) (tSeq (tAsg (tOp Lv.rMod (tOp (rIxL K) (tVar 0) (tC (.int 0))) (tVar 1)) (gName 2)) (tSeq (tAsg (tOp Lv.rDivW (tOp (rIxL K) (tVar 0) (tC (.int 0))) (tVar 1)) (gSub (tVar 0) (tC (.int 0)) rSetL)) (tRet (tVar 2)))) tNext) (tSeq (tAsg (tOp Lv.rAdd (tOp (rIxL K) (tVar 0) (tC (.int 2))) (tC (.int 1))) (gSub (tVar 0) (tC (.int 2)) rSetL)) (tSeq (tAsg (tOp Lv.rMul (tOp Lv.rMod (tOp (rIxL K) (tVar 0) (tC (.int 0))) (tC (.int 2147483647))) (tOp Lv.rAdd (tOp Lv.rMul (tOp (rIxL K) (tVar 0) (tC (.int 2))) (tOp (rIxL K) (tVar 0) (tC (.int 2)))) (tC (.int 48271)))) (gName 3)) (tSeq (tAsg (tOp Lv.rMod (tOp Lv.rAdd (tOp Lv.rAdd (tVar 3) (tOp (rIxL K) (tVar 0) (tC (.int 2)))) (tC (.int 7))) (tC (.int 2147483629))) (gName 3)) (tSeq (tAsg (tOp Lv.rMod (tOp Lv.rMul (tVar 3) (tVar 3)) (tC (.int 2147483587))) (gName 3)) (tRet (tOp Lv.rMod (tOp Lv.rDiv (tOp Lv.rMod (tOp Lv.rMul (tVar 3) (tC (.int 69621))) (tC (.int 2147483563))) (tC (.int 8))) (tVar 1))))))))
-- needs: Lv38
/-- a deck of draws: its third number is n at most -/
def Dk (H : Hp) (d : Addr) (n : Nat) : Prop := ∃ (c f : Int) (k : Nat), H d = some (.lst [.int c, .int f, .int (k : Nat)]) ∧ (f = 0 ∧ 0 ≤ c ∨ f = 1) ∧ k ≤ n
theorem Dk.same {H H' : Hp} {d : Addr} {n : Nat} (s : Same H H') (h : Dk H d n) : Dk H' d n := by
  obtain ⟨c, f, k, e, z⟩ := h
  exact ⟨c, f, k, s _ _ e, z⟩
theorem Dk.more {H : Hp} {d : Addr} {n m : Nat} (h : Dk H d n) (l : n ≤ m) : Dk H d m := by
  obtain ⟨c, f, k, e, z, w⟩ := h
  exact ⟨c, f, k, e, z, by omega⟩
theorem Dk.ne {H : Hp} {d p : Addr} {n : Nat} (h : Dk H d n) (e : H p = none) : d ≠ p := by
  obtain ⟨c, f, k, h, _⟩ := h
  exact ne_of_none h e
theorem Dk.is {H : Hp} {d : Addr} {n : Nat} (h : Dk H d n) : ∃ o, H d = some o := by
  obtain ⟨c, f, k, h, _⟩ := h
  exact ⟨_, h⟩
theorem Dk.but {H H' : Hp} {d a : Addr} {n : Nat} (h : Dk H d n) (b : But a H H') (ne : d ≠ a) : Dk H' d n := by
  obtain ⟨c, f, k, e, z⟩ := h
  exact ⟨c, f, k, b _ _ ne e, z⟩
theorem Dk.updN {H : Hp} {d p : Addr} {n : Nat} {o : HO} (h : Dk H d n) (ne : d ≠ p) : Dk (L2.upd H p o) d n := by
  obtain ⟨c, f, k, e, z⟩ := h
  exact ⟨c, f, k, by rw [upd_ne ne]; exact e, z⟩
def sp_law_take_1 (K : PySem.W.Frag) : Sp := fun vs H Q _ => ∃ (d : Addr) (n m : Nat), vs = [.ref d, .int (m : Nat)] ∧ Dk H d n ∧ n < 2 ^ 30 ∧ 0 < m ∧ m < 2 ^ 100 ∧ ∀ (r : Nat) H', r < m → Dk H' d (n + 1) → But d H H' → Q (.int (r : Nat)) H'
theorem i_law_take_1 {K : PySem.W.Frag} {d : Addr} {n : Nat} (m : Nat) {x : Int} {H : Hp} {Q : VK} {E : XK} (hx : x = (m : Nat)) (hd : Dk H d n) (hn : n < 2 ^ 30) (h0 : 0 < m) (h1 : m < 2 ^ 100) (q : ∀ (r : Nat) H', r < m → Dk H' d (n + 1) → But d H H' → Q (.int (r : Nat)) H') : sp_law_take_1 K [.ref d, .int x] H Q E := by
  subst hx
  exact ⟨d, n, m, rfl, hd, hn, h0, h1, q⟩
theorem pure_law_take_1 {K : PySem.W.Frag} (vs : List V) (H : Hp) (Q : VK) (E : XK) (h : sp_law_take_1 K vs H Q E) : t_law_take_1 K { nx := fun _ H' => Q .non H', rt := Q } (start N_law_take_1 vs) H := by
  obtain ⟨d, n, m, rfl, ⟨c, f, k, hd, hf, hk⟩, hn, h0, h1, q⟩ := h
  unfold t_law_take_1
  tm_at "v"
  rcases hf with ⟨rfl, c0⟩ | rfl
  · refine if_yes rfl ?_
    tm_at "v"
    refine i_rI (show CDivW _ _ from divW_ok (by omega) (by rw [Int.natAbs_natCast]; exact Nat.lt_trans h1 (Nat.pow_lt_pow_right (by decide) (by decide)))) ?_
    tm_at "v"
    refine i_setL hd (j := 0) (by rfl) ?_
    tm_at "v"
    obtain ⟨r, er⟩ := Int.eq_ofNat_of_zero_le (Int.emod_nonneg c (show ((m : Nat) : Int) ≠ 0 by omega))
    have rl : (r : Int) < (m : Int) := by rw [← er]; exact Int.emod_lt_of_pos _ (by omega)
    rw [er]
    exact q r _ (by omega) ⟨c / m, 0, k, upd_same, .inl ⟨rfl, Int.ediv_nonneg c0 (by omega)⟩, by omega⟩ But.upd
  · refine if_no (by decide) ?_
    tm_at "v"
    refine i_setL hd (j := 2) (by rfl) ?_
    have hd2 : upd H d (.lst [.int c, .int 1, .int ((k : Int) + 1)]) d = some (.lst [.int c, .int 1, .int ((k : Int) + 1)]) := upd_same
    show tSeq _ _ _ _ (upd H d (.lst [.int c, .int 1, .int ((k : Int) + 1)]))
    have b2 : But d H (upd H d (.lst [.int c, .int 1, .int ((k : Int) + 1)])) := But.upd
    generalize upd H d (.lst [.int c, .int 1, .int ((k : Int) + 1)]) = H2 at *
    tm_at "v"
    generalize (c % 2147483647 * (((k : Int) + 1) * ((k : Int) + 1) + 48271) + ((k : Int) + 1) + 7) % 2147483629 * ((c % 2147483647 * (((k : Int) + 1) * ((k : Int) + 1) + 48271) + ((k : Int) + 1) + 7) % 2147483629) % 2147483587 * 69621 % 2147483563 / 8 = z
    obtain ⟨r, er⟩ := Int.eq_ofNat_of_zero_le (Int.emod_nonneg z (show ((m : Nat) : Int) ≠ 0 by omega))
    have rl : (r : Int) < (m : Int) := by rw [← er]; exact Int.emod_lt_of_pos _ (by omega)
    rw [er]
    exact q r _ (by omega) ⟨c, 1, k + 1, hd2, .inr rfl, by omega⟩ b2
/-! law_deck_0(cell, k): slots 0 cell, 1 k -/
abbrev N_law_deck_0 : List Str := ["cell", "k"]
def t_law_deck_0 (K : PySem.W.Frag) : TS :=
  (tSeq (tIfS (tTest (tOp Lv.rGe (tVar 0) (tOp Lv.rPow (tC (.int 10)) (tC (.int 18))))) (tRet (tLst (tCons (tOp Lv.rSub (tVar 0) (tOp Lv.rPow (tC (.int 10)) (tC (.int 18)))) (tCons (tC (.int 0)) (tCons (tVar 1) tNil))))) tNext) (tRet (tLst (tCons (tVar 0) (tCons (tC (.int 1)) (tCons (tVar 1) tNil))))))
-- needs: Lv38 Q_law_take_1
def sp_law_deck_0 (K : PySem.W.Frag) : Sp := fun vs H Q _ => ∃ (c : Int) (n : Nat), vs = [.int c, .int (n : Nat)] ∧ ∀ d H', H d = none → Same H H' → Dk H' d n → Q (.ref d) H'
theorem i_law_deck_0 {K : PySem.W.Frag} {c : Int} (n : Nat) {x : Int} {H : Hp} {Q : VK} {E : XK} (hx : x = (n : Nat)) (q : ∀ d H', H d = none → Same H H' → Dk H' d n → Q (.ref d) H') : sp_law_deck_0 K [.int c, .int x] H Q E := by
  subst hx
  exact ⟨c, n, rfl, q⟩
theorem pure_law_deck_0 {K : PySem.W.Frag} (vs : List V) (H : Hp) (Q : VK) (E : XK) (h : sp_law_deck_0 K vs H Q E) : t_law_deck_0 K { nx := fun _ H' => Q .non H', rt := Q } (start N_law_deck_0 vs) H := by
  obtain ⟨c, n, rfl, q⟩ := h
  unfold t_law_deck_0
  tm_at "v"
  have e18 : (10 : Int) ^ Int.toNat 18 = 1000000000000000000 := by decide
  rw [e18]
  refine if_dec (fun z => ?_) (fun z => ?_)
  · tm_at "v"
    rw [e18]
    intro p H1 n1 s1 h1
    exact q p H1 n1 s1 ⟨_, 0, n, h1, .inl ⟨rfl, by omega⟩, Nat.le_refl _⟩
  · tm_at "v"
    intro p H1 n1 s1 h1
    exact q p H1 n1 s1 ⟨_, 1, n, h1, .inr rfl, Nat.le_refl _⟩
/-! law_text_0(deck): slots 0 deck, 1 numbers, 2 k -/
abbrev N_law_text_0 : List Str := ["deck", "numbers", "k"]
def t_law_text_0 (K : PySem.W.Frag) : TS :=
  (tSeq (tAsg (tLst tNil) (gName 1)) (tSeq (tFor (iRng1 (tCons (tCall (sp_law_take_1 K) [] E0 (tCons (tVar 0) (tCons (tOp (rIxL K) (tLst (tCons (tC (.int 20)) (tCons (tC (.int 200)) tNil))) (tCB Lv.rIntB (tCons (tOp Lv.rEqI (tCall (sp_law_take_1 K) [] E0 (tCons (tVar 0) (tCons (tC (.int 6)) tNil))) (tC (.int 0))) tNil))) tNil))) tNil)) (gName 2) (tDrop (tBM K "list" rAppend (tVar 1) (tCons (tCB Lv.rStrI (tCons (tCall (sp_law_take_1 K) [] E0 (tCons (tVar 0) (tCons (tOp (rIxL K) (tLst (tCons (tC (.int 2)) (tCons (tC (.int 10)) (tCons (tC (.int 1000)) (tCons (tOp Lv.rPow (tC (.int 10)) (tC (.int 12))) tNil))))) (tCall (sp_law_take_1 K) [] E0 (tCons (tVar 0) (tCons (tC (.int 4)) tNil)))) tNil))) tNil)) tNil)))) (tRet (tIf (tTest (tOp (Lv.rEqLS K) (tVar 1) (tLst tNil))) (tC (.str (S [45]))) (tBM K "str" (Lv.rJoin K) (tC (.str (S [32]))) (tCons (tVar 1) tNil))))))
-- needs: Lv41 Q_law_take_1
def sp_law_text_0 (K : PySem.W.Frag) : Sp := fun vs H Q _ => ∃ (d : Addr) (n : Nat), vs = [.ref d] ∧ Dk H d n ∧ n < 2 ^ 29 ∧ ∀ (a : List Nat) H' , a.length ≤ 2700 → Dk H' d (n + 500) → But d H H' → Q (.str (S a)) H'
theorem i_law_text_0 {K : PySem.W.Frag} {d : Addr} {n : Nat} {H : Hp} {Q : VK} {E : XK} (hd : Dk H d n) (hn : n < 2 ^ 29) (q : ∀ (a : List Nat) H' , a.length ≤ 2700 → Dk H' d (n + 500) → But d H H' → Q (.str (S a)) H') : sp_law_text_0 K [.ref d] H Q E := ⟨d, n, rfl, hd, hn, q⟩
theorem pure_law_text_0 {K : PySem.W.Frag} (vs : List V) (H : Hp) (Q : VK) (E : XK) (h : sp_law_text_0 K vs H Q E) : t_law_text_0 K { nx := fun _ H' => Q .non H', rt := Q } (start N_law_text_0 vs) H := by
  obtain ⟨d, n, rfl, hd, hn, q⟩ := h
  unfold t_law_text_0
  tm_at "v"
  intro p H1 n1 s1 h1
  have hd1 := Dk.same s1 hd
  have npd : p ≠ d := (hd.ne n1).symm
  tm_at "v"
  refine foM (fun J H2 => ∃ m : Nat, J = Itr 0 m ∧ m ≤ 200 ∧ Dk H2 d (n + 2) ∧ But d H1 H2) (fun R k => ?_) ?_
  · tm_at "v"
    intro p2 H2 n2 s2 h2
    have hd2 := Dk.same s2 hd1
    have n2d : p2 ≠ d := (hd1.ne n2).symm
    tm_at "v"
    refine i_law_take_1 6 rfl hd2 (by omega) (by decide) (by decide) fun r5 H5 g5 hd5 b5 => ?_
    tm_at "v"
    refine i_pickN (ns := [20, 200]) (SqL.of1 (b5.at h2 n2d)) (by split <;> omega) (by simp; split <;> omega) fun sz hsz => ?_
    obtain ⟨szn, rfl, sz0, sz1⟩ : ∃ szn : Nat, sz = (szn : Int) ∧ 0 < szn ∧ szn ≤ 200 := by
      simp only [List.mem_cons, List.not_mem_nil, or_false] at hsz
      rcases hsz with e | e
      · exact ⟨20, e, by decide, by decide⟩
      · exact ⟨200, e, by decide, by decide⟩
    tm_at "v"
    refine i_law_take_1 szn rfl hd5 (by omega) sz0 (by omega) fun r6 H6 g6 hd6 b6 => ?_
    tm_at "v"
    exact k _ _ ⟨r6, by simp, by omega, hd6, s2.but.trans (b5.trans b6)⟩
  rintro J H2 ⟨m, rfl, hm, hd2, b2⟩
  have h2 := b2.at h1 npd
  refine f_r ⟨fun i σ H' => ∃ (v2 : Option V) (ws : List (List Nat)), σ = [some (.ref d), some (.ref p), v2] ∧ H' p = some (.lst (ws.map vs)) ∧ ws.length = i ∧ (∀ w ∈ ws, w.length ≤ 12 ∧ Chr w) ∧ Dk H' d (n + 2 + 2 * i) ∧ ∀ b o, b ≠ d → b ≠ p → H2 b = some o → H' b = some o, ⟨_, [], rfl, h2, rfl, (fun _ z => (nomatch z)), hd2, fun _ _ _ _ z => z⟩, ?_, ?_⟩
  · rintro i x σ Ha H3 hi ⟨v2, ws, rfl, h3, lw, hw, hd3, b3⟩ ⟨rfl, rfl⟩
    tm_at "v"
    refine i_tyL (SqL.of1 h3) ?_
    tm_at "v"
    intro p4 H4 n4 s4 h4
    have hd4 := Dk.same s4 hd3
    have n4d : p4 ≠ d := (hd3.ne n4).symm
    tm_at "v"
    refine i_law_take_1 4 rfl hd4 (by omega) (by decide) (by decide) fun r5 H5 g5 hd5 b5 => ?_
    tm_at "v"
    refine i_pickN (ns := [2, 10, 1000, 1000000000000]) (SqL.of1 (b5.at h4 n4d)) (by omega) (by simp; omega) fun sz hsz => ?_
    obtain ⟨szn, rfl, sz0, sz1⟩ : ∃ szn : Nat, sz = (szn : Int) ∧ 0 < szn ∧ szn ≤ 1000000000000 := by
      simp only [List.mem_cons, List.not_mem_nil, or_false] at hsz
      rcases hsz with e | e | e | e
      · exact ⟨2, e, by decide, by decide⟩
      · exact ⟨10, e, by decide, by decide⟩
      · exact ⟨1000, e, by decide, by decide⟩
      · exact ⟨1000000000000, e, by decide, by decide⟩
    tm_at "v"
    refine i_law_take_1 szn rfl hd5 (by omega) sz0 (Nat.lt_of_le_of_lt sz1 (by decide)) fun r6 H6 g6 hd6 b6 => ?_
    tm_at "v"
    refine i_strN (Nat.lt_of_lt_of_le (show r6 < 10 ^ 12 by omega) (Nat.pow_le_pow_right (by decide) (by decide))) ?_
    tm_at "v"
    have B6 : ∀ b o, b ≠ d → H3 b = some o → H6 b = some o := fun b o nb e => (b5.trans b6) _ _ nb (s4 _ _ e)
    refine v_app (B6 _ _ npd h3) (lt_line (by rw [List.length_map]; omega)) fun H7 b7 h7 => ?_
    tm_at "v"
    refine ⟨_, ws ++ [TL.numL r6], rfl, by rw [h7, List.map_append]; rfl, by rw [List.length_append, lw]; rfl, fun w hw' => ?_, ?_, fun b o nb np e => b7 _ _ np (B6 _ _ nb (b3 _ _ nb np e))⟩
    · rcases List.mem_append.mp hw' with z | z
      · exact hw w z
      · rw [List.mem_singleton.mp z]
        exact ⟨TL.numL_len (by decide) (by omega), fun c hc => by have := TL.numL_digits r6 c hc; omega⟩
    · obtain ⟨c, f, kk, e, r⟩ := hd6
      exact ⟨c, f, kk, b7 _ _ npd.symm e, r.1, by omega⟩
  · rintro σ H3 ⟨v2, ws, rfl, h3, lw, hw, hd3, b3⟩
    have fin : ∀ (a : List Nat) H', a.length ≤ 2700 → Same H3 H' → Q (.str (S a)) H' := fun a H' la s => q a H' la (Dk.same s (hd3.more (by omega))) (fun b o nb e => s _ _ (b3 _ _ nb (fun z => by rw [z, n1] at e; cases e) (b2 _ _ nb (s1 _ _ e))))
    tm_at "v"
    intro p4 H4 n4 s4 h4
    refine i_r2LS (ns := ws) (ms := []) (SqL.of1 (s4 _ _ h3)) (SqL.of1 h4) (fun l hl => (hw l hl).2) (fun _ z => nomatch z) ?_
    tm_at "v"
    by_cases e : ws = []
    · rw [decide_eq_true e]
      tm_at "v"
      exact fin _ _ (by simp) s4
    · rw [decide_eq_false e]
      tm_at "v"
      have sl := sum_len (k := 12) fun w hm => (hw w hm).1
      have jl := join_len ws
      refine i_join (ys := ws) (SqL.of1 (s4 _ _ h3)) (by simp; omega) ?_
      exact fin _ _ (by omega) s4
/-! law_bad_1(deck): slots 0 deck, 1 some, 2 odd -/
abbrev N_law_bad_1 : List Str := ["deck", "some", "odd"]
def t_law_bad_1 (K : PySem.W.Frag) : TS :=
  (tSeq (tAsg (tLst (tCons (tC (.str (S []))) (tCons (tC (.str (S [45]))) (tCons (tC (.str (S [45, 45]))) (tCons (tC (.str (S [48, 48]))) (tCons (tC (.str (S [48, 49]))) (tCons (tC (.str (S [45, 48]))) (tCons (tC (.str (S [45, 49]))) (tCons (tC (.str (S [43, 49]))) (tCons (tC (.str (S [49, 46, 48]))) (tCons (tC (.str (S [49, 95, 48]))) (tCons (tC (.str (S [120]))) (tCons (tC (.str (S [48, 120, 49]))) (tCons (tC (.str (S [49, 45]))) (tCons (tC (.str (S [49, 101, 51]))) tNil))))))))))))))) (gName 1)) (tSeq (tAsg (tOp L2.rCat (tVar 1) (tLst (tCons (tC (.str (S [45, 32, 49]))) (tCons (tOp Lv.rMulS (tC (.str (S [57]))) (tC (.int 30))) (tCons (tOp Lv.rMulS (tC (.str (S [57]))) (tC (.int 31))) (tCons (tOp Lv.rAddS (tC (.str (S [49]))) (tOp Lv.rMulS (tC (.str (S [48]))) (tC (.int 29)))) (tCons (tOp Lv.rAddS (tC (.str (S [49]))) (tOp Lv.rMulS (tC (.str (S [48]))) (tC (.int 30)))) (tCons (tOp Lv.rMulS (tC (.str (S [48]))) (tC (.int 30))) (tCons (tOp Lv.rMulS (tC (.str (S [55]))) (tC (.int 900))) tNil))))))))) (gName 1)) (tSeq (tAsg (tOp L2.rCat (tVar 1) (tLst (tCons (tC (.str (S [49, 44, 50]))) (tCons (tC (.str (S [49, 10]))) tNil)))) (gName 1)) (tSeq (tAsg (tC (.str (S [33, 35, 36, 39, 40, 41, 42, 46, 47, 58, 59, 60, 61, 62, 63, 64, 66, 77, 88, 89, 91, 93, 94, 96, 123, 124, 125, 126, 97, 98, 122]))) (gName 2)) (tSeq (tDrop (tBM K "list" rAppend (tVar 1) (tCons (tOp Lv.rIxT1 (tVar 2) (tCall (sp_law_take_1 K) [] E0 (tCons (tVar 0) (tCons (tCB Lv.rLenT (tCons (tVar 2) tNil)) tNil)))) tNil))) (tSeq (tDrop (tBM K "list" rAppend (tVar 1) (tCons (tOp Lv.rAddS (tC (.str (S [49]))) (tOp Lv.rIxT1 (tVar 2) (tCall (sp_law_take_1 K) [] E0 (tCons (tVar 0) (tCons (tCB Lv.rLenT (tCons (tVar 2) tNil)) tNil))))) tNil))) (tRet (tOp (rIxL K) (tVar 1) (tCall (sp_law_take_1 K) [] E0 (tCons (tVar 0) (tCons (tCB (Lv.rLenL K) (tCons (tVar 1) tNil)) tNil)))))))))))
-- needs: Lv41 Q_law_take_1
def TxS (x : V) : Prop := ∃ w : List Nat, x = .str (S w) ∧ w.length ≤ 900
theorem txs_nil : ∀ x ∈ ([] : List V), TxS x := fun _ z => nomatch z
theorem txs_cons {w : List Nat} {xs : List V} (h : w.length ≤ 900) (t : ∀ x ∈ xs, TxS x) : ∀ x ∈ V.str (S w) :: xs, TxS x := fun x hx => by
  rcases List.mem_cons.mp hx with e | e
  · exact ⟨w, e, h⟩
  · exact t x e
def sp_law_bad_1 (K : PySem.W.Frag) : Sp := fun vs H Q _ => ∃ (d : Addr) (n : Nat), vs = [.ref d] ∧ Dk H d n ∧ n < 2 ^ 29 ∧ ∀ (a : List Nat) H' , a.length ≤ 900 → Dk H' d (n + 3) → But d H H' → Q (.str (S a)) H'
theorem i_law_bad_1 {K : PySem.W.Frag} {d : Addr} {n : Nat} {H : Hp} {Q : VK} {E : XK} (hd : Dk H d n) (hn : n < 2 ^ 29) (q : ∀ (a : List Nat) H' , a.length ≤ 900 → Dk H' d (n + 3) → But d H H' → Q (.str (S a)) H') : sp_law_bad_1 K [.ref d] H Q E := ⟨d, n, rfl, hd, hn, q⟩
theorem Dk.butN {H H' : Hp} {d p : Addr} {n : Nat} (x : Dk H d n) (b : But p H H') (h : d ≠ p) : Dk H' d n := by
  obtain ⟨c, f, k, e, r⟩ := x
  exact ⟨c, f, k, b.at e h, r⟩
theorem pure_law_bad_1 {K : PySem.W.Frag} (vs : List V) (H : Hp) (Q : VK) (E : XK) (h : sp_law_bad_1 K vs H Q E) : t_law_bad_1 K { nx := fun _ H' => Q .non H', rt := Q } (start N_law_bad_1 vs) H := by
  obtain ⟨d, n, rfl, hd, hn, q⟩ := h
  unfold t_law_bad_1
  tm_at "v"
  intro p1 H1 n1 s1 h1
  obtain ⟨xs1, g1, t1, l1⟩ : ∃ xs, H1 p1 = some (.lst xs) ∧ (∀ x ∈ xs, TxS x) ∧ xs.length = 14 := ⟨_, h1, by repeat (first | exact txs_nil | refine txs_cons (by decide) ?_), rfl⟩
  clear h1
  tm_at "v"
  refine i_mulR (n := 30) rfl (by decide) ?_
  tm_at "v"
  refine i_mulR (n := 31) rfl (by decide) ?_
  tm_at "v"
  refine i_mulR (n := 29) rfl (by decide) ?_
  tm_at "v"
  refine i_mulR (n := 30) rfl (by decide) ?_
  tm_at "v"
  refine i_mulR (n := 30) rfl (by decide) ?_
  tm_at "v"
  refine i_mulR (n := 900) rfl (by decide) ?_
  have r1 : ∀ c k : Nat, (List.replicate k c).length = k := fun c k => List.length_replicate
  have e1 := r1 57 30
  have e2 := r1 57 31
  have e3 := r1 48 29
  have e4 := r1 48 30
  have e5 := r1 55 900
  generalize List.replicate 30 57 = x1 at *
  generalize List.replicate 31 57 = x2 at *
  generalize List.replicate 29 48 = x3 at *
  generalize List.replicate 30 48 = x4 at *
  generalize List.replicate 900 55 = x5 at *
  tm_at "v"
  intro p2 H2 n2 s2 h2
  obtain ⟨xs2, g2, t2, l2⟩ : ∃ xs, H2 p2 = some (.lst xs) ∧ (∀ x ∈ xs, TxS x) ∧ xs.length = 7 := ⟨_, h2, by repeat (first | exact txs_nil | refine txs_cons (by first | decide | omega | (rw [List.length_append]; simp; omega)) ?_), rfl⟩
  clear h2
  refine v_cat (s2 _ _ g1) g2 (le_line (by omega)) fun p3 H3 n3 s3 h3 => ?_
  tm_at "v"
  intro p4 H4 n4 s4 h4
  obtain ⟨xs4, g4, t4, l4⟩ : ∃ xs, H4 p4 = some (.lst xs) ∧ (∀ x ∈ xs, TxS x) ∧ xs.length = 2 := ⟨_, h4, by repeat (first | exact txs_nil | refine txs_cons (by decide) ?_), rfl⟩
  clear h4
  refine v_cat (s4 _ _ h3) g4 (le_line (by rw [List.length_append]; omega)) fun p5 H5 n5 s5 h5 => ?_
  obtain ⟨xs5, g5, t5, l5⟩ : ∃ xs, H5 p5 = some (.lst xs) ∧ (∀ x ∈ xs, TxS x) ∧ xs.length = 23 := ⟨_, h5, fun x hx => by
    rcases List.mem_append.mp hx with z | z
    · rcases List.mem_append.mp z with y | y
      · exact t1 x y
      · exact t2 x y
    · exact t4 x z, by rw [List.length_append, List.length_append]; omega⟩
  have S5 : Same H H5 := s1.trans (s2.trans (s3.trans (s4.trans s5)))
  have hd5 := Dk.same S5 hd
  have npd : p5 ≠ d := ((Dk.same (s1.trans (s2.trans (s3.trans s4))) hd).ne n5).symm
  clear h3 h5 g1 g2 g4
  tm_at "v"
  refine i_tyL (SqL.of1 g5) ?_
  tm_at "v"
  refine i_law_take_1 31 rfl hd5 (by omega) (by decide) (by decide) fun r6 H6 q6 hd6 b6 => ?_
  refine i_pickS (by decide) (by omega) (by simp; omega) fun c hc => ?_
  tm_at "v"
  refine v_app (b6.at g5 npd) (lt_line (by omega)) fun H7 b7 h7 => ?_
  have hd7 := hd6.butN b7 npd.symm
  tm_at "v"
  refine i_tyL (SqL.of1 h7) ?_
  tm_at "v"
  refine i_law_take_1 31 rfl hd7 (by omega) (by decide) (by decide) fun r8 H8 q8 hd8 b8 => ?_
  refine i_pickS (by decide) (by omega) (by simp; omega) fun c2 hc2 => ?_
  tm_at "v"
  refine v_app (b8.at h7 npd) (lt_line (by rw [List.length_append]; simp; omega)) fun H9 b9 h9 => ?_
  have hd9 := hd8.butN b9 npd.symm
  tm_at "v"
  refine i_lenL (SqL.of1 h9) ?_
  tm_at "v"
  refine i_law_take_1 25 ?_ hd9 (by omega) (by decide) (by decide) fun r10 H10 q10 hd10 b10 => ?_
  · simp only [List.length_append, List.length_cons, List.length_nil]
    omega
  tm_at "v"
  refine i_pick (SqL.of1 (b10.at h9 npd)) (by omega) (by simp; omega) fun v hv => ?_
  have hv' : TxS v := by
    rcases List.mem_append.mp hv with z | z
    · rcases List.mem_append.mp z with y | y
      · exact t5 v y
      · rw [List.mem_singleton.mp y]; exact ⟨[c], rfl, by simp⟩
    · rw [List.mem_singleton.mp z]; exact ⟨_, rfl, by simp⟩
  obtain ⟨w, rfl, wl⟩ := hv'
  have np : H p5 = none := by
    cases e : H p5 with
    | none => rfl
    | some o => rw [(s1.trans (s2.trans (s3.trans s4))) _ _ e] at n5; cases n5
  exact q w _ wl hd10 fun b o nb e => b10 _ _ nb (b9 _ _ (fun z => by rw [z, np] at e; cases e) (b8 _ _ nb (b7 _ _ (fun z => by rw [z, np] at e; cases e) (b6 _ _ nb (S5 _ _ e)))))
/-! law_spoilt_2(deck, text): slots 0 deck, 1 text, 2 way, 3 at, 4 sign, 5 words -/
abbrev N_law_spoilt_2 : List Str := ["deck", "text", "way", "at", "sign", "words"]
def t_law_spoilt_2 (K : PySem.W.Frag) : TS :=
  (tSeq (tAsg (tCall (sp_law_take_1 K) [] E0 (tCons (tVar 0) (tCons (tC (.int 5)) tNil))) (gName 2)) (tSeq (tAsg (tCall (sp_law_take_1 K) [] E0 (tCons (tVar 0) (tCons (tOp Lv.rAdd (tCB Lv.rLenT (tCons (tVar 1) tNil)) (tC (.int 1))) tNil))) (gName 3)) (tSeq (tAsg (tOp Lv.rIxT1 (tC (.str (S [32, 48, 49, 50, 57, 45, 95, 97, 10]))) (tCall (sp_law_take_1 K) [] E0 (tCons (tVar 0) (tCons (tC (.int 9)) tNil)))) (gName 4)) (tSeq (tIfS (tTest (tOp Lv.rEqI (tVar 2) (tC (.int 0)))) (tRet (tOp Lv.rAddS (tSl Lv.rSlS1 (tVar 1) tNoPart (tPart (tVar 3))) (tSl Lv.rSlS1 (tVar 1) (tPart (tOp Lv.rAdd (tVar 3) (tC (.int 1)))) tNoPart))) tNext) (tSeq (tIfS (tTest (tOp Lv.rLt (tVar 2) (tC (.int 3)))) (tRet (tOp Lv.rAddS (tOp Lv.rAddS (tSl Lv.rSlS1 (tVar 1) tNoPart (tPart (tVar 3))) (tVar 4)) (tSl Lv.rSlS1 (tVar 1) (tPart (tOp Lv.rSub (tOp Lv.rAdd (tVar 3) (tVar 2)) (tC (.int 1)))) tNoPart))) tNext) (tSeq (tAsg (tBM K "str" Lv.rSplit1 (tVar 1) (tCons (tC (.str (S [32]))) tNil)) (gName 5)) (tSeq (tAsg (tCall (sp_law_take_1 K) [] E0 (tCons (tVar 0) (tCons (tOp Lv.rAdd (tCB (Lv.rLenL K) (tCons (tVar 5) tNil)) (tC (.int 1))) tNil))) (gName 3)) (tRet (tBM K "str" (Lv.rJoin K) (tC (.str (S [32]))) (tCons (tOp L2.rCat (tOp L2.rCat (tSl (rSlL K) (tVar 5) tNoPart (tPart (tVar 3))) (tLst (tCons (tCall (sp_law_bad_1 K) [] E0 (tCons (tVar 0) tNil)) tNil))) (tSl (rSlL K) (tVar 5) (tPart (tOp Lv.rSub (tOp Lv.rAdd (tVar 3) (tVar 2)) (tC (.int 3)))) tNoPart)) tNil))))))))))
-- needs: Lv41 Q_law_take_1
def sp_law_spoilt_2 (K : PySem.W.Frag) : Sp := fun vs H Q _ => ∃ (d : Addr) (n : Nat) (a : List Nat), vs = [.ref d, .str (S a)] ∧ Dk H d n ∧ n < 2 ^ 28 ∧ a.length ≤ 2700 ∧ ∀ (a : List Nat) H' , a.length ≤ 4000 → Dk H' d (n + 10) → But d H H' → Q (.str (S a)) H'
theorem i_law_spoilt_2 {K : PySem.W.Frag} {d : Addr} {n : Nat} {a : List Nat} {H : Hp} {Q : VK} {E : XK} (hd : Dk H d n) (hn : n < 2 ^ 28) (ha : a.length ≤ 2700) (q : ∀ (a : List Nat) H' , a.length ≤ 4000 → Dk H' d (n + 10) → But d H H' → Q (.str (S a)) H') : sp_law_spoilt_2 K [.ref d, .str (S a)] H Q E := ⟨d, n, a, rfl, hd, hn, ha, q⟩
theorem spl_sum : ∀ (l acc : List Nat), ((TL.spl [32] 0 acc l).map List.length).sum + (TL.spl [32] 0 acc l).length = acc.length + l.length + 1
  | [], acc => by rw [TL.spl_nil]; simp
  | c :: r, acc => by
    by_cases h : c = 32
    · rw [TL.spl_hit (by rw [pre1]; exact decide_eq_true h)]
      have := spl_sum r []
      show ((acc :: TL.spl [32] 0 [] r).map List.length).sum + (acc :: TL.spl [32] 0 [] r).length = _
      rw [List.map_cons, List.sum_cons, List.length_cons, List.length_cons]
      simp at this
      omega
    · rw [TL.spl_miss (by rw [pre1]; exact decide_eq_false h)]
      have := spl_sum r (acc ++ [c])
      rw [List.length_append] at this
      rw [List.length_cons]
      simp at this
      omega
theorem sub_sum {xs ys : List (List Nat)} (h : xs.Sublist ys) : (xs.map List.length).sum + xs.length ≤ (ys.map List.length).sum + ys.length := by
  induction h with
  | slnil => simp
  | cons a _ ih => rw [List.map_cons, List.sum_cons, List.length_cons]; omega
  | cons_cons a _ ih => rw [List.map_cons, List.sum_cons, List.length_cons, List.map_cons, List.sum_cons, List.length_cons]; omega
theorem pure_law_spoilt_2 {K : PySem.W.Frag} (vs : List V) (H : Hp) (Q : VK) (E : XK) (h : sp_law_spoilt_2 K vs H Q E) : t_law_spoilt_2 K { nx := fun _ H' => Q .non H', rt := Q } (start N_law_spoilt_2 vs) H := by
  obtain ⟨d, n, a, rfl, hd, hn, ha, q⟩ := h
  unfold t_law_spoilt_2
  tm_at "v"
  refine i_law_take_1 5 rfl hd (by omega) (by decide) (by decide) fun way H1 w1 hd1 b1 => ?_
  tm_at "v"
  refine i_law_take_1 (a.length + 1) (by simp) hd1 (by omega) (by omega) (Nat.lt_of_le_of_lt (show a.length + 1 ≤ 2701 by omega) (by decide)) fun at_ H2 w2 hd2 b2 => ?_
  tm_at "v"
  refine i_law_take_1 9 rfl hd2 (by omega) (by decide) (by decide) fun r3 H3 w3 hd3 b3 => ?_
  refine i_pickS (by decide) (by omega) (by simp; omega) fun sg hsg => ?_
  have B3 : But d H H3 := b1.trans (b2.trans b3)
  have cl : ∀ lo hi, (cutL a lo hi).length ≤ 2700 := fun lo hi => Nat.le_trans (cutL_length a lo hi) ha
  tm_at "v"
  refine if_dec (fun z => ?_) (fun z => ?_)
  · tm_at "v"
    rw [cutL_to, cutL_from1]
    refine i_addS (le_line (by rw [List.length_take, List.length_drop]; omega)) ?_
    exact q _ _ (by rw [List.length_append, List.length_take, List.length_drop]; omega) (hd3.more (by omega)) B3
  tm_at "v"
  refine if_dec (fun z1 => ?_) (fun z1 => ?_)
  · tm_at "v"
    have e : (at_ : Int) + (way : Int) - 1 = ((at_ + way - 1 : Nat) : Int) := by omega
    rw [cutL_to]
    refine i_addS (le_line (by rw [List.length_take]; simp; omega)) ?_
    tm_at "v"
    rw [e, cutL_from]
    refine i_addS (le_line (by rw [List.length_append, List.length_take, List.length_drop]; simp; omega)) ?_
    exact q _ _ (by rw [List.length_append, List.length_append, List.length_take, List.length_drop]; simp; omega) (hd3.more (by omega)) B3
  tm_at "v"
  refine v_split1 (by omega) fun p4 H4 n4 s4 h4 => ?_
  have hd4 := Dk.same s4 hd3
  have n4d : p4 ≠ d := (hd3.ne n4).symm
  have wl := wds_len a
  have ws := spl_sum a []
  have ws : ((wds a).map List.length).sum + (wds a).length = a.length + 1 := by simpa [wds] using ws
  tm_at "v"
  refine i_lenL (SqL.of1 h4) ?_
  tm_at "v"
  refine i_law_take_1 ((wds a).length + 1) ?_ hd4 (by omega) (by omega) (Nat.lt_of_le_of_lt (show (wds a).length + 1 ≤ 2702 by omega) (by decide)) fun at2 H5 w5 hd5 b5 => ?_
  · simp
  have h5 := b5.at h4 n4d
  tm_at "v"
  refine v_slL (SqL.of1 h5) fun p6 H6 n6 s6 h6 => ?_
  tm_at "v"
  refine i_law_bad_1 (Dk.same s6 hd5) (by omega) fun bd H7 bl hd7 b7 => ?_
  tm_at "v"
  intro p8 H8 n8 s8 h8
  tm_at "v"
  have n6d : p6 ≠ d := (hd5.ne n6).symm
  refine v_cat (s8 _ _ (b7.at h6 n6d)) h8 (le_line ?_) fun p9 H9 n9 s9 h9 => ?_
  · rw [show cutV ((wds a).map vs) none (some (at2 : Int)) = ((wds a).take at2).map vs by
      show cutL _ _ _ = _
      rw [cutL_to, List.map_take], List.length_map, List.length_take]
    simp
    omega
  rw [show cutV ((wds a).map vs) none (some (at2 : Int)) = ((wds a).take at2).map vs by
    show cutL _ _ _ = _
    rw [cutL_to, List.map_take]] at h9
  tm_at "v"
  have h4' := s9 _ _ (s8 _ _ (b7.at (s6 _ _ h5) n4d))
  refine v_slL (SqL.of1 h4') fun p10 H10 n10 s10 h10 => ?_
  have e : (at2 : Int) + (way : Int) - 3 = ((at2 + way - 3 : Nat) : Int) := by omega
  rw [e, show cutV ((wds a).map vs) (some ((at2 + way - 3 : Nat) : Int)) none = ((wds a).drop (at2 + way - 3)).map vs by
    show cutL _ _ _ = _
    rw [cutL_from, List.map_drop]] at h10
  tm_at "v"
  refine v_cat (s10 _ _ h9) h10 (le_line (by simp; omega)) fun p11 H11 n11 s11 h11 => ?_
  have h11' : H11 p11 = some (.lst (((wds a).take at2 ++ [bd] ++ (wds a).drop (at2 + way - 3)).map vs)) := by
    rw [h11, List.map_append, List.map_append]; rfl
  have sb := sub_sum (show ((wds a).take at2 ++ (wds a).drop (at2 + way - 3)).Sublist (wds a) by
    conv => rhs; rw [← List.take_append_drop at2 (wds a)]
    refine List.Sublist.append (List.Sublist.refl _) ?_
    rw [show at2 + way - 3 = at2 + (way - 3) by omega, ← List.drop_drop]
    exact List.drop_sublist _ _)
  have tot : (((wds a).take at2 ++ [bd] ++ (wds a).drop (at2 + way - 3)).map List.length).sum + ((wds a).take at2 ++ [bd] ++ (wds a).drop (at2 + way - 3)).length ≤ a.length + 1 + 901 := by
    simp only [List.map_append, List.sum_append, List.length_append, List.map_cons, List.map_nil, List.sum_cons, List.sum_nil, List.length_cons, List.length_nil] at sb ⊢
    omega
  tm_at "v"
  have jl := join_len ((wds a).take at2 ++ [bd] ++ (wds a).drop (at2 + way - 3))
  refine i_join (ys := (wds a).take at2 ++ [bd] ++ (wds a).drop (at2 + way - 3)) (SqL.of1 h11') (by simp only [List.length_cons, List.length_nil]; omega) ?_
  exact q _ _ (by omega) ((Dk.same (s8.trans (s9.trans (s10.trans s11))) hd7).more (by omega)) (B3.trans (s4.but.trans (b5.trans (s6.but.trans (b7.trans (s8.trans (s9.trans (s10.trans s11))).but)))))
/-! read_number_0(word): slots 0 word, 1 figure -/
abbrev N_read_number_0 : List Str := ["word", "figure"]
def t_read_number_0 (K : PySem.W.Frag) : TS :=
  (tSeq (tIfS (tOr (tNot (tTest (tChain Lv.rLe Lv.rLe (tC (.int 1)) (tCB Lv.rLenT (tCons (tVar 0) tNil)) (tC (.int 30))))) (tAnd (tTest (tOp Lv.rEqS (tOp Lv.rIxT1 (tVar 0) (tC (.int 0))) (tC (.str (S [48]))))) (tTest (tOp Lv.rNeS (tVar 0) (tC (.str (S [48]))))))) Lv.tNever tNext) (tSeq (tFor (iStr (tVar 0)) (gName 1) (tIfS (tTest (tOp (Lv.rIn1 true) (tVar 1) (tC (.str (S [48, 49, 50, 51, 52, 53, 54, 55, 56, 57]))))) Lv.tNever tNext)) (tRet (tCB Lv.rIntS (tCons (tVar 0) tNil)))))
-- needs: Lv38
/-- a number as written -/
def NumOk (a : List Nat) : Prop := 1 ≤ a.length ∧ a.length ≤ 30 ∧ (a.head? = some 48 → a = [48]) ∧ NumText.AllDigits a
theorem numOk_num {n : Nat} (h : n < 10 ^ 30) : NumOk (TL.numL n) := ⟨List.length_pos_iff.mpr (TL.numL_ne n), TL.numL_len (by decide) h, numL_head n, TL.numL_digits n⟩
def sp_read_number_0 (K : PySem.W.Frag) : Sp := fun vs H Q _ => ∃ (a : List Nat), vs = [.str (S a)] ∧ NumOk a ∧ ∀ H', Same H H' → Q (.int ((NumText.digitsVal a : Nat) : Int)) H'
theorem i_read_number_0 {K : PySem.W.Frag} {a : List Nat} {H : Hp} {Q : VK} {E : XK} (ha : NumOk a) (q : ∀ H', Same H H' → Q (.int ((NumText.digitsVal a : Nat) : Int)) H') : sp_read_number_0 K [.str (S a)] H Q E := ⟨a, rfl, ha, q⟩
theorem pure_read_number_0 {K : PySem.W.Frag} (vs : List V) (H : Hp) (Q : VK) (E : XK) (h : sp_read_number_0 K vs H Q E) : t_read_number_0 K { nx := fun _ H' => Q .non H', rt := Q } (start N_read_number_0 vs) H := by
  obtain ⟨a, rfl, ⟨h1, h2, h3, h4⟩, q⟩ := h
  unfold t_read_number_0
  have loop : tSeq (tFor (iStr (tVar 0)) (gName 1) (tIfS (tTest (tOp (Lv.rIn1 true) (tVar 1) (tC (.str (S [48, 49, 50, 51, 52, 53, 54, 55, 56, 57]))))) Lv.tNever tNext)) (tRet (tCB Lv.rIntS (tCons (tVar 0) tNil))) { nx := fun _ H' => Q .non H', rt := Q } (start N_read_number_0 [.str (S a)]) H := by
    tm_at "v"
    tm_at "fo"
    refine f_s ⟨fun i σ H' => ∃ (v1 : Option V), σ = [some (.str (S a)), v1] ∧ H' = H, ⟨none, rfl, rfl⟩, ?_, ?_⟩
    · rintro i x σ Ha H1 hi ⟨v1, rfl, rfl⟩ ⟨rfl, c, hc, rfl⟩
      tm_at "v"
      have cd := h4 c (List.mem_of_getElem? hc)
      rw [decide_eq_true (show c ∈ [48, 49, 50, 51, 52, 53, 54, 55, 56, 57] by simp only [List.mem_cons, List.not_mem_nil, or_false]; omega)]
      tm_at "v"
      exact ⟨_, rfl, rfl⟩
    · rintro σ H1 ⟨v1, rfl, rfl⟩
      tm_at "v"
      refine i_intS h4 (List.length_pos_iff.mp h1) (by omega) ?_
      exact q _ (Same.refl _)
  tm_at "v"
  refine if_yes (by omega) ?_
  tm_at "v"
  rw [decide_eq_true (show ((a.length : Nat) : Int) ≤ 30 by omega)]
  tm_at "v"
  obtain ⟨c, hc⟩ : ∃ c, a[0]? = some c := ⟨_, List.getElem?_eq_getElem (by omega)⟩
  refine i_ix1 (j := 0) (by omega) hc ?_
  tm_at "v"
  by_cases z : c = 48
  · subst z
    have e := h3 (by rw [List.head?_eq_getElem?]; exact hc)
    rw [decide_eq_true rfl]
    tm_at "v"
    rw [decide_eq_true e]
    tm_at "v"
    exact loop
  · rw [decide_eq_false (fun y => z (by injection y))]
    tm_at "v"
    exact loop
/-! read_number_0x(word): slots 0 word, 1 figure -/
abbrev N_read_number_0x : List Str := ["word", "figure"]
def t_read_number_0x (K : PySem.W.Frag) (er : Nat → Addr) (E : XK) : TS :=
  (tSeq (tIfS (tOr (tNot (tTest (tChain Lv.rLe Lv.rLe (tC (.int 1)) (tCB Lv.rLenT (tCons (tVar 0) tNil)) (tC (.int 30))))) (tAnd (tTest (tOp Lv.rEqS (tOp Lv.rIxT1 (tVar 0) (tC (.int 0))) (tC (.str (S [48]))))) (tTest (tOp Lv.rNeS (tVar 0) (tC (.str (S [48]))))))) (Lv.tRaise E (er 6)) tNext) (tSeq (tFor (iStr (tVar 0)) (gName 1) (tIfS (tTest (tOp (Lv.rIn1 true) (tVar 1) (tC (.str (S [48, 49, 50, 51, 52, 53, 54, 55, 56, 57]))))) (Lv.tRaise E (er 6)) tNext)) (tRet (tCB Lv.rIntS (tCons (tVar 0) tNil)))))
-- needs: Lv41 Q_read_number_0
def sp_read_number_0x (K : PySem.W.Frag) (er : Nat → Addr) : Sp := fun vs H Q E => ∃ (a : List Nat), vs = [.str (S a)] ∧ a.length ≤ 1000000 ∧ (NumOk a → ∀ H', Same H H' → Q (.int ((NumText.digitsVal a : Nat) : Int)) H') ∧ (¬ NumOk a → ∀ H', Same H H' → E (.ref (er 6)) none H')
theorem i_read_number_0x {K : PySem.W.Frag} {er : Nat → Addr} {a : List Nat} {H : Hp} {Q : VK} {E : XK} (hl : a.length ≤ 1000000) (q : NumOk a → ∀ H', Same H H' → Q (.int ((NumText.digitsVal a : Nat) : Int)) H') (r : ¬ NumOk a → ∀ H', Same H H' → E (.ref (er 6)) none H') : sp_read_number_0x K er [.str (S a)] H Q E := ⟨a, rfl, hl, q, r⟩
theorem pure_read_number_0x {K : PySem.W.Frag} {er : Nat → Addr} (vs : List V) (H : Hp) (Q : VK) (E : XK) (h : sp_read_number_0x K er vs H Q E) : t_read_number_0x K er E { nx := fun _ H' => Q .non H', rt := Q } (start N_read_number_0x vs) H := by
  obtain ⟨a, rfl, hl, q, r⟩ := h
  unfold t_read_number_0x
  have loop : 1 ≤ a.length → a.length ≤ 30 → (a.head? = some 48 → a = [48]) → tSeq (tFor (iStr (tVar 0)) (gName 1) (tIfS (tTest (tOp (Lv.rIn1 true) (tVar 1) (tC (.str (S [48, 49, 50, 51, 52, 53, 54, 55, 56, 57]))))) (Lv.tRaise E (er 6)) tNext)) (tRet (tCB Lv.rIntS (tCons (tVar 0) tNil))) { nx := fun _ H' => Q .non H', rt := Q } (start N_read_number_0x [.str (S a)]) H := by
    intro h1 h2 h3
    tm_at "v"
    tm_at "fo"
    refine f_s ⟨fun i σ H' => ∃ (v1 : Option V), σ = [some (.str (S a)), v1] ∧ H' = H ∧ ∀ j c, j < i → a[j]? = some c → 48 ≤ c ∧ c ≤ 57, ⟨none, rfl, rfl, fun _ _ z => absurd z (Nat.not_lt_zero _)⟩, ?_, ?_⟩
    · rintro i x σ Ha H1 hi ⟨v1, rfl, rfl, hp⟩ ⟨rfl, c, hc, rfl⟩
      tm_at "v"
      by_cases cd : c ∈ [48, 49, 50, 51, 52, 53, 54, 55, 56, 57]
      · rw [decide_eq_true cd]
        tm_at "v"
        refine ⟨_, rfl, rfl, fun j d hj hd => ?_⟩
        rcases Nat.lt_or_ge j i with z | z
        · exact hp j d z hd
        · have : j = i := by omega
          subst this
          rw [hc] at hd
          cases hd
          simp only [List.mem_cons, List.not_mem_nil, or_false] at cd
          omega
      · rw [decide_eq_false cd]
        tm_at "v"
        refine r (fun z => cd ?_) _ (Same.refl _)
        have := z.2.2.2 c (List.mem_of_getElem? hc)
        simp only [List.mem_cons, List.not_mem_nil, or_false]
        omega
    · rintro σ H1 ⟨v1, rfl, rfl, hp⟩
      have h4 : NumText.AllDigits a := fun c hc => by
        obtain ⟨j, hj⟩ := List.getElem?_of_mem hc
        exact hp j c (List.getElem?_eq_some_iff.mp hj).1 hj
      tm_at "v"
      refine i_intS h4 (List.length_pos_iff.mp h1) (by omega) ?_
      exact q ⟨h1, h2, h3, h4⟩ _ (Same.refl _)
  tm_at "v"
  by_cases h1 : 1 ≤ a.length
  · refine if_yes (by omega) ?_
    tm_at "v"
    by_cases h2 : a.length ≤ 30
    · rw [decide_eq_true (show ((a.length : Nat) : Int) ≤ 30 by omega)]
      tm_at "v"
      obtain ⟨c, hc⟩ : ∃ c, a[0]? = some c := ⟨_, List.getElem?_eq_getElem (by omega)⟩
      refine i_ix1 (j := 0) (by omega) hc ?_
      tm_at "v"
      have hh : a.head? = some c := by rw [List.head?_eq_getElem?]; exact hc
      by_cases z : c = 48
      · subst z
        rw [decide_eq_true rfl]
        tm_at "v"
        by_cases e : a = [48]
        · rw [decide_eq_true e]
          tm_at "v"
          exact loop h1 h2 fun _ => e
        · rw [decide_eq_false e]
          tm_at "v"
          exact r (fun y => e (y.2.2.1 hh)) _ (Same.refl _)
      · rw [decide_eq_false (fun y => z (by injection y))]
        tm_at "v"
        exact loop h1 h2 fun y => by rw [hh] at y; exact absurd (Option.some.inj y) z
    · rw [decide_eq_false (show ¬ ((a.length : Nat) : Int) ≤ 30 by omega)]
      tm_at "v"
      exact r (fun y => h2 y.2.1) _ (Same.refl _)
  · refine if_no (by omega) ?_
    tm_at "v"
    exact r (fun y => h1 y.1) _ (Same.refl _)
/-! read_list_0x(text): slots 0 text, 1 word -/
abbrev N_read_list_0x : List Str := ["text", "word"]
def t_read_list_0x (K : PySem.W.Frag) (er : Nat → Addr) (E : XK) : TS :=
  (tSeq (tIfS (tTest (tOp Lv.rEqS (tVar 0) (tC (.str (S [45]))))) (tRet (tLst tNil)) tNext) (tRet (tLc (iList K (tBM K "str" Lv.rSplit1 (tVar 0) (tCons (tC (.str (S [32]))) tNil))) (gName 1) tYes (tCall (sp_read_number_0x K er) [] E (tCons (tVar 1) tNil)) [1])))
-- needs: Lv41 Q_read_number_0
def sp_read_list_0x (K : PySem.W.Frag) (er : Nat → Addr) : Sp := fun vs H Q E => ∃ (a : List Nat), vs = [.str (S a)] ∧ a.length ≤ 900000 ∧ (a = [45] → ∀ p H', H p = none → Same H H' → H' p = some (.lst []) → Q (.ref p) H') ∧
  (a ≠ [45] → (∀ w ∈ wds a, NumOk w) → ∀ p H', H p = none → Same H H' → H' p = some (.lst ((wds a).map fun w => iv (NumText.digitsVal w))) → Q (.ref p) H') ∧ (a ≠ [45] → (¬ ∀ w ∈ wds a, NumOk w) → ∀ H', Same H H' → E (.ref (er 6)) none H')
theorem pure_read_list_0x {K : PySem.W.Frag} {er : Nat → Addr} (vs : List V) (H : Hp) (Q : VK) (E : XK) (h : sp_read_list_0x K er vs H Q E) : t_read_list_0x K er E { nx := fun _ H' => Q .non H', rt := Q } (start N_read_list_0x vs) H := by
  obtain ⟨a, rfl, hl, q0, q1, q2⟩ := h
  unfold t_read_list_0x
  tm_at "v"
  by_cases z : a = [45]
  · rw [decide_eq_true z]
    tm_at "v"
    intro p H1 n1 s1 h1
    exact q0 z p H1 n1 s1 h1
  rw [decide_eq_false z]
  tm_at "v"
  refine lcM (fun J H8 => ∃ (D : Addr), J = Itl K D ∧ Same H H8 ∧ H8 D = some (.lst ((wds a).map vs))) (fun R k => ?_) ?_
  · tm_at "v"
    refine v_split1 (by omega) fun p H1 n1 s1 h1 => ?_
    exact ⟨p, rfl, ⟨_, SqL.of1 h1⟩, k _ _ ⟨p, rfl, s1, h1⟩⟩
  rintro J H8 ⟨D, rfl, s8, hD⟩
  have wl := wds_len a
  refine c_lPX (wds a) vs (fun w => iv (NumText.digitsVal w)) NumOk (SqL.of1 hD) (by omega) (fun w H' hw sm Yk N y => ?_) fun all D2 H2 nD s2 hD2 => ?_
  · tm_at "v"
    refine ⟨rfl, ?_⟩
    tm_at "v"
    exact i_read_number_0x (by have := wds_le hw; omega) (fun ok H3 s3 => y ok _ s3) fun no H3 s3 => q2 z (fun all => no (all w hw)) _ (s8.trans (sm.trans s3))
  · exact q1 z all D2 H2 (s8.free nD) (s8.trans s2) hD2
/-! law_number_in_0(word): slots 0 word, 1 figure -/
abbrev N_law_number_in_0 : List Str := ["word", "figure"]
def t_law_number_in_0 (K : PySem.W.Frag) : TS :=
  (tSeq (tIfS (tOr (tNot (tTest (tChain Lv.rLe Lv.rLe (tC (.int 1)) (tCB Lv.rLenT (tCons (tVar 0) tNil)) (tC (.int 30))))) (tAnd (tTest (tOp Lv.rEqS (tOp Lv.rIxT1 (tVar 0) (tC (.int 0))) (tC (.str (S [48]))))) (tTest (tOp Lv.rNeS (tVar 0) (tC (.str (S [48]))))))) (tRet (tC .non)) tNext) (tRet (tIf (tB (tCB (L2.rAll K) (tCons (tLc (iStr (tVar 0)) (gName 1) tYes (tOp (Lv.rIn1 false) (tVar 1) (tC (.str (S [48, 49, 50, 51, 52, 53, 54, 55, 56, 57])))) [1]) tNil))) (tCB Lv.rIntS (tCons (tVar 0) tNil)) (tC .non))))
-- needs: Lv41 Q_read_number_0
noncomputable def numV (a : List Nat) : V := open Classical in if NumOk a then .int ((NumText.digitsVal a : Nat) : Int) else .non
theorem numV_ok {a : List Nat} (h : NumOk a) : numV a = .int ((NumText.digitsVal a : Nat) : Int) := if_pos h
theorem numV_no {a : List Nat} (h : ¬ NumOk a) : numV a = .non := if_neg h
def sp_law_number_in_0 (K : PySem.W.Frag) : Sp := fun vs H Q _ => ∃ (a : List Nat), vs = [.str (S a)] ∧ a.length ≤ 1000000 ∧ ∀ H', Same H H' → Q (numV a) H'
theorem i_law_number_in_0 {K : PySem.W.Frag} {a : List Nat} {H : Hp} {Q : VK} {E : XK} (hl : a.length ≤ 1000000) (q : ∀ H', Same H H' → Q (numV a) H') : sp_law_number_in_0 K [.str (S a)] H Q E := ⟨a, rfl, hl, q⟩
theorem pure_law_number_in_0 {K : PySem.W.Frag} (vs : List V) (H : Hp) (Q : VK) (E : XK) (h : sp_law_number_in_0 K vs H Q E) : t_law_number_in_0 K { nx := fun _ H' => Q .non H', rt := Q } (start N_law_number_in_0 vs) H := by
  obtain ⟨a, rfl, hl, q⟩ := h
  unfold t_law_number_in_0
  have no : ¬ NumOk a → ∀ H', Same H H' → Q .non H' := fun h H' s => by have := q H' s; rw [numV_no h] at this; exact this
  have yes : NumOk a → ∀ H', Same H H' → Q (.int ((NumText.digitsVal a : Nat) : Int)) H' := fun h H' s => by have := q H' s; rw [numV_ok h] at this; exact this
  have last : 1 ≤ a.length → a.length ≤ 30 → (a.head? = some 48 → a = [48]) → (tRet (tIf (tB (tCB (L2.rAll K) (tCons (tLc (iStr (tVar 0)) (gName 1) tYes (tOp (Lv.rIn1 false) (tVar 1) (tC (.str (S [48, 49, 50, 51, 52, 53, 54, 55, 56, 57])))) [1]) tNil))) (tCB Lv.rIntS (tCons (tVar 0) tNil)) (tC .non))) { nx := fun _ H' => Q .non H', rt := Q } (start N_law_number_in_0 [.str (S a)]) H := by
    intro h1 h2 h3
    tm_at "v"
    tm_at "lc"
    refine c_sP (fun c => some (.bl (decide (c ∈ [48, 49, 50, 51, 52, 53, 54, 55, 56, 57])))) (by omega) (fun c H' hc sm Yk N y n => ?_) fun D H2 nD s2 hD => ?_
    · tm_at "v"
      refine ⟨rfl, ?_⟩
      tm_at "v"
      exact y _ rfl _ (Same.refl _)
    have hD' : H2 D = some (.lst ((a.map fun c => decide (c ∈ [48, 49, 50, 51, 52, 53, 54, 55, 56, 57])).map V.bl)) := by
      rw [hD, fm_map, List.map_map]; rfl
    tm_at "v"
    refine ⟨D, _, rfl, SqL.of1 hD', ?_⟩
    by_cases h4 : NumText.AllDigits a
    · rw [show (a.map fun c => decide (c ∈ [48, 49, 50, 51, 52, 53, 54, 55, 56, 57])).all id = true by
        rw [List.all_eq_true]
        intro b hb
        obtain ⟨c, hc, rfl⟩ := List.mem_map.mp hb
        have := h4 c hc
        refine decide_eq_true ?_
        simp only [List.mem_cons, List.not_mem_nil, or_false]
        omega]
      tm_at "v"
      refine i_intS h4 (List.length_pos_iff.mp h1) (by omega) ?_
      exact yes ⟨h1, h2, h3, h4⟩ _ s2
    · rw [show (a.map fun c => decide (c ∈ [48, 49, 50, 51, 52, 53, 54, 55, 56, 57])).all id = false by
        rw [Bool.eq_false_iff]
        intro z
        rw [List.all_eq_true] at z
        refine h4 fun c hc => ?_
        have := of_decide_eq_true (z _ (List.mem_map.mpr ⟨c, hc, rfl⟩))
        simp only [List.mem_cons, List.not_mem_nil, or_false] at this
        omega]
      tm_at "v"
      exact no (fun z => h4 z.2.2.2) _ s2
  tm_at "v"
  by_cases h1 : 1 ≤ a.length
  · refine if_yes (by omega) ?_
    tm_at "v"
    by_cases h2 : a.length ≤ 30
    · rw [decide_eq_true (show ((a.length : Nat) : Int) ≤ 30 by omega)]
      tm_at "v"
      obtain ⟨c, hc⟩ : ∃ c, a[0]? = some c := ⟨_, List.getElem?_eq_getElem (by omega)⟩
      refine i_ix1 (j := 0) (by omega) hc ?_
      tm_at "v"
      have hh : a.head? = some c := by rw [List.head?_eq_getElem?]; exact hc
      by_cases z : c = 48
      · subst z
        rw [decide_eq_true rfl]
        tm_at "v"
        by_cases e : a = [48]
        · rw [decide_eq_true e]
          tm_at "v"
          exact last h1 h2 fun _ => e
        · rw [decide_eq_false e]
          tm_at "v"
          exact no (fun y => e (y.2.2.1 hh)) _ (Same.refl _)
      · rw [decide_eq_false (fun y => z (by injection y))]
        tm_at "v"
        exact last h1 h2 fun y => by rw [hh] at y; exact absurd (Option.some.inj y) z
    · rw [decide_eq_false (show ¬ ((a.length : Nat) : Int) ≤ 30 by omega)]
      tm_at "v"
      exact no (fun y => h2 y.2.1) _ (Same.refl _)
  · refine if_no (by omega) ?_
    tm_at "v"
    exact no (fun y => h1 y.1) _ (Same.refl _)
/-! law_right_12(text): slots 0 text, 1 found, 2 kinds, 3 e, 4 due, 5 word -/
abbrev N_law_right_12 : List Str := ["text", "found", "kinds", "e", "due", "word"]
def t_law_right_12 (K : PySem.W.Frag) (er : Nat → Addr) : TS :=
  (tSeq (tAsg (tC .non) (gName 1)) (tSeq (tAsg (tLst tNil) (gName 2)) (tSeq (Lv.tTryAx K (.ref (er 0)) 3 (fun W => (tAsg (tCallS (sp_read_list_0x K er) (WE W) (tCons (tVar 0) tNil)) (gName 1))) (tSeq (tAsg (tLst (tCons (tCB (Lv.rIs1 K) (tCons (tVar 3) (tCons (tC (.ref (er 6))) tNil))) (tCons (tCB (Lv.rIs1 K) (tCons (tVar 3) (tCons (tC (.ty "ValueError")) tNil))) tNil))) (gName 2)) (tDrop (tBM K "list" rAppend (tVar 2) (tCons (tCB (Lv.rIsT K) (tCons (tVar 3) (tCons (tTup (tCons (tC (.ref (er 1))) (tCons (tC (.ref (er 2))) (tCons (tC (.ref (er 3))) (tCons (tC (.ref (er 4))) (tCons (tC (.ref (er 5))) tNil)))))) tNil))) tNil))))) (tSeq (tAsg (tIf (tTest (tOp Lv.rEqS (tVar 0) (tC (.str (S [45]))))) (tLst tNil) (tLc (iList K (tBM K "str" Lv.rSplit1 (tVar 0) (tCons (tC (.str (S [32]))) tNil))) (gName 5) tYes (tCall (sp_law_number_in_0 K) [] E0 (tCons (tVar 5) tNil)) [5])) (gName 4)) (tSeq (tIfS (tTest (tOp (L2.rIn K false) (tC .non) (tVar 4))) (tRet (tOp (Lv.rEqLB K) (tVar 2) (tLst (tCons (tC (.bl true)) (tCons (tC (.bl true)) (tCons (tC (.bl false)) tNil)))))) tNext) (tRet (tAndV (tOp (Lv.rEqLB K) (tVar 2) (tLst tNil)) (tOp Lv.rEqS (tCB (Lv.rRepr K) (tCons (tVar 1) tNil)) (tCB (Lv.rRepr K) (tCons (tVar 4) tNil))))))))))
-- needs: Lv41 M_nolet Q_read_number_0 Q_read_list_0x
def sp_law_right_12 (K : PySem.W.Frag) (er : Nat → Addr) : Sp := fun vs H Q _ => ∃ (a : List Nat), vs = [.str (S a)] ∧ a.length ≤ 5000 ∧ ∀ H', Same H H' → Q (.bl true) H'
theorem i_law_right_12 {K : PySem.W.Frag} {er : Nat → Addr} {a : List Nat} {H : Hp} {Q : VK} {E : XK} (hl : a.length ≤ 5000) (q : ∀ H', Same H H' → Q (.bl true) H') : sp_law_right_12 K er [.str (S a)] H Q E := ⟨a, rfl, hl, q⟩
theorem i_inN {K : PySem.W.Frag} {p : Addr} {xs : List V} {b : Bool} {H : Hp} {Q : VK} (hp : SqL K H p xs) (fs : xs.all flatV = true) (e : inV .non xs = b) (q : Q (.bl b) H) : L2.rIn K false .non (.ref p) H Q := ⟨p, xs, rfl, .inl hp, rfl, fs, by rw [e]; exact q⟩
theorem i_r2Bs {K : PySem.W.Frag} {g : List Bool → List Bool → Bool} {p r : Addr} {as bs : List Bool} {H : Hp} {Q : VK} (h1 : SqL K H p (as.map V.bl)) (h2 : SqL K H r (bs.map V.bl)) (q : Q (.bl (g as bs)) H) : r2LB K g (.ref p) (.ref r) H Q := ⟨p, r, as, bs, rfl, rfl, h1, h2, q⟩
theorem dv_fold : ∀ (w : List Nat) (acc k : Nat), NumText.AllDigits w → acc < 10 ^ k → w.foldl (fun acc c => acc * 10 + (c - 48)) acc < 10 ^ (k + w.length)
  | [], acc, k, _, h => h
  | c :: w, acc, k, hd, h => by
    have hc := hd c List.mem_cons_self
    rw [List.foldl_cons, List.length_cons, show k + (w.length + 1) = (k + 1) + w.length by omega]
    refine dv_fold w _ (k + 1) (fun d hm => hd d (List.mem_cons_of_mem _ hm)) ?_
    rw [Nat.pow_succ]
    omega
theorem dv_lt {w : List Nat} (h : NumOk w) : NumText.digitsVal w < 10 ^ 30 := by
  have := dv_fold w 0 0 h.2.2.2 (by decide)
  rw [Nat.zero_add] at this
  exact Nat.lt_of_lt_of_le this (Nat.pow_le_pow_right (by decide) h.2.1)
theorem i_reprB {K : PySem.W.Frag} {p : Addr} {ns : List Int} {H : Hp} {Q : VK} (hp : SqL K H p (ns.map V.int)) (hl : ns.length ≤ 8000) (h : ∀ n ∈ ns, n.natAbs.log2 < 1920) (q : Q (.str (S (shw (dInts ns)))) H) : rRepr K [.ref p] H Q :=
  ⟨.ref p, dInts ns, rfl, .lst hp (dp_ints ns), by unfold dInts; rw [PyData.showable]; exact show_ints ns h, by unfold dInts; rw [PyData.hasDict]; exact nodict_ints ns, by unfold dInts; rw [PyData.depth, depth_ints0]; decide, by
    obtain ⟨h1, h2⟩ := shown_ints ns h
    have := listText_len_le (PyData.shownAll (ns.map PyData.int))
    have e : (dInts ns).shown = listText (PyData.shownAll (ns.map PyData.int)) := by
      unfold dInts
      rw [PyData.shown]
    rw [e, sizeLine_eq]
    omega, q⟩
theorem pure_law_right_12 {K : PySem.W.Frag} {er : Nat → Addr} (Z : ErrC K er 6) (vs : List V) (H : Hp) (Q : VK) (E : XK) (h : sp_law_right_12 K er vs H Q E) : t_law_right_12 K er { nx := fun _ H' => Q .non H', rt := Q } (start N_law_right_12 vs) H := by
  obtain ⟨a, rfl, hl, q⟩ := h
  unfold t_law_right_12
  have wl := wds_len a
  tm_at "v"
  intro k1 H1 n1 s1 h1
  tm_at "v"
  refine ⟨a, rfl, by omega, fun e p H2 n2 s2 h2 => ?_, fun ne all p H2 n2 s2 h2 => ?_, fun ne bad H2 s2 => ?_⟩
  · subst e
    have h1' := s2 _ _ h1
    tm_at "v"
    intro p4 H4 n4 s4 h4
    tm_at "v"
    refine i_inN (b := false) (SqL.of1 h4) rfl rfl ?_
    tm_at "v"
    intro p5 H5 n5 s5 h5
    refine i_r2Bs (as := []) (bs := []) (SqL.of1 (s5 _ _ (s4 _ _ h1'))) (SqL.of1 h5) ?_
    tm_at "v"
    refine i_reprI (ns := []) (SqL.of1 (s5 _ _ (s4 _ _ h2))) (by simp) (fun _ z => nomatch z) ?_
    tm_at "v"
    refine i_reprI (ns := []) (SqL.of1 (s5 _ _ h4)) (by simp) (fun _ z => nomatch z) ?_
    tm_at "v"
    rw [decide_eq_true rfl]
    exact q _ (s1.trans (s2.trans (s4.trans s5)))
  · have h1' := s2 _ _ h1
    have e2 : (wds a).map (fun w => iv (NumText.digitsVal w)) = ((wds a).map fun w => ((NumText.digitsVal w : Nat) : Int)).map V.int := by rw [List.map_map]; rfl
    rw [e2] at h2
    have lg : ∀ n ∈ (wds a).map (fun w => ((NumText.digitsVal w : Nat) : Int)), n.natAbs.log2 < 1920 := fun n hn => by
      obtain ⟨w, hw, rfl⟩ := List.mem_map.mp hn
      refine log_small (Nat.lt_trans (dv_lt (all w hw)) (by decide))
    tm_at "v"
    rw [decide_eq_false ne]
    tm_at "v"
    refine lcM (fun J H8 => ∃ (D : Addr), J = Itl K D ∧ Same H2 H8 ∧ H8 D = some (.lst ((wds a).map vs))) (fun R k => ?_) ?_
    · tm_at "v"
      refine v_split1 (by omega) fun p H1 n1 s1 h1 => ?_
      exact ⟨p, rfl, ⟨_, SqL.of1 h1⟩, k _ _ ⟨p, rfl, s1, h1⟩⟩
    rintro J H8 ⟨D, rfl, s8, hD⟩
    refine c_lP (wds a) vs (fun w => some (numV w)) (SqL.of1 hD) (by omega) (fun w H' hw sm Yk N y n => ?_) fun D2 H9 nD s9 hD2 => ?_
    · tm_at "v"
      refine ⟨rfl, ?_⟩
      tm_at "v"
      exact i_law_number_in_0 (by have := wds_le hw; omega) fun H3 s3 => y _ rfl _ s3
    have hD3 : H9 D2 = some (.lst (((wds a).map fun w => ((NumText.digitsVal w : Nat) : Int)).map V.int)) := by
      rw [hD2, fm_map, List.map_map]
      exact congrArg (fun z => some (HO.lst z)) (List.map_congr_left fun w hw => numV_ok (all w hw))
    have S9 := s8.trans s9
    tm_at "v"
    refine i_inN (b := false) (SqL.of1 hD3) ?_ ?_ ?_
    · rw [List.all_eq_true]
      intro x hx
      obtain ⟨w, _, rfl⟩ := List.mem_map.mp hx
      rfl
    · unfold inV
      rw [Bool.eq_false_iff]
      intro z
      obtain ⟨x, hx, e⟩ := List.any_eq_true.mp z
      obtain ⟨w, _, rfl⟩ := List.mem_map.mp hx
      cases e
    tm_at "v"
    intro p5 H5 n5 s5 h5
    refine i_r2Bs (as := []) (bs := []) (SqL.of1 (s5 _ _ (S9 _ _ h1'))) (SqL.of1 h5) ?_
    tm_at "v"
    refine i_reprB (SqL.of1 (s5 _ _ (S9 _ _ h2))) (by rw [List.length_map]; omega) lg ?_
    tm_at "v"
    refine i_reprB (SqL.of1 (s5 _ _ hD3)) (by rw [List.length_map]; omega) lg ?_
    tm_at "v"
    rw [decide_eq_true rfl]
    exact q _ (s1.trans (s2.trans (S9.trans s5)))
  · obtain ⟨b, hb, nb⟩ : ∃ b ∈ wds a, ¬ NumOk b := by
      apply Classical.byContradiction
      intro z
      exact bad fun w hw => Classical.byContradiction fun y => z ⟨w, hw, y⟩
    refine wAx_er Z fun e H3 n3 s3 h3 => ?_
    tm_at "v"
    refine i_er Z h3 (by decide) (by decide) ?_
    tm_at "v"
    refine i_erV Z h3 ?_
    tm_at "v"
    intro k4 H4 n4 s4 h4
    tm_at "v"
    refine i_tyL (SqL.of1 h4) ?_
    tm_at "v"
    intro tp H5 n5 s5 h5
    have h4' := s5 _ _ h4
    tm_at "v"
    refine i_erT [1, 2, 3, 4, 5] Z (s5 _ _ (s4 _ _ h3)) h5 (by decide) ?_
    tm_at "v"
    refine i_app h4' (lt_line (by simp)) ?_
    have b6 : But k4 H5 (upd H5 k4 (.lst ([V.bl (decide (6 = 6)), V.bl true] ++ [V.bl ([1, 2, 3, 4, 5].contains 6)]))) := But.upd
    have h6 : upd H5 k4 (.lst ([V.bl (decide (6 = 6)), V.bl true] ++ [V.bl ([1, 2, 3, 4, 5].contains 6)])) k4 = some (.lst ([true, true, false].map V.bl)) := by rw [upd_same]; rfl
    generalize upd H5 k4 (.lst ([V.bl (decide (6 = 6)), V.bl true] ++ [V.bl ([1, 2, 3, 4, 5].contains 6)])) = H6 at b6 h6
    have S6 : Same H2 H6 := ((s3.trans (s4.trans s5)).but.trans b6).same (by
      cases y : H2 k4 with
      | none => rfl
      | some o => rw [s3 _ _ y] at n4; cases n4)
    tm_at "v"
    rw [decide_eq_false ne]
    tm_at "v"
    refine lcM (fun J H8 => ∃ (D : Addr), J = Itl K D ∧ Same H6 H8 ∧ H8 D = some (.lst ((wds a).map vs))) (fun R k => ?_) ?_
    · tm_at "v"
      refine v_split1 (by omega) fun p H1 n1 s1 h1 => ?_
      exact ⟨p, rfl, ⟨_, SqL.of1 h1⟩, k _ _ ⟨p, rfl, s1, h1⟩⟩
    rintro J H8 ⟨D, rfl, s8, hD⟩
    refine c_lP (wds a) vs (fun w => some (numV w)) (SqL.of1 hD) (by omega) (fun w H' hw sm Yk N y n => ?_) fun D2 H9 nD s9 hD2 => ?_
    · tm_at "v"
      refine ⟨rfl, ?_⟩
      tm_at "v"
      exact i_law_number_in_0 (by have := wds_le hw; omega) fun H3 s3 => y _ rfl _ s3
    rw [fm_map] at hD2
    tm_at "v"
    refine i_inN (b := true) (SqL.of1 hD2) ?_ ?_ ?_
    · rw [List.all_eq_true]
      intro x hx
      obtain ⟨w, _, rfl⟩ := List.mem_map.mp hx
      by_cases y : NumOk w
      · rw [numV_ok y]; rfl
      · rw [numV_no y]; rfl
    · unfold inV
      exact List.any_eq_true.mpr ⟨.non, List.mem_map.mpr ⟨b, hb, numV_no nb⟩, rfl⟩
    tm_at "v"
    intro p5 H10 n10 s10 h10
    refine i_r2Bs (as := [true, true, false]) (bs := [true, true, false]) (SqL.of1 (s10 _ _ (s9 _ _ (s8 _ _ h6)))) (SqL.of1 h10) ?_
    tm_at "v"
    exact q _ (s1.trans (s2.trans (S6.trans (s8.trans (s9.trans s10)))))
/-! law_k50(script): slots 0 script, 1 cell, 2 deck, 3 text -/
abbrev N_law_k50 : List Str := ["script", "cell", "deck", "text"]
def t_law_k50 (K : PySem.W.Frag) (er : Nat → Addr) : TS :=
  (tSeq (tFor (iList K (tOp L2.rCat (tSl (rSlL K) (tVar 0) tNoPart (tPart (tC (.int 40)))) (tLst (tCons (tC (.int 0)) (tCons (tC (.int 1)) tNil))))) (gName 1) (tSeq (tAsg (tCall (sp_law_deck_0 K) [] E0 (tCons (tVar 1) (tCons (tC (.int 5)) tNil))) (gName 2)) (tSeq (tAsg (tCall (sp_law_text_0 K) [] E0 (tCons (tVar 2) tNil)) (gName 3)) (tIfS (tOr (tNot (tB (tCall (sp_law_right_12 K er) [] E0 (tCons (tVar 3) tNil)))) (tNot (tB (tCall (sp_law_right_12 K er) [] E0 (tCons (tCall (sp_law_spoilt_2 K) [] E0 (tCons (tVar 2) (tCons (tVar 3) tNil))) tNil))))) (tRet (tC (.bl false))) tNext)))) (tRet (tAndV (tCall (sp_law_right_12 K er) [] E0 (tCons (tBM K "str" (Lv.rJoin K) (tC (.str (S [32]))) (tCons (tOp L2.rRep (tLst (tCons (tC (.str (S [48]))) tNil)) (tC (.int 1490))) tNil)) tNil)) (tCall (sp_law_right_12 K er) [] E0 (tCons (tBM K "str" (Lv.rJoin K) (tC (.str (S [32]))) (tCons (tOp L2.rCat (tOp L2.rRep (tLst (tCons (tC (.str (S [55]))) tNil)) (tC (.int 1480))) (tLst (tCons (tC (.str (S [48, 55]))) tNil))) tNil)) tNil)))))
-- needs: Lv41 Q_law_take_1
def sp_law_k50 (K : PySem.W.Frag) : Sp := fun vs H Q _ => ∃ (a : Addr) (ns : List Int), vs = [.ref a] ∧ SqL K H a (ns.map V.int) ∧ ns.length ≤ 63 ∧ ∀ H', Q (.bl true) H'
theorem rep_vs (w : List Nat) : ∀ n, (List.replicate n [V.str (S w)]).flatten = (List.replicate n w).map vs
  | 0 => rfl
  | n + 1 => by rw [List.replicate_succ, List.flatten_cons, rep_vs w n, List.replicate_succ, List.map_cons]; rfl
theorem pure_law_k50 {K : PySem.W.Frag} {er : Nat → Addr} (Z : ErrC K er 6) (vs : List V) (H : Hp) (Q : VK) (E : XK) (h : sp_law_k50 K vs H Q E) : t_law_k50 K er { nx := fun _ H' => Q .non H', rt := Q } (start N_law_k50 vs) H := by
  obtain ⟨a, ns, rfl, hS, hl, q⟩ := h
  unfold t_law_k50
  tm_at "v"
  refine foM (fun J H1 => ∃ (L : Addr) (xs : List Int), J = Itl K L ∧ H1 L = some (.lst (xs.map V.int))) (fun R k => ?_) ?_
  · tm_at "v"
    refine v_slL hS fun p1 H1 n1 s1 h1 => ?_
    tm_at "v"
    intro p2 H2 n2 s2 h2
    rw [show cutV (ns.map V.int) none (some 40) = (ns.take 40).map V.int by
      have e1 := cutL_to (ns.map V.int) 40
      rw [show ((40 : Nat) : Int) = 40 from rfl] at e1
      show cutL _ _ _ = _
      rw [e1, List.map_take]] at h1
    refine v_cat (s2 _ _ h1) h2 (le_line (by simp; omega)) fun p3 H3 n3 s3 h3 => ?_
    exact ⟨p3, rfl, ⟨_, SqL.of1 h3⟩, k _ _ ⟨p3, ns.take 40 ++ [0, 1], rfl, by rw [h3, List.map_append]; rfl⟩⟩
  rintro J H1 ⟨L, cells, rfl, hL⟩
  refine f_l (xs := cells.map V.int) ⟨fun i σ H' => ∃ v1 v2 v3 : Option V, σ = [some (.ref a), v1, v2, v3] ∧ Same H1 H', ⟨_, _, _, rfl, Same.refl _⟩, ?_, ?_, ?_⟩
  · rintro i σ H' _ ⟨v1, v2, v3, rfl, s⟩
    exact SqL.of1 (s _ _ hL)
  · rintro i x σ Ha H2 hi ⟨v1, v2, v3, rfl, s2⟩ ⟨rfl, ex⟩
    obtain ⟨c, rfl⟩ : ∃ c, x = .int c := by
      obtain ⟨c, _, e⟩ := List.mem_map.mp (List.mem_of_getElem? ex)
      exact ⟨c, e.symm⟩
    tm_at "v"
    refine i_law_deck_0 5 rfl fun d H3 n3 s3 hd3 => ?_
    tm_at "v"
    refine i_law_text_0 hd3 (by decide) fun t H4 lt hd4 b4 => ?_
    tm_at "v"
    refine i_law_right_12 (by omega) fun H5 s5 => ?_
    tm_at "v"
    refine i_law_spoilt_2 (Dk.same s5 hd4) (by decide) lt fun t2 H6 lt2 hd6 b6 => ?_
    tm_at "v"
    refine i_law_right_12 (by omega) fun H7 s7 => ?_
    tm_at "v"
    exact ⟨_, _, _, rfl, s2.trans ((s3.but.trans (b4.trans (s5.but.trans (b6.trans s7.but)))).same n3)⟩
  · rintro σ H2 ⟨v1, v2, v3, rfl, s2⟩
    tm_at "v"
    intro p3 H3 n3 s3 h3
    tm_at "v"
    refine v_rep h3 (by decide) (by decide) (le_line (by decide)) fun p4 H4 n4 s4 h4 => ?_
    have e4 : (List.replicate (Int.toNat 1490) [V.str (S [48])]).flatten = (List.replicate 1490 [48]).map vs := rep_vs [48] 1490
    rw [e4] at h4
    have l4 : (List.replicate 1490 [48]).length = 1490 := List.length_replicate
    have m4 : ∀ w ∈ List.replicate 1490 [48], w.length ≤ 1 := fun w hw => by rw [List.eq_of_mem_replicate hw]; decide
    generalize List.replicate 1490 [48] = R4 at *
    have sl4 := sum_len m4
    have jl4 := join_len R4
    tm_at "v"
    refine i_join (ys := R4) (SqL.of1 h4) (by simp; omega) ?_
    tm_at "v"
    refine i_law_right_12 (by omega) fun H5 s5 => ?_
    tm_at "v"
    intro p6 H6 n6 s6 h6
    tm_at "v"
    refine v_rep h6 (by decide) (by decide) (le_line (by decide)) fun p7 H7 n7 s7 h7 => ?_
    have e7 : (List.replicate (Int.toNat 1480) [V.str (S [55])]).flatten = (List.replicate 1480 [55]).map vs := rep_vs [55] 1480
    rw [e7] at h7
    have l7 : (List.replicate 1480 [55]).length = 1480 := List.length_replicate
    have m7 : ∀ w ∈ List.replicate 1480 [55], w.length ≤ 1 := fun w hw => by rw [List.eq_of_mem_replicate hw]; decide
    generalize List.replicate 1480 [55] = R7 at *
    have sl7 := sum_len (ps := R7 ++ [[48, 55]]) (k := 2) fun w hw => by
      rcases List.mem_append.mp hw with z | z
      · exact Nat.le_trans (m7 w z) (by decide)
      · rw [List.mem_singleton.mp z]; decide
    have jl7 := join_len (R7 ++ [[48, 55]])
    have ll7 : (R7 ++ [[48, 55]]).length = 1481 := by rw [List.length_append, l7]; rfl
    tm_at "v"
    intro p8 H8 n8 s8 h8
    tm_at "v"
    refine v_cat (s8 _ _ h7) h8 (le_line (by rw [List.length_map]; simp; omega)) fun p9 H9 n9 s9 h9 => ?_
    have h9' : H9 p9 = some (.lst ((R7 ++ [[48, 55]]).map vs)) := by rw [h9, List.map_append]; rfl
    generalize R7 ++ [[48, 55]] = R9 at *
    tm_at "v"
    refine i_join (ys := R9) (SqL.of1 h9') (by simp; omega) ?_
    tm_at "v"
    refine i_law_right_12 (by omega) fun H10 s10 => ?_
    exact q _
/-! ### the text of k50 -/
def topS (i : Nat) : Stmt := PySem.Challenge.pw_leavings_k50_texts_of_no_list.main.body.getD i (.Pass ⟨0, 0, 0, 0⟩)
abbrev s_law_deck_0 : Stmt := topS 16
theorem sc_law_deck_0 : FnScope N_law_deck_0 ["cell", "k"] (defScope s_law_deck_0) := ⟨rfl, rfl, rfl, by decide +kernel, rfl, by decide +kernel, by decide +kernel⟩
abbrev s_law_take_1 : Stmt := topS 15
theorem sc_law_take_1 : FnScope N_law_take_1 ["deck", "many"] (defScope s_law_take_1) := ⟨rfl, rfl, rfl, by decide +kernel, rfl, by decide +kernel, by decide +kernel⟩
abbrev s_law_text_0 : Stmt := topS 17
theorem sc_law_text_0 : FnScope N_law_text_0 ["deck"] (defScope s_law_text_0) := ⟨rfl, rfl, rfl, by decide +kernel, rfl, by decide +kernel, by decide +kernel⟩
abbrev s_law_bad_1 : Stmt := topS 18
theorem sc_law_bad_1 : FnScope N_law_bad_1 ["deck"] (defScope s_law_bad_1) := ⟨rfl, rfl, rfl, by decide +kernel, rfl, by decide +kernel, by decide +kernel⟩
abbrev s_law_spoilt_2 : Stmt := topS 19
theorem sc_law_spoilt_2 : FnScope N_law_spoilt_2 ["deck", "text"] (defScope s_law_spoilt_2) := ⟨rfl, rfl, rfl, by decide +kernel, rfl, by decide +kernel, by decide +kernel⟩
abbrev s_read_number_0x : Stmt := topS 11
theorem sc_read_number_0x : FnScope N_read_number_0x ["word"] (defScope s_read_number_0x) := ⟨rfl, rfl, rfl, by decide +kernel, rfl, by decide +kernel, by decide +kernel⟩
abbrev s_read_list_0x : Stmt := topS 12
theorem sc_read_list_0x : FnScope N_read_list_0x ["text"] (defScope s_read_list_0x) := ⟨rfl, rfl, rfl, by decide +kernel, rfl, by decide +kernel, by decide +kernel⟩
abbrev s_law_number_in_0 : Stmt := topS 20
theorem sc_law_number_in_0 : FnScope N_law_number_in_0 ["word"] (defScope s_law_number_in_0) := ⟨rfl, rfl, rfl, by decide +kernel, rfl, by decide +kernel, by decide +kernel⟩
abbrev s_law_right_12 : Stmt := topS 21
theorem sc_law_right_12 : FnScope N_law_right_12 ["text"] (defScope s_law_right_12) := ⟨rfl, rfl, rfl, by decide +kernel, rfl, by decide +kernel, by decide +kernel⟩
abbrev s_law_k50 : Stmt := topS 22
theorem sc_law_k50 : FnScope N_law_k50 ["script"] (defScope s_law_k50) := ⟨rfl, rfl, rfl, by decide +kernel, rfl, by decide +kernel, by decide +kernel⟩
structure Txt (K : PySem.W.Frag) (mg : Str → Option Value) where
  (f_law_deck_0 : Addr)
  (fd_law_deck_0 : FuncData)
  (f_law_take_1 : Addr)
  (fd_law_take_1 : FuncData)
  (f_law_text_0 : Addr)
  (fd_law_text_0 : FuncData)
  (f_law_bad_1 : Addr)
  (fd_law_bad_1 : FuncData)
  (f_law_spoilt_2 : Addr)
  (fd_law_spoilt_2 : FuncData)
  (f_read_number_0x : Addr)
  (fd_read_number_0x : FuncData)
  (f_read_list_0x : Addr)
  (fd_read_list_0x : FuncData)
  (f_law_number_in_0 : Addr)
  (fd_law_number_in_0 : FuncData)
  (f_law_right_12 : Addr)
  (fd_law_right_12 : FuncData)
  (f_law_k50 : Addr)
  (fd_law_k50 : FuncData)
  (er : Nat → Addr)
  e_LeaveError : mg "LeaveError" = some (.ref (er 0))
  e_NoCommand : mg "NoCommand" = some (.ref (er 1))
  e_NoLetter : mg "NoLetter" = some (.ref (er 2))
  e_NoLetters : mg "NoLetters" = some (.ref (er 3))
  e_NoPlace : mg "NoPlace" = some (.ref (er 4))
  e_NoRow : mg "NoRow" = some (.ref (er 5))
  e_NoText : mg "NoText" = some (.ref (er 6))
  ER_6 : ErrC K er 6
  F_law_deck_0 : Fun K "_law_deck" "_law_deck" s_law_deck_0 f_law_deck_0 fd_law_deck_0
  a_law_deck_0 : mg "_law_deck" = some (.ref f_law_deck_0)
  b_law_deck_0 : Binds K fd_law_deck_0 ["cell", "k"] []
  F_law_take_1 : Fun K "_law_take" "_law_take" s_law_take_1 f_law_take_1 fd_law_take_1
  a_law_take_1 : mg "_law_take" = some (.ref f_law_take_1)
  b_law_take_1 : Binds K fd_law_take_1 ["deck", "many"] []
  F_law_text_0 : Fun K "_law_text" "_law_text" s_law_text_0 f_law_text_0 fd_law_text_0
  a_law_text_0 : mg "_law_text" = some (.ref f_law_text_0)
  b_law_text_0 : Binds K fd_law_text_0 ["deck"] []
  F_law_bad_1 : Fun K "_law_bad" "_law_bad" s_law_bad_1 f_law_bad_1 fd_law_bad_1
  a_law_bad_1 : mg "_law_bad" = some (.ref f_law_bad_1)
  b_law_bad_1 : Binds K fd_law_bad_1 ["deck"] []
  F_law_spoilt_2 : Fun K "_law_spoilt" "_law_spoilt" s_law_spoilt_2 f_law_spoilt_2 fd_law_spoilt_2
  a_law_spoilt_2 : mg "_law_spoilt" = some (.ref f_law_spoilt_2)
  b_law_spoilt_2 : Binds K fd_law_spoilt_2 ["deck", "text"] []
  F_read_number_0x : Fun K "read_number" "read_number" s_read_number_0x f_read_number_0x fd_read_number_0x
  a_read_number_0x : mg "read_number" = some (.ref f_read_number_0x)
  b_read_number_0x : Binds K fd_read_number_0x ["word"] []
  F_read_list_0x : Fun K "read_list" "read_list" s_read_list_0x f_read_list_0x fd_read_list_0x
  a_read_list_0x : mg "read_list" = some (.ref f_read_list_0x)
  b_read_list_0x : Binds K fd_read_list_0x ["text"] []
  F_law_number_in_0 : Fun K "_law_number_in" "_law_number_in" s_law_number_in_0 f_law_number_in_0 fd_law_number_in_0
  a_law_number_in_0 : mg "_law_number_in" = some (.ref f_law_number_in_0)
  b_law_number_in_0 : Binds K fd_law_number_in_0 ["word"] []
  F_law_right_12 : Fun K "_law_right" "_law_right" s_law_right_12 f_law_right_12 fd_law_right_12
  a_law_right_12 : mg "_law_right" = some (.ref f_law_right_12)
  b_law_right_12 : Binds K fd_law_right_12 ["text"] []
  F_law_k50 : Fun K "law" "law" s_law_k50 f_law_k50 fd_law_k50
  z_ValueError : mg "ValueError" = none
  z_all : mg "all" = none
  z_int : mg "int" = none
  z_isinstance : mg "isinstance" = none
  z_len : mg "len" = none
  z_range : mg "range" = none
  z_repr : mg "repr" = none
  z_str : mg "str" = none
  (ct_FIGURES : Tok)
  c_FIGURES : mg "FIGURES" = some (.str (S [48, 49, 50, 51, 52, 53, 54, 55, 56, 57]) ct_FIGURES)
  (ct_MOST_FIGURES : Tok)
  c_MOST_FIGURES : mg "MOST_FIGURES" = some (.int 30 ct_MOST_FIGURES)
section
variable {P : Program} {w : World} {K : PySem.W.Frag} {mg : Str → Option Value} {base : Heap}
theorem ok_law_deck_0 (T : Txt K mg) : FnOk P w K mg base CX0 1 T.f_law_deck_0 T.fd_law_deck_0 ["cell", "k"] (sp_law_deck_0 K) := by
  have nd := sc_law_deck_0.nd
  refine T.F_law_deck_0.ok sc_law_deck_0 (fun vs H Q E h => ?_) (fun cdv A outer s H vs Q E hr h => ⟨t_law_deck_0 K, ?_, pure_law_deck_0 vs H Q E h⟩)
  · unfold sp_law_deck_0 at h
    repeat (first | (obtain ⟨rfl, _⟩ := h; rfl) | (obtain ⟨_, h⟩ := h))
  · unfold t_law_deck_0
    exact (pss_cons (ps_if (pt_cmpR op_ge (pv 0) (pe_op op_pow pe_int pe_int) (nomark _)) (pss_one (ps_ret (pe_lst (pa_cons (pe_op op_sub (pv 0) (pe_op op_pow pe_int pe_int)) (pa_cons pe_int (pa_cons (pv 1) pa_nil)))))) pss_nil) (pss_one (ps_ret (pe_lst (pa_cons (pv 0) (pa_cons pe_int (pa_cons (pv 1) pa_nil)))))))
theorem ok_law_take_1 (T : Txt K mg) : FnOk P w K mg base CX0 1 T.f_law_take_1 T.fd_law_take_1 ["deck", "many"] (sp_law_take_1 K) := by
  have nd := sc_law_take_1.nd
  refine T.F_law_take_1.ok sc_law_take_1 (fun vs H Q E h => ?_) (fun cdv A outer s H vs Q E hr h => ⟨t_law_take_1 K, ?_, pure_law_take_1 vs H Q E h⟩)
  · unfold sp_law_take_1 at h
    repeat (first | (obtain ⟨rfl, _⟩ := h; rfl) | (obtain ⟨_, h⟩ := h))
  · unfold t_law_take_1
    exact (pss_cons (ps_if (pt_cmpR Lv.op_eqI (pe_ix ix_list (pv 0) pe_int (fun _ _ => rfl)) pe_int (nomark _)) (pss_cons (ps_set (i := 2) nd rfl (by first | exact Or.inl rfl | exact Or.inr rfl) (pe_op op_mod (pe_ix ix_list (pv 0) pe_int (fun _ _ => rfl)) (pv 1))) (pss_cons (ps_asg (pe_op op_fdivW (pe_ix ix_list (pv 0) pe_int (fun _ _ => rfl)) (pv 1)) (pg_sub (pv 0) pe_int set_list)) (pss_one (ps_ret (pv 2))))) pss_nil) (pss_cons (ps_asg (pe_op op_add (pe_ix ix_list (pv 0) pe_int (fun _ _ => rfl)) pe_int) (pg_sub (pv 0) pe_int set_list)) (pss_cons (ps_set (i := 3) nd rfl (by first | exact Or.inl rfl | exact Or.inr rfl) (pe_op op_mul (pe_op op_mod (pe_ix ix_list (pv 0) pe_int (fun _ _ => rfl)) pe_int) (pe_op op_add (pe_op op_mul (pe_ix ix_list (pv 0) pe_int (fun _ _ => rfl)) (pe_ix ix_list (pv 0) pe_int (fun _ _ => rfl))) pe_int))) (pss_cons (ps_set (i := 3) nd rfl (by first | exact Or.inl rfl | exact Or.inr rfl) (pe_op op_mod (pe_op op_add (pe_op op_add (pv 3) (pe_ix ix_list (pv 0) pe_int (fun _ _ => rfl))) pe_int) pe_int)) (pss_cons (ps_set (i := 3) nd rfl (by first | exact Or.inl rfl | exact Or.inr rfl) (pe_op op_mod (pe_op op_mul (pv 3) (pv 3)) pe_int)) (pss_one (ps_ret (pe_op op_mod (pe_op op_fdiv (pe_op op_mod (pe_op op_mul (pv 3) pe_int) pe_int) pe_int) (pv 1)))))))))
theorem ok_law_text_0 (T : Txt K mg) : FnOk P w K mg base CX0 2 T.f_law_text_0 T.fd_law_text_0 ["deck"] (sp_law_text_0 K) := by
  have nd := sc_law_text_0.nd
  have G_law_take_1 := ok_law_take_1 (P := P) (w := w) (base := base) T
  refine T.F_law_text_0.ok sc_law_text_0 (fun vs H Q E h => ?_) (fun cdv A outer s H vs Q E hr h => ⟨t_law_text_0 K, ?_, pure_law_text_0 vs H Q E h⟩)
  · unfold sp_law_text_0 at h
    repeat (first | (obtain ⟨rfl, _⟩ := h; rfl) | (obtain ⟨_, h⟩ := h))
  · unfold t_law_text_0
    exact (pss_cons (ps_set (i := 1) nd rfl (by first | exact Or.inl rfl | exact Or.inr rfl) (pe_lst pa_nil)) (pss_cons (ps_for PassesOwn.never (by rfl) (pi_range1 (by rfl) T.z_range (pa_cons (pe_call G_law_take_1 (hr.mono (by decide)) (by rfl) T.a_law_take_1 T.F_law_take_1.kp T.b_law_take_1 .nil pass0 (pa_cons (pv 0) (pa_cons (pe_ix ix_list (pe_lst (pa_cons pe_int (pa_cons pe_int pa_nil))) (pe_callTy Lv.call_intB (by rfl) T.z_int (by decide +kernel) (pa_cons (pe_cmpR Lv.op_eqI (pe_call G_law_take_1 (hr.mono (by decide)) (by rfl) T.a_law_take_1 T.F_law_take_1.kp T.b_law_take_1 .nil pass0 (pa_cons (pv 0) (pa_cons pe_int pa_nil))) pe_int (nomark _)) pa_nil)) (fun _ _ => rfl)) pa_nil))) pa_nil)) (pg_name (i := 2) nd rfl (by first | exact Or.inl rfl | exact Or.inr rfl)) (pss_one (ps_expr (pe_bm PySem.F.plainAttrs_list PySem.F.slot_list_append PySem.F.type_list_append mt_append (pv 1) (pa_cons (pe_callTy Lv.call_strI (by rfl) T.z_str (by decide +kernel) (pa_cons (pe_call G_law_take_1 (hr.mono (by decide)) (by rfl) T.a_law_take_1 T.F_law_take_1.kp T.b_law_take_1 .nil pass0 (pa_cons (pv 0) (pa_cons (pe_ix ix_list (pe_lst (pa_cons pe_int (pa_cons pe_int (pa_cons pe_int (pa_cons (pe_op op_pow pe_int pe_int) pa_nil))))) (pe_call G_law_take_1 (hr.mono (by decide)) (by rfl) T.a_law_take_1 T.F_law_take_1.kp T.b_law_take_1 .nil pass0 (pa_cons (pv 0) (pa_cons pe_int pa_nil))) (fun _ _ => rfl)) pa_nil))) pa_nil)) pa_nil))))) (pss_one (ps_ret (pe_ifExp (pt_cmpR (Lv.op_eqLS hr.units) (pv 1) (pe_lst pa_nil) (nomark _)) (Lv.pe_strS (l := [45]) (by decide +kernel)) (pe_bm PySem.F.plainAttrs_str PySem.F.slot_str_join PySem.F.type_str_join Lv.mt_joinS (Lv.pe_strS (l := [32]) (by decide +kernel)) (pa_cons (pv 1) pa_nil)))))))
theorem ok_law_bad_1 (T : Txt K mg) : FnOk P w K mg base CX0 2 T.f_law_bad_1 T.fd_law_bad_1 ["deck"] (sp_law_bad_1 K) := by
  have nd := sc_law_bad_1.nd
  have G_law_take_1 := ok_law_take_1 (P := P) (w := w) (base := base) T
  refine T.F_law_bad_1.ok sc_law_bad_1 (fun vs H Q E h => ?_) (fun cdv A outer s H vs Q E hr h => ⟨t_law_bad_1 K, ?_, pure_law_bad_1 vs H Q E h⟩)
  · unfold sp_law_bad_1 at h
    repeat (first | (obtain ⟨rfl, _⟩ := h; rfl) | (obtain ⟨_, h⟩ := h))
  · unfold t_law_bad_1
    exact (pss_cons (ps_set (i := 1) nd rfl (by first | exact Or.inl rfl | exact Or.inr rfl) (pe_lst (pa_cons (Lv.pe_strS (l := []) (by decide +kernel)) (pa_cons (Lv.pe_strS (l := [45]) (by decide +kernel)) (pa_cons (Lv.pe_strS (l := [45, 45]) (by decide +kernel)) (pa_cons (Lv.pe_strS (l := [48, 48]) (by decide +kernel)) (pa_cons (Lv.pe_strS (l := [48, 49]) (by decide +kernel)) (pa_cons (Lv.pe_strS (l := [45, 48]) (by decide +kernel)) (pa_cons (Lv.pe_strS (l := [45, 49]) (by decide +kernel)) (pa_cons (Lv.pe_strS (l := [43, 49]) (by decide +kernel)) (pa_cons (Lv.pe_strS (l := [49, 46, 48]) (by decide +kernel)) (pa_cons (Lv.pe_strS (l := [49, 95, 48]) (by decide +kernel)) (pa_cons (Lv.pe_strS (l := [120]) (by decide +kernel)) (pa_cons (Lv.pe_strS (l := [48, 120, 49]) (by decide +kernel)) (pa_cons (Lv.pe_strS (l := [49, 45]) (by decide +kernel)) (pa_cons (Lv.pe_strS (l := [49, 101, 51]) (by decide +kernel)) pa_nil)))))))))))))))) (pss_cons (ps_set (i := 1) nd rfl (by first | exact Or.inl rfl | exact Or.inr rfl) (pe_op op_cat (pv 1) (pe_lst (pa_cons (Lv.pe_strS (l := [45, 32, 49]) (by decide +kernel)) (pa_cons (pe_op Lv.op_mulS1 (Lv.pe_strS (l := [57]) (by decide +kernel)) pe_int) (pa_cons (pe_op Lv.op_mulS1 (Lv.pe_strS (l := [57]) (by decide +kernel)) pe_int) (pa_cons (pe_op Lv.op_addS (Lv.pe_strS (l := [49]) (by decide +kernel)) (pe_op Lv.op_mulS1 (Lv.pe_strS (l := [48]) (by decide +kernel)) pe_int)) (pa_cons (pe_op Lv.op_addS (Lv.pe_strS (l := [49]) (by decide +kernel)) (pe_op Lv.op_mulS1 (Lv.pe_strS (l := [48]) (by decide +kernel)) pe_int)) (pa_cons (pe_op Lv.op_mulS1 (Lv.pe_strS (l := [48]) (by decide +kernel)) pe_int) (pa_cons (pe_op Lv.op_mulS1 (Lv.pe_strS (l := [55]) (by decide +kernel)) pe_int) pa_nil)))))))))) (pss_cons (ps_set (i := 1) nd rfl (by first | exact Or.inl rfl | exact Or.inr rfl) (pe_op op_cat (pv 1) (pe_lst (pa_cons (Lv.pe_strS (l := [49, 44, 50]) (by decide +kernel)) (pa_cons (Lv.pe_strS (l := [49, 10]) (by decide +kernel)) pa_nil))))) (pss_cons (ps_set (i := 2) nd rfl (by first | exact Or.inl rfl | exact Or.inr rfl) (Lv.pe_strS (l := [33, 35, 36, 39, 40, 41, 42, 46, 47, 58, 59, 60, 61, 62, 63, 64, 66, 77, 88, 89, 91, 93, 94, 96, 123, 124, 125, 126, 97, 98, 122]) (by decide +kernel))) (pss_cons (ps_expr (pe_bm PySem.F.plainAttrs_list PySem.F.slot_list_append PySem.F.type_list_append mt_append (pv 1) (pa_cons (pe_ix Lv.ix_S (pv 2) (pe_call G_law_take_1 (hr.mono (by decide)) (by rfl) T.a_law_take_1 T.F_law_take_1.kp T.b_law_take_1 .nil pass0 (pa_cons (pv 0) (pa_cons (pe_callB Lv.call_lenT (by rfl) T.z_len (by decide +kernel) (pa_cons (pv 2) pa_nil)) pa_nil))) (fun _ _ => rfl)) pa_nil))) (pss_cons (ps_expr (pe_bm PySem.F.plainAttrs_list PySem.F.slot_list_append PySem.F.type_list_append mt_append (pv 1) (pa_cons (pe_op Lv.op_addS (Lv.pe_strS (l := [49]) (by decide +kernel)) (pe_ix Lv.ix_S (pv 2) (pe_call G_law_take_1 (hr.mono (by decide)) (by rfl) T.a_law_take_1 T.F_law_take_1.kp T.b_law_take_1 .nil pass0 (pa_cons (pv 0) (pa_cons (pe_callB Lv.call_lenT (by rfl) T.z_len (by decide +kernel) (pa_cons (pv 2) pa_nil)) pa_nil))) (fun _ _ => rfl))) pa_nil))) (pss_one (ps_ret (pe_ix ix_list (pv 1) (pe_call G_law_take_1 (hr.mono (by decide)) (by rfl) T.a_law_take_1 T.F_law_take_1.kp T.b_law_take_1 .nil pass0 (pa_cons (pv 0) (pa_cons (pe_callB call_len_seq (by rfl) T.z_len (by decide +kernel) (pa_cons (pv 1) pa_nil)) pa_nil))) (fun _ _ => rfl))))))))))
theorem ok_law_spoilt_2 (T : Txt K mg) : FnOk P w K mg base CX0 3 T.f_law_spoilt_2 T.fd_law_spoilt_2 ["deck", "text"] (sp_law_spoilt_2 K) := by
  have nd := sc_law_spoilt_2.nd
  have G_law_take_1 := ok_law_take_1 (P := P) (w := w) (base := base) T
  have G_law_bad_1 := ok_law_bad_1 (P := P) (w := w) (base := base) T
  refine T.F_law_spoilt_2.ok sc_law_spoilt_2 (fun vs H Q E h => ?_) (fun cdv A outer s H vs Q E hr h => ⟨t_law_spoilt_2 K, ?_, pure_law_spoilt_2 vs H Q E h⟩)
  · unfold sp_law_spoilt_2 at h
    repeat (first | (obtain ⟨rfl, _⟩ := h; rfl) | (obtain ⟨_, h⟩ := h))
  · unfold t_law_spoilt_2
    exact (pss_cons (ps_set (i := 2) nd rfl (by first | exact Or.inl rfl | exact Or.inr rfl) (pe_call G_law_take_1 (hr.mono (by decide)) (by rfl) T.a_law_take_1 T.F_law_take_1.kp T.b_law_take_1 .nil pass0 (pa_cons (pv 0) (pa_cons pe_int pa_nil)))) (pss_cons (ps_set (i := 3) nd rfl (by first | exact Or.inl rfl | exact Or.inr rfl) (pe_call G_law_take_1 (hr.mono (by decide)) (by rfl) T.a_law_take_1 T.F_law_take_1.kp T.b_law_take_1 .nil pass0 (pa_cons (pv 0) (pa_cons (pe_op op_add (pe_callB Lv.call_lenT (by rfl) T.z_len (by decide +kernel) (pa_cons (pv 1) pa_nil)) pe_int) pa_nil)))) (pss_cons (ps_set (i := 4) nd rfl (by first | exact Or.inl rfl | exact Or.inr rfl) (pe_ix Lv.ix_S (Lv.pe_strS (l := [32, 48, 49, 50, 57, 45, 95, 97, 10]) (by decide +kernel)) (pe_call G_law_take_1 (hr.mono (by decide)) (by rfl) T.a_law_take_1 T.F_law_take_1.kp T.b_law_take_1 .nil pass0 (pa_cons (pv 0) (pa_cons pe_int pa_nil))) (fun _ _ => rfl))) (pss_cons (ps_if (pt_cmpR Lv.op_eqI (pv 2) pe_int (nomark _)) (pss_one (ps_ret (pe_op Lv.op_addS (pe_slice Lv.sl_S (pv 1) po_none (po_some (pv 3))) (pe_slice Lv.sl_S (pv 1) (po_some (pe_op op_add (pv 3) pe_int)) po_none)))) pss_nil) (pss_cons (ps_if (pt_cmpR op_lt (pv 2) pe_int (nomark _)) (pss_one (ps_ret (pe_op Lv.op_addS (pe_op Lv.op_addS (pe_slice Lv.sl_S (pv 1) po_none (po_some (pv 3))) (pv 4)) (pe_slice Lv.sl_S (pv 1) (po_some (pe_op op_sub (pe_op op_add (pv 3) (pv 2)) pe_int)) po_none)))) pss_nil) (pss_cons (ps_set (i := 5) nd rfl (by first | exact Or.inl rfl | exact Or.inr rfl) (pe_bm PySem.F.plainAttrs_str PySem.F.slot_str_split PySem.F.type_str_split Lv.mt_split1 (pv 1) (pa_cons (Lv.pe_strS (l := [32]) (by decide +kernel)) pa_nil))) (pss_cons (ps_set (i := 3) nd rfl (by first | exact Or.inl rfl | exact Or.inr rfl) (pe_call G_law_take_1 (hr.mono (by decide)) (by rfl) T.a_law_take_1 T.F_law_take_1.kp T.b_law_take_1 .nil pass0 (pa_cons (pv 0) (pa_cons (pe_op op_add (pe_callB call_len_seq (by rfl) T.z_len (by decide +kernel) (pa_cons (pv 5) pa_nil)) pe_int) pa_nil)))) (pss_one (ps_ret (pe_bm PySem.F.plainAttrs_str PySem.F.slot_str_join PySem.F.type_str_join Lv.mt_joinS (Lv.pe_strS (l := [32]) (by decide +kernel)) (pa_cons (pe_op op_cat (pe_op op_cat (pe_slice sl_list (pv 5) po_none (po_some (pv 3))) (pe_lst (pa_cons (pe_call G_law_bad_1 (hr.mono (by decide)) (by rfl) T.a_law_bad_1 T.F_law_bad_1.kp T.b_law_bad_1 .nil pass0 (pa_cons (pv 0) pa_nil)) pa_nil))) (pe_slice sl_list (pv 5) (po_some (pe_op op_sub (pe_op op_add (pv 3) (pv 2)) pe_int)) po_none)) pa_nil)))))))))))
theorem ok_read_number_0x (T : Txt K mg) : FnOk P w K mg base (L2.CX P w) 1 T.f_read_number_0x T.fd_read_number_0x ["word"] (sp_read_number_0x K T.er) := by
  have nd := sc_read_number_0x.nd
  refine T.F_read_number_0x.okX sc_read_number_0x (fun vs H Q E h => ?_) (fun cdv A outer s H vs Q E hr h => ⟨t_read_number_0x K T.er E, ?_, pure_read_number_0x vs H Q E h⟩)
  · unfold sp_read_number_0x at h
    repeat (first | (obtain ⟨rfl, _⟩ := h; rfl) | (obtain ⟨_, h⟩ := h))
  · unfold t_read_number_0x
    exact (pss_cons (ps_if (PW.pt (pw_or (pt_not (pt_chain op_le op_le pe_int (pe_callB Lv.call_lenT (by rfl) T.z_len (by decide +kernel) (pa_cons (pv 0) pa_nil)) (Lv.pe_globI (by rfl) T.c_MOST_FIGURES))) (pw_or1 (PW.pt (pw_and (pt_cmpR Lv.op_eqS (pe_ix Lv.ix_S (pv 0) pe_int (fun _ _ => rfl)) (Lv.pe_strS (l := [48]) (by decide +kernel)) (nomark _)) (pw_and1 (pt_cmpR Lv.op_neS (pv 0) (Lv.pe_strS (l := [48]) (by decide +kernel)) (nomark _)))))))) (pss_one (ps_raise rfl (takes_of rfl rfl rfl rfl) (pmk_own PySem.F.excBase_ValueError T.ER_6.xC T.e_NoText T.ER_6.kC (raises_own T.ER_6.bC T.ER_6.tC) (by exact rfl)))) pss_nil) (pss_cons (ps_for (passes_of rfl) (by rfl) (pi_str (pv 0)) (pg_name (i := 1) nd rfl (by first | exact Or.inl rfl | exact Or.inr rfl)) (pss_one (ps_if (pt_cmpR Lv.op_notIn1 (pv 1) (Lv.pe_globS (by rfl) T.c_FIGURES) (by rfl)) (pss_one (ps_raise rfl (takes_of rfl rfl rfl rfl) (pmk_own PySem.F.excBase_ValueError T.ER_6.xC T.e_NoText T.ER_6.kC (raises_own T.ER_6.bC T.ER_6.tC) (by exact rfl)))) pss_nil))) (pss_one (ps_ret (pe_callTy Lv.call_intS (by rfl) T.z_int (by decide +kernel) (pa_cons (pv 0) pa_nil))))))
theorem ok_read_list_0x (T : Txt K mg) : FnOk P w K mg base (L2.CX P w) 2 T.f_read_list_0x T.fd_read_list_0x ["text"] (sp_read_list_0x K T.er) := by
  have nd := sc_read_list_0x.nd
  have G_read_number_0x := ok_read_number_0x (P := P) (w := w) (base := base) T
  refine T.F_read_list_0x.okX sc_read_list_0x (fun vs H Q E h => ?_) (fun cdv A outer s H vs Q E hr h => ⟨t_read_list_0x K T.er E, ?_, pure_read_list_0x vs H Q E h⟩)
  · unfold sp_read_list_0x at h
    repeat (first | (obtain ⟨rfl, _⟩ := h; rfl) | (obtain ⟨_, h⟩ := h))
  · unfold t_read_list_0x
    exact (pss_cons (ps_if (pt_cmpR Lv.op_eqS (pv 0) (Lv.pe_strS (l := [45]) (by decide +kernel)) (nomark _)) (pss_one (ps_ret (pe_lst pa_nil))) pss_nil) (pss_one (ps_ret (Lv.pe_lcX (E := E) (own := [("word", 1)]) (g := (gName 1)) (tt := tYes) rfl rfl (takes_of rfl rfl rfl rfl) (by rfl) nd (pi_list (pe_bm PySem.F.plainAttrs_str PySem.F.slot_str_split PySem.F.type_str_split Lv.mt_split1 (pv 0) (pa_cons (Lv.pe_strS (l := [32]) (by decide +kernel)) pa_nil))) (blkOk_by (own := [("word", 1)]) (N := N_read_list_0x) (sc := defScope s_read_list_0x) (by decide +kernel)) (fun _ _ _ _ _ => (pg_name (i := 1) nd rfl (by first | exact Or.inl rfl | exact Or.inr rfl))) (fun _ _ _ _ _ => pts_nil) (fun _ _ _ _ _ _ _ px => (pe_call G_read_number_0x (hr.mono (by decide)) (by rfl) T.a_read_number_0x T.F_read_number_0x.kp T.b_read_number_0x .nil px (pa_cons (pv 1) pa_nil)))))))
theorem ok_law_number_in_0 (T : Txt K mg) : FnOk P w K mg base CX0 1 T.f_law_number_in_0 T.fd_law_number_in_0 ["word"] (sp_law_number_in_0 K) := by
  have nd := sc_law_number_in_0.nd
  refine T.F_law_number_in_0.ok sc_law_number_in_0 (fun vs H Q E h => ?_) (fun cdv A outer s H vs Q E hr h => ⟨t_law_number_in_0 K, ?_, pure_law_number_in_0 vs H Q E h⟩)
  · unfold sp_law_number_in_0 at h
    repeat (first | (obtain ⟨rfl, _⟩ := h; rfl) | (obtain ⟨_, h⟩ := h))
  · unfold t_law_number_in_0
    exact (pss_cons (ps_if (PW.pt (pw_or (pt_not (pt_chain op_le op_le pe_int (pe_callB Lv.call_lenT (by rfl) T.z_len (by decide +kernel) (pa_cons (pv 0) pa_nil)) pe_int)) (pw_or1 (PW.pt (pw_and (pt_cmpR Lv.op_eqS (pe_ix Lv.ix_S (pv 0) pe_int (fun _ _ => rfl)) (Lv.pe_strS (l := [48]) (by decide +kernel)) (nomark _)) (pw_and1 (pt_cmpR Lv.op_neS (pv 0) (Lv.pe_strS (l := [48]) (by decide +kernel)) (nomark _)))))))) (pss_one (ps_ret pe_non)) pss_nil) (pss_one (ps_ret (pe_ifExp (pt_val (pe_callB (cr_all rfl) (by rfl) T.z_all (by decide +kernel) (pa_cons (pe_lc (own := [("figure", 1)]) (g := (gName 1)) (tt := tYes) (by rfl) nd (pi_str (pv 0)) (blkOk_by (own := [("figure", 1)]) (N := N_law_number_in_0) (sc := defScope s_law_number_in_0) (by decide +kernel)) (fun _ _ _ _ _ => (pg_name (i := 1) nd rfl (by first | exact Or.inl rfl | exact Or.inr rfl))) (fun _ _ _ _ _ => pts_nil) (fun _ _ _ _ _ => (pe_cmpR Lv.op_in1 (pv 1) (Lv.pe_strS (l := [48, 49, 50, 51, 52, 53, 54, 55, 56, 57]) (by decide +kernel)) (by rfl)))) pa_nil))) (pe_callTy Lv.call_intS (by rfl) T.z_int (by decide +kernel) (pa_cons (pv 0) pa_nil)) pe_non))))
theorem ok_law_right_12 (T : Txt K mg) : FnG P w K mg base CX0 3 T.f_law_right_12 T.fd_law_right_12 ["text"] (sp_law_right_12 K T.er) := by
  have nd := sc_law_right_12.nd
  have G_read_list_0x := ok_read_list_0x (P := P) (w := w) (base := base) T
  have G_law_number_in_0 := ok_law_number_in_0 (P := P) (w := w) (base := base) T
  refine Lv.Fun_okG T.F_law_right_12 sc_law_right_12 (fun vs H Q E h => ?_) (fun cdv A outer s H vs Q E hr hgd h => ⟨t_law_right_12 K T.er, ?_, pure_law_right_12 T.ER_6 vs H Q E h⟩)
  · unfold sp_law_right_12 at h
    repeat (first | (obtain ⟨rfl, _⟩ := h; rfl) | (obtain ⟨_, h⟩ := h))
  · unfold t_law_right_12
    exact (pss_cons (ps_set (i := 1) nd rfl (by first | exact Or.inl rfl | exact Or.inr rfl) pe_non) (pss_cons (ps_set (i := 2) nd rfl (by first | exact Or.inl rfl | exact Or.inr rfl) (pe_lst pa_nil)) (pss_cons (Lv.ps_tryAx (i := 3) rfl rfl nd rfl rfl ⟨by rfl, by decide, Or.inl T.e_LeaveError⟩ (fun W pn xe tk po => (pss_one (ps_set (i := 1) nd rfl (by first | exact Or.inl rfl | exact Or.inr rfl) (pe_callS G_read_list_0x (hr.mono (by decide)) (by rfl) T.a_read_list_0x T.F_read_list_0x.kp T.b_read_list_0x (fun σ => passAt tk σ) (pa_cons (pv 0) pa_nil))))) (fun _ _ => (pss_cons (ps_set (i := 2) nd rfl (by first | exact Or.inl rfl | exact Or.inr rfl) (pe_lst (pa_cons (pe_callB Lv.call_is1 (by rfl) T.z_isinstance (by decide +kernel) (pa_cons (pv 3) (pa_cons (pe_glob (by rfl) T.e_NoText rfl) pa_nil))) (pa_cons (pe_callB Lv.call_is1 (by rfl) T.z_isinstance (by decide +kernel) (pa_cons (pv 3) (pa_cons (pe_bltn (v := .ty "ValueError") (u := .type "ValueError") (by rfl) T.z_ValueError (by decide +kernel) rfl) pa_nil))) pa_nil)))) (pss_one (ps_expr (pe_bm PySem.F.plainAttrs_list PySem.F.slot_list_append PySem.F.type_list_append mt_append (pv 2) (pa_cons (pe_callB Lv.call_isT (by rfl) T.z_isinstance (by decide +kernel) (pa_cons (pv 3) (pa_cons (pe_tup (pa_cons (pe_glob (by rfl) T.e_NoCommand rfl) (pa_cons (pe_glob (by rfl) T.e_NoLetter rfl) (pa_cons (pe_glob (by rfl) T.e_NoLetters rfl) (pa_cons (pe_glob (by rfl) T.e_NoPlace rfl) (pa_cons (pe_glob (by rfl) T.e_NoRow rfl) pa_nil)))))) pa_nil))) pa_nil))))))) (pss_cons (ps_set (i := 4) nd rfl (by first | exact Or.inl rfl | exact Or.inr rfl) (pe_ifExp (pt_cmpR Lv.op_eqS (pv 0) (Lv.pe_strS (l := [45]) (by decide +kernel)) (nomark _)) (pe_lst pa_nil) (pe_lc (own := [("word", 5)]) (g := (gName 5)) (tt := tYes) (by rfl) nd (pi_list (pe_bm PySem.F.plainAttrs_str PySem.F.slot_str_split PySem.F.type_str_split Lv.mt_split1 (pv 0) (pa_cons (Lv.pe_strS (l := [32]) (by decide +kernel)) pa_nil))) (blkOk_by (own := [("word", 5)]) (N := N_law_right_12) (sc := defScope s_law_right_12) (by decide +kernel)) (fun _ _ _ _ _ => (pg_name (i := 5) nd rfl (by first | exact Or.inl rfl | exact Or.inr rfl))) (fun _ _ _ _ _ => pts_nil) (fun _ _ _ _ _ => (pe_call G_law_number_in_0 (hr.mono (by decide)) (by rfl) T.a_law_number_in_0 T.F_law_number_in_0.kp T.b_law_number_in_0 .nil pass0 (pa_cons (pv 5) pa_nil)))))) (pss_cons (ps_if (pt_cmpR op_in_seq pe_non (pv 4) (by rfl)) (pss_one (ps_ret (pe_cmpR (Lv.op_eqLB hr.units) (pv 2) (pe_lst (pa_cons pe_bl (pa_cons pe_bl (pa_cons pe_bl pa_nil)))) (nomark _)))) pss_nil) (pss_one (ps_ret (pe_and (pe_cmpR (Lv.op_eqLB hr.units) (pv 2) (pe_lst pa_nil) (nomark _)) (pe_one (pe_cmpR Lv.op_eqS (pe_callB (Lv.call_repr hgd hr.units) (by rfl) T.z_repr (by decide +kernel) (pa_cons (pv 1) pa_nil)) (pe_callB (Lv.call_repr hgd hr.units) (by rfl) T.z_repr (by decide +kernel) (pa_cons (pv 4) pa_nil)) (nomark _)))))))))))
theorem ok_law_k50 (T : Txt K mg) : FnG P w K mg base CX0 4 T.f_law_k50 T.fd_law_k50 ["script"] (sp_law_k50 K) := by
  have nd := sc_law_k50.nd
  have G_law_deck_0 := ok_law_deck_0 (P := P) (w := w) (base := base) T
  have G_law_text_0 := ok_law_text_0 (P := P) (w := w) (base := base) T
  have G_law_spoilt_2 := ok_law_spoilt_2 (P := P) (w := w) (base := base) T
  have G_law_right_12 := ok_law_right_12 (P := P) (w := w) (base := base) T
  refine Lv.Fun_okG T.F_law_k50 sc_law_k50 (fun vs H Q E h => ?_) (fun cdv A outer s H vs Q E hr hgd h => ⟨t_law_k50 K T.er, ?_, pure_law_k50 T.ER_6 vs H Q E h⟩)
  · unfold sp_law_k50 at h
    repeat (first | (obtain ⟨rfl, _⟩ := h; rfl) | (obtain ⟨_, h⟩ := h))
  · unfold t_law_k50
    exact (pss_cons (ps_for PassesOwn.never (by rfl) (pi_list (pe_op op_cat (pe_slice sl_list (pv 0) po_none (po_some pe_int)) (pe_lst (pa_cons pe_int (pa_cons pe_int pa_nil))))) (pg_name (i := 1) nd rfl (by first | exact Or.inl rfl | exact Or.inr rfl)) (pss_cons (ps_set (i := 2) nd rfl (by first | exact Or.inl rfl | exact Or.inr rfl) (pe_call G_law_deck_0 (hr.mono (by decide)) (by rfl) T.a_law_deck_0 T.F_law_deck_0.kp T.b_law_deck_0 .nil pass0 (pa_cons (pv 1) (pa_cons pe_int pa_nil)))) (pss_cons (ps_set (i := 3) nd rfl (by first | exact Or.inl rfl | exact Or.inr rfl) (pe_call G_law_text_0 (hr.mono (by decide)) (by rfl) T.a_law_text_0 T.F_law_text_0.kp T.b_law_text_0 .nil pass0 (pa_cons (pv 2) pa_nil))) (pss_one (ps_if (PW.pt (pw_or (pt_not (pt_val (Lv.pe_callG G_law_right_12 (hr.mono (by decide)) hgd (by rfl) T.a_law_right_12 T.F_law_right_12.kp T.b_law_right_12 (pa_cons (pv 3) pa_nil)))) (pw_or1 (pt_not (pt_val (Lv.pe_callG G_law_right_12 (hr.mono (by decide)) hgd (by rfl) T.a_law_right_12 T.F_law_right_12.kp T.b_law_right_12 (pa_cons (pe_call G_law_spoilt_2 (hr.mono (by decide)) (by rfl) T.a_law_spoilt_2 T.F_law_spoilt_2.kp T.b_law_spoilt_2 .nil pass0 (pa_cons (pv 2) (pa_cons (pv 3) pa_nil))) pa_nil))))))) (pss_one (ps_ret pe_bl)) pss_nil))))) (pss_one (ps_ret (pe_and (Lv.pe_callG G_law_right_12 (hr.mono (by decide)) hgd (by rfl) T.a_law_right_12 T.F_law_right_12.kp T.b_law_right_12 (pa_cons (pe_bm PySem.F.plainAttrs_str PySem.F.slot_str_join PySem.F.type_str_join Lv.mt_joinS (Lv.pe_strS (l := [32]) (by decide +kernel)) (pa_cons (pe_op op_rep (pe_lst (pa_cons (Lv.pe_strS (l := [48]) (by decide +kernel)) pa_nil)) pe_int) pa_nil)) pa_nil)) (pe_one (Lv.pe_callG G_law_right_12 (hr.mono (by decide)) hgd (by rfl) T.a_law_right_12 T.F_law_right_12.kp T.b_law_right_12 (pa_cons (pe_bm PySem.F.plainAttrs_str PySem.F.slot_str_join PySem.F.type_str_join Lv.mt_joinS (Lv.pe_strS (l := [32]) (by decide +kernel)) (pa_cons (pe_op op_cat (pe_op op_rep (pe_lst (pa_cons (Lv.pe_strS (l := [55]) (by decide +kernel)) pa_nil)) pe_int) (pe_lst (pa_cons (Lv.pe_strS (l := [48, 55]) (by decide +kernel)) pa_nil))) pa_nil)) pa_nil)))))))
end
theorem all_mk {l : PySem.W.OpenLaw} {w : World} {K : PySem.W.Frag} {h : Heap} {mg : Str → Option Value} {fa : Addr} (X : K.In h) (G : h.Ns mainGlobals mg) (hfa : mg "law" = some (.ref fa))
    {e0 : Addr} (ae0 : PySem.W.nsIn K mainGlobals "LeaveError" = some (some (.ref e0))) (te0 : PySem.W.typeIn K (.ref e0) = some (.type "type")) (ie0 : PySem.W.isClsIn K e0 = true)
    {e1 : Addr} (ae1 : PySem.W.nsIn K mainGlobals "NoCommand" = some (some (.ref e1))) (te1 : PySem.W.typeIn K (.ref e1) = some (.type "type")) (ie1 : PySem.W.isClsIn K e1 = true)
    {e2 : Addr} (ae2 : PySem.W.nsIn K mainGlobals "NoLetter" = some (some (.ref e2))) (te2 : PySem.W.typeIn K (.ref e2) = some (.type "type")) (ie2 : PySem.W.isClsIn K e2 = true)
    {e3 : Addr} (ae3 : PySem.W.nsIn K mainGlobals "NoLetters" = some (some (.ref e3))) (te3 : PySem.W.typeIn K (.ref e3) = some (.type "type")) (ie3 : PySem.W.isClsIn K e3 = true)
    {e4 : Addr} (ae4 : PySem.W.nsIn K mainGlobals "NoPlace" = some (some (.ref e4))) (te4 : PySem.W.typeIn K (.ref e4) = some (.type "type")) (ie4 : PySem.W.isClsIn K e4 = true)
    {e5 : Addr} (ae5 : PySem.W.nsIn K mainGlobals "NoRow" = some (some (.ref e5))) (te5 : PySem.W.typeIn K (.ref e5) = some (.type "type")) (ie5 : PySem.W.isClsIn K e5 = true)
    {e6 : Addr} (ae6 : PySem.W.nsIn K mainGlobals "NoText" = some (some (.ref e6))) (te6 : PySem.W.typeIn K (.ref e6) = some (.type "type")) (ie6 : PySem.W.isClsIn K e6 = true)
    (be0 : PySem.W.subIn K (.ref e0) (.type "BaseException") = some true) (de0 : PySem.W.hasDictIn K e0 = true) (spe : PySem.W.specialIn K (.builtin "object.__class__") "__get__" = some (some (.builtin "getset_descriptor.__get__"))) (tke : PySem.W.takesIn K (.builtin "object.__class__") = some true)
    (xe6 : PySem.W.excIn K e6 [.type "ValueError", .type "Exception", .type "BaseException", .type "object"] "ValueError.__new__" = true) (ke6 : PySem.W.keepIn K (.ref e6) = true) (be6 : PySem.W.subIn K (.ref e6) (.type "BaseException") = some true) (le6 : PySem.W.subIn K (.ref e6) (.ref e0) = some true) (ve6 : PySem.W.subIn K (.ref e6) (.type "ValueError") = some true)
    (ga6 : PySem.W.findIn K (.ref e6) "__getattribute__" = some (some (.builtin "BaseException.__getattribute__"))) (gt6 : PySem.W.findIn K (.ref e6) "__getattr__" = some none) (de6 : PySem.W.hasDictIn K e6 = true) (ca6 : PySem.W.findIn K (.ref e6) "__class__" = some (some (.builtin "object.__class__"))) (me6 : PySem.W.mroIn K e6 (.type "object") = some true)
    (ss6_1 : PySem.W.subIn K (.ref e6) (.ref e1) = some false)
    (ss6_2 : PySem.W.subIn K (.ref e6) (.ref e2) = some false)
    (ss6_3 : PySem.W.subIn K (.ref e6) (.ref e3) = some false)
    (ss6_4 : PySem.W.subIn K (.ref e6) (.ref e4) = some false)
    (ss6_5 : PySem.W.subIn K (.ref e6) (.ref e5) = some false)
    (ss6_6 : PySem.W.subIn K (.ref e6) (.ref e6) = some true)
    {f0 : Addr} {od0 an0 : Option Addr} {sl0 : Array (Option Value)} {oc0 kV0 dc0 pm0 cd0 ct0 : Value}
    (a0 : PySem.W.nsIn K mainGlobals "_law_deck" = some (some (.ref f0))) (l0 : K.lookup f0 = some ⟨oc0, od0, .func (PySem.W.fnOf "_law_deck" "_law_deck" (defArgs s_law_deck_0) (defBody s_law_deck_0) (defScope s_law_deck_0) .none kV0 dc0 pm0 an0 cd0 ct0), sl0⟩) (c0 : PySem.W.codeIn K cd0 "_law_deck" = true) (k0 : PySem.W.keepIn K (.ref f0) = true)
    {f1 : Addr} {od1 an1 : Option Addr} {sl1 : Array (Option Value)} {oc1 kV1 dc1 pm1 cd1 ct1 : Value}
    (a1 : PySem.W.nsIn K mainGlobals "_law_take" = some (some (.ref f1))) (l1 : K.lookup f1 = some ⟨oc1, od1, .func (PySem.W.fnOf "_law_take" "_law_take" (defArgs s_law_take_1) (defBody s_law_take_1) (defScope s_law_take_1) .none kV1 dc1 pm1 an1 cd1 ct1), sl1⟩) (c1 : PySem.W.codeIn K cd1 "_law_take" = true) (k1 : PySem.W.keepIn K (.ref f1) = true)
    {f2 : Addr} {od2 an2 : Option Addr} {sl2 : Array (Option Value)} {oc2 kV2 dc2 pm2 cd2 ct2 : Value}
    (a2 : PySem.W.nsIn K mainGlobals "_law_text" = some (some (.ref f2))) (l2 : K.lookup f2 = some ⟨oc2, od2, .func (PySem.W.fnOf "_law_text" "_law_text" (defArgs s_law_text_0) (defBody s_law_text_0) (defScope s_law_text_0) .none kV2 dc2 pm2 an2 cd2 ct2), sl2⟩) (c2 : PySem.W.codeIn K cd2 "_law_text" = true) (k2 : PySem.W.keepIn K (.ref f2) = true)
    {f3 : Addr} {od3 an3 : Option Addr} {sl3 : Array (Option Value)} {oc3 kV3 dc3 pm3 cd3 ct3 : Value}
    (a3 : PySem.W.nsIn K mainGlobals "_law_bad" = some (some (.ref f3))) (l3 : K.lookup f3 = some ⟨oc3, od3, .func (PySem.W.fnOf "_law_bad" "_law_bad" (defArgs s_law_bad_1) (defBody s_law_bad_1) (defScope s_law_bad_1) .none kV3 dc3 pm3 an3 cd3 ct3), sl3⟩) (c3 : PySem.W.codeIn K cd3 "_law_bad" = true) (k3 : PySem.W.keepIn K (.ref f3) = true)
    {f4 : Addr} {od4 an4 : Option Addr} {sl4 : Array (Option Value)} {oc4 kV4 dc4 pm4 cd4 ct4 : Value}
    (a4 : PySem.W.nsIn K mainGlobals "_law_spoilt" = some (some (.ref f4))) (l4 : K.lookup f4 = some ⟨oc4, od4, .func (PySem.W.fnOf "_law_spoilt" "_law_spoilt" (defArgs s_law_spoilt_2) (defBody s_law_spoilt_2) (defScope s_law_spoilt_2) .none kV4 dc4 pm4 an4 cd4 ct4), sl4⟩) (c4 : PySem.W.codeIn K cd4 "_law_spoilt" = true) (k4 : PySem.W.keepIn K (.ref f4) = true)
    {f5 : Addr} {od5 an5 : Option Addr} {sl5 : Array (Option Value)} {oc5 kV5 dc5 pm5 cd5 ct5 : Value}
    (a5 : PySem.W.nsIn K mainGlobals "read_number" = some (some (.ref f5))) (l5 : K.lookup f5 = some ⟨oc5, od5, .func (PySem.W.fnOf "read_number" "read_number" (defArgs s_read_number_0x) (defBody s_read_number_0x) (defScope s_read_number_0x) .none kV5 dc5 pm5 an5 cd5 ct5), sl5⟩) (c5 : PySem.W.codeIn K cd5 "read_number" = true) (k5 : PySem.W.keepIn K (.ref f5) = true)
    {f6 : Addr} {od6 an6 : Option Addr} {sl6 : Array (Option Value)} {oc6 kV6 dc6 pm6 cd6 ct6 : Value}
    (a6 : PySem.W.nsIn K mainGlobals "read_list" = some (some (.ref f6))) (l6 : K.lookup f6 = some ⟨oc6, od6, .func (PySem.W.fnOf "read_list" "read_list" (defArgs s_read_list_0x) (defBody s_read_list_0x) (defScope s_read_list_0x) .none kV6 dc6 pm6 an6 cd6 ct6), sl6⟩) (c6 : PySem.W.codeIn K cd6 "read_list" = true) (k6 : PySem.W.keepIn K (.ref f6) = true)
    {f7 : Addr} {od7 an7 : Option Addr} {sl7 : Array (Option Value)} {oc7 kV7 dc7 pm7 cd7 ct7 : Value}
    (a7 : PySem.W.nsIn K mainGlobals "_law_number_in" = some (some (.ref f7))) (l7 : K.lookup f7 = some ⟨oc7, od7, .func (PySem.W.fnOf "_law_number_in" "_law_number_in" (defArgs s_law_number_in_0) (defBody s_law_number_in_0) (defScope s_law_number_in_0) .none kV7 dc7 pm7 an7 cd7 ct7), sl7⟩) (c7 : PySem.W.codeIn K cd7 "_law_number_in" = true) (k7 : PySem.W.keepIn K (.ref f7) = true)
    {f8 : Addr} {od8 an8 : Option Addr} {sl8 : Array (Option Value)} {oc8 kV8 dc8 pm8 cd8 ct8 : Value}
    (a8 : PySem.W.nsIn K mainGlobals "_law_right" = some (some (.ref f8))) (l8 : K.lookup f8 = some ⟨oc8, od8, .func (PySem.W.fnOf "_law_right" "_law_right" (defArgs s_law_right_12) (defBody s_law_right_12) (defScope s_law_right_12) .none kV8 dc8 pm8 an8 cd8 ct8), sl8⟩) (c8 : PySem.W.codeIn K cd8 "_law_right" = true) (k8 : PySem.W.keepIn K (.ref f8) = true)
    {f9 : Addr} {od9 an9 : Option Addr} {sl9 : Array (Option Value)} {oc9 kV9 dc9 pm9 cd9 ct9 : Value}
    (a9 : PySem.W.nsIn K mainGlobals "law" = some (some (.ref f9))) (l9 : K.lookup f9 = some ⟨oc9, od9, .func (PySem.W.fnOf "law" "law" (defArgs s_law_k50) (defBody s_law_k50) (defScope s_law_k50) .none kV9 dc9 pm9 an9 cd9 ct9), sl9⟩) (c9 : PySem.W.codeIn K cd9 "law" = true) (k9 : PySem.W.keepIn K (.ref f9) = true)
    (z0 : PySem.W.nsIn K mainGlobals "ValueError" = some none)
    (z1 : PySem.W.nsIn K mainGlobals "all" = some none)
    (z2 : PySem.W.nsIn K mainGlobals "int" = some none)
    (z3 : PySem.W.nsIn K mainGlobals "isinstance" = some none)
    (z4 : PySem.W.nsIn K mainGlobals "len" = some none)
    (z5 : PySem.W.nsIn K mainGlobals "range" = some none)
    (z6 : PySem.W.nsIn K mainGlobals "repr" = some none)
    (z7 : PySem.W.nsIn K mainGlobals "str" = some none)
    {ty0 : Tok} (y0 : PySem.W.nsIn K mainGlobals "FIGURES" = some (some (.str (S [48, 49, 50, 51, 52, 53, 54, 55, 56, 57]) ty0)))
    {ty1 : Tok} (y1 : PySem.W.nsIn K mainGlobals "MOST_FIGURES" = some (some (.int 30 ty1))) :
    ∃ fd : FuncData, (∀ (s : Shared) (v : Value), BindsTo s fd ⟨[v], []⟩ [("script", v)]) ∧ ∀ base : Heap, K.In base → base.Ns mainGlobals mg → FnG l.prog w K mg base CX0 4 fa fd ["script"] (sp_law_k50 K) := by
  have e := hfa.symm.trans (PySem.W.mg_of X G a9)
  cases e
  have F0 := fun_mk (st := s_law_deck_0) l0 c0 k0
  have F1 := fun_mk (st := s_law_take_1) l1 c1 k1
  have F2 := fun_mk (st := s_law_text_0) l2 c2 k2
  have F3 := fun_mk (st := s_law_bad_1) l3 c3 k3
  have F4 := fun_mk (st := s_law_spoilt_2) l4 c4 k4
  have F5 := fun_mk (st := s_read_number_0x) l5 c5 k5
  have F6 := fun_mk (st := s_read_list_0x) l6 c6 k6
  have F7 := fun_mk (st := s_law_number_in_0) l7 c7 k7
  have F8 := fun_mk (st := s_law_right_12) l8 c8 k8
  have F9 := fun_mk (st := s_law_k50) l9 c9 k9
  let er : Nat → Addr := fun n => match n with | 0 => e0 | 1 => e1 | 2 => e2 | 3 => e3 | 4 => e4 | 5 => e5 | _ => e6
  let T : Txt K mg := {
    er := er,
    e_LeaveError := PySem.W.mg_of X G ae0,
    e_NoCommand := PySem.W.mg_of X G ae1,
    e_NoLetter := PySem.W.mg_of X G ae2,
    e_NoLetters := PySem.W.mg_of X G ae3,
    e_NoPlace := PySem.W.mg_of X G ae4,
    e_NoRow := PySem.W.mg_of X G ae5,
    e_NoText := PySem.W.mg_of X G ae6,
    ER_6 := ⟨xe6, ke6, be6, te6, ⟨ga6, gt6, be6, de6, ca6, spe, tke, me6⟩, PySem.W.exm_ref be0 de0 te0 le6, kit_vE ve6, kk_of (kit_own ie1 te1 ss6_1 ss6_6) (kit_own ie2 te2 ss6_2 ss6_6) (kit_own ie3 te3 ss6_3 ss6_6) (kit_own ie4 te4 ss6_4 ss6_6) (kit_own ie5 te5 ss6_5 ss6_6) (kit_own ie6 te6 ss6_6 ss6_6)⟩,
    f_law_deck_0 := f0,
    fd_law_deck_0 := _,
    F_law_deck_0 := F0,
    a_law_deck_0 := PySem.W.mg_of X G a0,
    b_law_deck_0 := F0.binds (ps := ["cell", "k"]) fun _ _ _ _ _ _ us hl => match us, hl with | [_, _], _ => rfl,
    f_law_take_1 := f1,
    fd_law_take_1 := _,
    F_law_take_1 := F1,
    a_law_take_1 := PySem.W.mg_of X G a1,
    b_law_take_1 := F1.binds (ps := ["deck", "many"]) fun _ _ _ _ _ _ us hl => match us, hl with | [_, _], _ => rfl,
    f_law_text_0 := f2,
    fd_law_text_0 := _,
    F_law_text_0 := F2,
    a_law_text_0 := PySem.W.mg_of X G a2,
    b_law_text_0 := F2.binds (ps := ["deck"]) fun _ _ _ _ _ _ us hl => match us, hl with | [_], _ => rfl,
    f_law_bad_1 := f3,
    fd_law_bad_1 := _,
    F_law_bad_1 := F3,
    a_law_bad_1 := PySem.W.mg_of X G a3,
    b_law_bad_1 := F3.binds (ps := ["deck"]) fun _ _ _ _ _ _ us hl => match us, hl with | [_], _ => rfl,
    f_law_spoilt_2 := f4,
    fd_law_spoilt_2 := _,
    F_law_spoilt_2 := F4,
    a_law_spoilt_2 := PySem.W.mg_of X G a4,
    b_law_spoilt_2 := F4.binds (ps := ["deck", "text"]) fun _ _ _ _ _ _ us hl => match us, hl with | [_, _], _ => rfl,
    f_read_number_0x := f5,
    fd_read_number_0x := _,
    F_read_number_0x := F5,
    a_read_number_0x := PySem.W.mg_of X G a5,
    b_read_number_0x := F5.binds (ps := ["word"]) fun _ _ _ _ _ _ us hl => match us, hl with | [_], _ => rfl,
    f_read_list_0x := f6,
    fd_read_list_0x := _,
    F_read_list_0x := F6,
    a_read_list_0x := PySem.W.mg_of X G a6,
    b_read_list_0x := F6.binds (ps := ["text"]) fun _ _ _ _ _ _ us hl => match us, hl with | [_], _ => rfl,
    f_law_number_in_0 := f7,
    fd_law_number_in_0 := _,
    F_law_number_in_0 := F7,
    a_law_number_in_0 := PySem.W.mg_of X G a7,
    b_law_number_in_0 := F7.binds (ps := ["word"]) fun _ _ _ _ _ _ us hl => match us, hl with | [_], _ => rfl,
    f_law_right_12 := f8,
    fd_law_right_12 := _,
    F_law_right_12 := F8,
    a_law_right_12 := PySem.W.mg_of X G a8,
    b_law_right_12 := F8.binds (ps := ["text"]) fun _ _ _ _ _ _ us hl => match us, hl with | [_], _ => rfl,
    f_law_k50 := _,
    fd_law_k50 := _,
    F_law_k50 := F9,
    z_ValueError := PySem.W.mg_none_of X G z0,
    z_all := PySem.W.mg_none_of X G z1,
    z_int := PySem.W.mg_none_of X G z2,
    z_isinstance := PySem.W.mg_none_of X G z3,
    z_len := PySem.W.mg_none_of X G z4,
    z_range := PySem.W.mg_none_of X G z5,
    z_repr := PySem.W.mg_none_of X G z6,
    z_str := PySem.W.mg_none_of X G z7,
    ct_FIGURES := _,
    c_FIGURES := PySem.W.mg_of X G y0,
    ct_MOST_FIGURES := _,
    c_MOST_FIGURES := PySem.W.mg_of X G y1 }
  exact ⟨_, fun s v => .of_eq rfl, fun base _ _ => ok_law_k50 T⟩
end Lv
open PySem PySem.W PyProof.Rows
set_option maxHeartbeats 0 in
theorem PySem.Challenge.cw_leavings_k50_texts_of_no_list_holds : PySem.Challenge.rw_leavings_k50_texts_of_no_list.Holds := by
  w_on; o_law; k_head; (case hw => w_witness2)
  k_fill
  refine Lv.walk_ofG (l := PySem.Challenge.rw_leavings_k50_texts_of_no_list) (n := 63) (k := 4) (x := "script") (sp := fun w => Lv.sp_law_k50 _) rfl (by decide) rfl ⟨rfl, by decide, by decide⟩ (fun w h Y => PySem.W.kIn_of Y) ?F (fun _ _ a ns hl hS => ⟨a, ns, rfl, hS, hl, fun _ => rfl⟩)
  case F =>
    intro w mg fa h KX G hmg
    refine' Lv.all_mk KX G hmg ?ae0 ?te0 ?ie0 ?ae1 ?te1 ?ie1 ?ae2 ?te2 ?ie2 ?ae3 ?te3 ?ie3 ?ae4 ?te4 ?ie4 ?ae5 ?te5 ?ie5 ?ae6 ?te6 ?ie6 ?be0 ?de0 ?spe ?tke ?xe6 ?ke6 ?be6 ?le6 ?ve6 ?ga6 ?gt6 ?de6 ?ca6 ?me6 ?ss6_1 ?ss6_2 ?ss6_3 ?ss6_4 ?ss6_5 ?ss6_6 ?a0 ?l0 ?c0 ?k0 ?a1 ?l1 ?c1 ?k1 ?a2 ?l2 ?c2 ?k2 ?a3 ?l3 ?c3 ?k3 ?a4 ?l4 ?c4 ?k4 ?a5 ?l5 ?c5 ?k5 ?a6 ?l6 ?c6 ?k6 ?a7 ?l7 ?c7 ?k7 ?a8 ?l8 ?c8 ?k8 ?a9 ?l9 ?c9 ?k9 ?z0 ?z1 ?z2 ?z3 ?z4 ?z5 ?z6 ?z7 ?y0 ?y1
    (case ae0 => k_is); (case te0 => k_is); (case ie0 => k_is); (case ae1 => k_is); (case te1 => k_is); (case ie1 => k_is); (case ae2 => k_is); (case te2 => k_is); (case ie2 => k_is); (case ae3 => k_is); (case te3 => k_is); (case ie3 => k_is); (case ae4 => k_is); (case te4 => k_is); (case ie4 => k_is); (case ae5 => k_is); (case te5 => k_is); (case ie5 => k_is); (case ae6 => k_is); (case te6 => k_is); (case ie6 => k_is); (case be0 => k_is); (case de0 => k_is); (case spe => k_is); (case tke => k_is); (case xe6 => k_exc); (case ke6 => k_is); (case be6 => k_is); (case le6 => k_is); (case ve6 => k_is); (case ga6 => k_is); (case gt6 => k_is); (case de6 => k_is); (case ca6 => k_is); (case me6 => k_is); (case ss6_1 => first | k_is | rfl); (case ss6_2 => first | k_is | rfl); (case ss6_3 => first | k_is | rfl); (case ss6_4 => first | k_is | rfl); (case ss6_5 => first | k_is | rfl); (case ss6_6 => first | k_is | rfl); (case a0 => k_is); (case l0 => k_is); (case c0 => k_is); (case k0 => k_is); (case a1 => k_is); (case l1 => k_is); (case c1 => k_is); (case k1 => k_is); (case a2 => k_is); (case l2 => k_is); (case c2 => k_is); (case k2 => k_is); (case a3 => k_is); (case l3 => k_is); (case c3 => k_is); (case k3 => k_is); (case a4 => k_is); (case l4 => k_is); (case c4 => k_is); (case k4 => k_is); (case a5 => k_is); (case l5 => k_is); (case c5 => k_is); (case k5 => k_is); (case a6 => k_is); (case l6 => k_is); (case c6 => k_is); (case k6 => k_is); (case a7 => k_is); (case l7 => k_is); (case c7 => k_is); (case k7 => k_is); (case a8 => k_is); (case l8 => k_is); (case c8 => k_is); (case k8 => k_is); (case a9 => k_is); (case l9 => k_is); (case c9 => k_is); (case k9 => k_is); (case z0 => k_is); (case z1 => k_is); (case z2 => k_is); (case z3 => k_is); (case z4 => k_is); (case z5 => k_is); (case z6 => k_is); (case z7 => k_is); (case y0 => k_is); (case y1 => k_is)
