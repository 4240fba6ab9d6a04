import PyProof.Rows.All
import Wide.All
import OpenK.AllK
import Wide.FinOn
import HandS.ForMost
import HandS.IsInst
import HandS.StrMore
import HandS.Walk
import HandS.Style
import HandS.Codes
import HandS.Conv
import HandS.More
import HandS.Evl
import PyProof.StrBlock2
import KE.KDictZip
import HandS.ListItems
import KE.GoesEnum
import KE.GoesMore
import PySem.Challenge.RW_leavings_k21_ways_counted
set_option Elab.async false
set_option linter.all false
set_option maxRecDepth 100000
set_option maxHeartbeats 2000000
namespace Lv
open PySem PySem.Spec PyProof.Rows L2 SX

/-! texts as lists of codes -/
theorem pe_strS {X : Cx} {x : Str} {j : Nat} {pos : Pos} {l : List Nat} (h : x = S l) : PE X (.Constant (.str x) j pos) (tC (.str (S l))) := by
  subst h
  exact pe_str
/-- s[::-1] of a text -/
def tRevS (te : TE) : TE := fun σ H Q => te σ H fun x H1 => ∃ l : List Nat, x = .str (S l) ∧ l.length ≤ sizeLine ∧ Q (.str (S l.reverse)) H1
theorem fm_some {α β : Type} {f : α → Option β} {g : α → β} : ∀ {l : List α}, (∀ k ∈ l, f k = some (g k)) → l.filterMap f = l.map g
  | [], _ => rfl
  | a :: l, h => by
    rw [List.filterMap_cons, h a List.mem_cons_self, List.map_cons, fm_some fun k hk => h k (List.mem_cons_of_mem _ hk)]
theorem range_getD {α : Type} (l : List α) (d : α) : (List.range l.length).map (fun k => l.getD k d) = l := by
  apply List.ext_getElem
  · simp
  · intro i h1 h2
    simp [List.getD_eq_getElem?_getD, h2]
theorem idx_rev (n : Nat) : Builtin.Str.strSliceIndices none none (-1) n = (List.range n).map (fun k => n - 1 - k) := by
  unfold Builtin.Str.strSliceIndices PySem.sliceRange
  simp only [show ¬ ((-1 : Int) > 0) by decide, if_false]
  by_cases h : (n : Int) - 1 > -1
  · rw [if_pos h]
    have e : (((n : Int) - 1 - -1 - -1 - 1) / - -1).toNat = n := by
      rw [show (- -1 : Int) = 1 by decide, Int.ediv_one]; omega
    rw [e]
    refine List.map_congr_left fun k hk => ?_
    have := List.mem_range.mp hk
    omega
  · have : n = 0 := by omega
    subst this
    rfl
theorem pick_rev (l : List Nat) : (((List.range l.length).map (fun k => l.length - 1 - k)).filterMap (fun i => l.toArray[i]?)) = l.reverse := by
  rw [List.filterMap_map, fm_some (g := fun k => l.reverse.getD k 0)]
  · have := range_getD l.reverse 0
    rw [List.length_reverse] at this
    exact this
  · intro k hk
    have hk := List.mem_range.mp hk
    have h1 : l.length - 1 - k < l.length := by omega
    show l.toArray[l.length - 1 - k]? = _
    rw [List.getElem?_toArray, List.getD_eq_getElem?_getD, List.getElem?_reverse hk, List.getElem?_eq_getElem h1]
    rfl
theorem pe_revS {X : Cx} {e : Expr} {te : TE} {k : Nat} {p1 p2 p3 pos : Pos} (he : PE X e te) : PE X (.Subscript e (.Slice none none (some (.UnaryOp .USub (.Constant (.int 1) k p1) p2)) p3) pos) (tRevS te) := by
  refine ⟨fun pins s σ H Q I h => ?_⟩
  refine Subscript_ (thn (he.run pins s σ H _ I h) fun v s1 ⟨x, H1, I1, r1, q1⟩ => ?_)
  obtain ⟨l, rfl, hz, q⟩ := q1
  obtain ⟨t, rfl⟩ := r1
  have hst : PO X (some (.UnaryOp .USub (.Constant (.int 1) k p1) p2)) (tPart (tUn (rU fun i => .int (-i)) (tC (.int 1)))) := po_some (pe_un un_neg pe_int)
  refine wpAny_Slice (thn (po_none.run pins s1 σ H1 (fun o H2 => o = none ∧ H2 = H1) I1 ⟨rfl, rfl⟩) fun vl s2 ⟨lo, H2, I2, pl, el, e2⟩ => ?_)
  subst el e2
  refine thn (po_none.run pins s2 σ H2 (fun o H3 => o = none ∧ H3 = H2) I2 ⟨rfl, rfl⟩) fun vu s3 ⟨u, H3, I3, pu, eu, e3⟩ => ?_
  subst eu e3
  refine thn (hst.run pins s3 σ H3 (fun o H4 => o = some (-1) ∧ H4 = H3) I3 ⟨1, rfl, -1, rfl, rfl, rfl⟩) fun vs s4 ⟨o, H4, I4, ps, eo, e4⟩ => ?_
  subst eo e4
  have I5 : Inv X pins σ H4 { s4 with heap := s4.heap.push { cls := .type "slice", data := .fields #[vl, vu, vs] } } := I4.kept (t' := s4.toks) fun b ob q => Heap.get?_push_of_some _ q
  obtain ⟨a1, rfl, e1⟩ := IsPart.raw pl
  obtain ⟨a2, rfl, e2⟩ := IsPart.raw pu
  obtain ⟨a3, rfl, e3⟩ := IsPart.raw ps
  show wpAny (model X.prog X.w) X.A (subscriptTail e (.Slice none none (some (.UnaryOp .USub (.Constant (.int 1) k p1) p2)) p3) (.str (S l) t) (.ref s4.heap.objs.size)) (EP X pins σ Q) X.xe { s4 with heap := s4.heap.push { cls := .type "slice", data := .fields #[partValue a1, partValue a2, partValue a3] } }
  refine tail_any (ops := [.str (S l) t, .ref s4.heap.objs.size]) (typeIs_str _ _ _) (F.slot_str_getitem.lookup) ?_ (by with_unfolding_all rfl)
  have e3' : (a3.map (·.1)).getD 1 = -1 := by rw [e3]; rfl
  refine wpAny_getItem_str_slice (l := a1) (u := a2) (st := a3) ⟨_, Heap.get?_push_size _ rfl, rfl, rfl⟩ (by rw [e3']; decide) ?_
  unfold sliceMade
  rw [if_neg (by rw [e3']; simp)]
  have ep : ((slicePicked (S l) a1 a2 a3).filterMap ((S l).cps[·]?)) = l.reverse := by
    unfold slicePicked
    rw [e3', e1, e2, S_len, idx_rev]
    exact pick_rev l
  rw [ep]
  refine ⟨?_, .str (S l.reverse), H4, I5.tok _, ⟨_, rfl⟩, q⟩
  show (S l.reverse).length ≤ sizeLine
  rw [S_len, List.length_reverse]
  exact hz
theorem foldl_app {α : Type} (n : Nat) (l : List α) : ∀ acc : Array α, ((List.replicate n l.toArray).foldl (· ++ ·) acc).toList = acc.toList ++ (List.replicate n l).flatten := by
  induction n with
  | zero => intro acc; simp
  | succ n ih =>
    intro acc
    rw [List.replicate_succ, List.foldl_cons, ih, List.replicate_succ, List.flatten_cons]
    simp
theorem mul_S (l : List Nat) (n : Int) : Txt.mul (S l) n = S (List.replicate n.toNat l).flatten := by
  unfold Txt.mul
  by_cases h : n < 1
  · rw [if_pos h, show n.toNat = 0 by omega]
    rfl
  · rw [if_neg h]
    by_cases h2 : (n == 1 || (S l).length == 0) = true
    · rw [if_pos h2]
      rw [Bool.or_eq_true] at h2
      rcases h2 with h2 | h2
      · have := eq_of_beq h2
        subst this
        simp
      · rw [S_len] at h2
        have : l = [] := List.length_eq_zero_iff.mp (eq_of_beq h2)
        subst this
        simp
    · rw [if_neg h2]
      refine TL.ext_tl ?_
      show ((List.replicate n.toNat l.toArray).foldl (· ++ ·) #[]).toList = _
      rw [foldl_app]
      simp [TL.tl]
theorem op_mulS {X : Cx} : OpR X (binaryOp .Mult) (fun x y H Q => ∃ (l : List Nat) (n : Int), x = .str (S l) ∧ y = .int n ∧ -(2 ^ 38) < n ∧ n < 2 ^ 38 ∧ l.length * n.toNat ≤ sizeLine ∧ Q (.str (S (List.replicate n.toNat l).flatten)) H) := by
  intro pins s σ H x y v u Q I rx ry h
  obtain ⟨l, n, rfl, rfl, h0, h1, hz, q⟩ := h
  obtain ⟨t, rfl⟩ := rx
  obtain ⟨t', rfl⟩ := ry
  refine SB.mul ⟨?_, ?_, ?_⟩ fun t2 k => ?_
  · rw [decide_eq_false (show ¬ n < -(2 ^ 63 : Int) by omega), decide_eq_false (show ¬ n ≥ (2 ^ 63 : Int) by omega)]; rfl
  · intro h2 h3 h4
    rw [S_len] at h4
    have h5 : (l.length : Int) ≤ 16777216 := by
      have : l.length * 1 ≤ l.length * n.toNat := Nat.mul_le_mul_left _ (by omega)
      have : sizeLine = 16777216 := by decide
      omega
    have h6 : (2 ^ 63 - 1 : Int) / n ≥ 16777216 := by
      have := Int.le_ediv_of_mul_le (show 0 < n by omega) (show 16777216 * n ≤ 2 ^ 63 - 1 by omega)
      exact this
    omega
  · intro _ _
    unfold Builtin.Str.tooLong
    rw [S_len]
    exact decide_eq_false (by omega)
  · rw [mul_S]
    exact ⟨.str _, H, I.tok _, ⟨_, rfl⟩, q⟩
end Lv

set_option Elab.async false
set_option linter.all false
set_option maxRecDepth 100000
set_option maxHeartbeats 2000000
namespace Lv
open PySem PySem.Spec PyProof.Rows L2 SX
/-! list(enumerate(list)) -/
theorem en_no_len : typeLookup (.type "enumerate") "__len__" = pure none := by rw [typeLookup_type, builtinLookup_eq_fast]; kernel_rfl
theorem en_no_hint : typeLookup (.type "enumerate") "__length_hint__" = pure none := by rw [typeLookup_type, builtinLookup_eq_fast]; kernel_rfl
def EnSt (h : Heap) (e it l S : Addr) (i : Nat) (items : Array Value) : Prop :=
  h.IsListIter it l i ∧ h.IsList l items ∧ ((∃ old, IsEnum h e it i old) ∨ ∃ old T f oT, IsEnumHeld h e it i old T f ∧ h.get? T = some oT ∧ T ≠ e ∧ T ≠ it ∧ T ≠ S)
structure EnG (items : Array Value) (lo : Addr) (h : Heap) (ts : List Addr) : Prop where
  rise : ts.Pairwise (· < ·)
  above : ∀ a ∈ ts, lo < a
  pairs : ∀ (j : Nat) (a : Addr), ts[j]? = some a → ∃ t x, items[j]? = some x ∧ h.get? a = some { cls := .type "tuple", data := .seq #[.int j t, x] }
theorem EnG.there {items : Array Value} {lo : Addr} {h : Heap} {ts : List Addr} (g : EnG items lo h ts) {a : Addr} (ha : a ∈ ts) : a < h.objs.size := by
  obtain ⟨j, hj⟩ := List.mem_iff_getElem?.mp ha
  obtain ⟨_, _, _, e⟩ := g.pairs j a hj
  exact Heap.lt_size e
theorem EnSt.keep {h h' : Heap} {e it l S : Addr} {i : Nat} {items : Array Value} (x : EnSt h e it l S i items) (hk : ∀ b o, b ≠ S → h.get? b = some o → h'.get? b = some o) (he : e ≠ S) (hi : it ≠ S) (hl : l ≠ S) : EnSt h' e it l S i items := by
  obtain ⟨a, b, c⟩ := x
  refine ⟨a.at fun o y => hk _ o hi y, b.at fun o y => hk _ o hl y, ?_⟩
  rcases c with ⟨old, c⟩ | ⟨old, T, f, oT, c, c1, c2, c3, c4⟩
  · exact .inl ⟨old, hk _ _ he c⟩
  · exact .inr ⟨old, T, f, oT, hk _ _ he c, hk _ _ c4 c1, c2, c3, c4⟩
section
variable {prog : Program} {w : World} {A : Around} {s : Shared} {R : Result → Shared → Prop} {E : Value → Shared → Prop} {e it l S : Addr} {items : Array Value}
theorem en_item {i : Nat} {x : Value} {Q : Option Value → Shared → Prop} (hst : EnSt s.heap e it l S i items) (hei : e ≠ it) (hle : l ≠ e) (hli : l ≠ it) (hS : S < s.heap.objs.size) (hx : items[i]? = some x)
    (hQ : ∀ h', EnSt h' e it l S (i + 1) items → h'.get? s.heap.objs.size = some { cls := .type "tuple", data := .seq #[.int i s.toks, x] } → h'.objs.size = s.heap.objs.size + 1 →
      (∀ b o, b ≠ e → b ≠ it → s.heap.get? b = some o → h'.get? b = some o) → Q (some (.ref s.heap.objs.size)) { s with heap := h', toks := s.toks + 1 }) :
    wpAny (model prog w) A (pyNext (.ref e)) Q E s := by
  obtain ⟨hit, hl, he⟩ := hst
  have ec : ((i + 1 : Nat) : Int) = (i : Int) + 1 := by omega
  have nit : s.heap.objs.size ≠ it := let ⟨_, x, _⟩ := hit; Nat.ne_of_gt (Heap.lt_size x)
  rcases he with ⟨old, he⟩ | ⟨old, T, f, oT, he, hT, r1, r2, r3⟩
  · refine wpAny_pyNext_enum_item he hit hl hx hei fun h' ho hit' hT hsz hk => ?_
    exact hQ h' ⟨hit', hl.at fun o x => hk l o hle hli x, .inr ⟨_, s.heap.objs.size, false, _, (by rw [ec]; exact ho), hT, Nat.ne_of_gt (Heap.lt_size he), nit, Nat.ne_of_gt hS⟩⟩ hT hsz hk
  · refine wpAny_pyNext_enum_item_held he hT r1 r2 hit hl hx hei fun h' ho hit' hT' hsz hk => ?_
    exact hQ h' ⟨hit', hl.at fun o x => hk l o hle hli x, .inr ⟨old, T, true, oT, (by rw [ec]; exact ho), hk _ _ r1 r2 hT, r1, r2, r3⟩⟩ hT' hsz hk
theorem en_done {i : Nat} {Q : Option Value → Shared → Prop} (hh : A.handled = none) (hst : EnSt s.heap e it l S i items) (hx : items[i]? = none)
    (hQ : ∀ h', Heap.ExtBut it s.heap h' → Q none { s with heap := h' }) : wpAny (model prog w) A (pyNext (.ref e)) Q E s := by
  obtain ⟨hit, hl, he⟩ := hst
  rcases he with ⟨old, he⟩ | ⟨old, T, f, oT, he, hT, r1, r2, r3⟩
  · exact wpAny_pyNext_enum_end hh he hit hl hx hQ
  · exact wpAny_pyNext_enum_end_held hh he hit hl hx hQ
theorem en_loop (hh : A.handled = none) (hei : e ≠ it) (hle : l ≠ e) (hli : l ≠ it) (hSe : e < S) (hSi : it < S) (hSl : l ≠ S) (hn : items.size ≤ sizeLine) (res : Value) {h₁ : Heap}
    (hR : ∀ h' tk acc c ts, (∀ b o, b ≠ S → b ≠ e → b ≠ it → h₁.get? b = some o → h'.get? b = some o) → h'.get? S = some { cls := .type "list", dict := none, data := .seq acc c, slots := #[] } → ts.length = items.size → EnG items S h' ts →
      acc.toList = ts.map Value.ref → R (.ok (.ret res)) { s with heap := h', toks := tk }) :
    ∀ (k i : Nat) (h : Heap) (tk c : Nat) (acc : Array Value) (ts : List Addr), items.size - i = k → i ≤ items.size → EnSt h e it l S i items → (∀ b o, b ≠ S → b ≠ e → b ≠ it → h₁.get? b = some o → h.get? b = some o) →
      h.get? S = some { cls := .type "list", dict := none, data := .seq acc c, slots := #[] } → acc.toList = ts.map Value.ref → ts.length = i → EnG items S h ts → S < h.objs.size →
      codeAny (model prog w) A (.builtin "list.extend.loop" ⟨[.ref S, .ref e, res], []⟩) R { s with heap := h, toks := tk } := by
  have nSe : S ≠ e := Nat.ne_of_gt hSe
  have nSi : S ≠ it := Nat.ne_of_gt hSi
  intro k
  induction k with
  | zero =>
    intro i h tk c acc ts hk hi hst hkeep hS hacc hal hG hIs
    have hin : i = items.size := by omega
    refine codeAny_builtin PySem.F.entry_extend_loop ?_
    rw [Around.under_plainId PySem.F.plain_extend_loop _]
    show wpAny _ A.in1 (pyNext (.ref e) >>= _) _ _ _
    refine wpAny_bind (en_done (s := { s with heap := h, toks := tk }) (A := A.in1) hh hst (Array.getElem?_eq_none (by omega)) fun h' he => ?_)
    refine wpAny_pure (hR h' tk acc c ts (fun b o h1 h2 h3 e => he b o h3 (hkeep b o h1 h2 h3 e)) (he S _ nSi hS) (by omega) ⟨hG.rise, hG.above, fun j a hj => ?_⟩ hacc)
    obtain ⟨t, x, e1, e3⟩ := hG.pairs j a hj
    exact ⟨t, x, e1, he a _ (Nat.ne_of_gt (Nat.lt_trans hSi (hG.above a (List.mem_of_getElem? hj)))) e3⟩
  | succ k ih =>
    intro i h tk c acc ts hk hi hst hkeep hS hacc hal hG hIs
    have hlt : i < items.size := by omega
    refine codeAny_builtin PySem.F.entry_extend_loop ?_
    rw [Around.under_plainId PySem.F.plain_extend_loop _]
    show wpAny _ A.in1 (pyNext (.ref e) >>= _) _ _ _
    refine wpAny_bind (en_item (s := { s with heap := h, toks := tk }) (A := A.in1) (x := items[i]) hst hei hle hli hIs (Array.getElem?_eq_getElem hlt) fun h' hst' hT hsz hk' => ?_)
    replace hT : h'.get? h.objs.size = some { cls := .type "tuple", data := .seq #[.int i tk, items[i]] } := hT
    replace hsz : h'.objs.size = h.objs.size + 1 := hsz
    replace hk' : ∀ b o, b ≠ e → b ≠ it → h.get? b = some o → h'.get? b = some o := hk'
    have hS' := hk' S _ nSe nSi hS
    have nSn : h.objs.size ≠ S := Nat.ne_of_gt hIs
    have hasz : acc.size = i := by rw [← hal, ← List.length_map (f := Value.ref), ← hacc, Array.length_toList]
    show wpAny _ A.in1 (updateSeq S (·.push (.ref h.objs.size)) >>= _) _ _ _
    refine wpAny_bind ?_
    have oth : ∀ b o, b ≠ S → h'.get? b = some o → (h'.update S (Obj.mapSeq (·.push (Value.ref h.objs.size)))).get? b = some o := fun b o hb e => (Heap.get?_update_other _ _ (Ne.symm hb)).trans e
    refine wpAny_updateSeq hS' rfl (wpAny_pure ⟨plainId_quiet PySem.F.plain_extend_loop _, ?_⟩) (by rw [hasz]; omega) (by show (acc.push _).size ≤ sizeLine + 1; rw [Array.size_push, hasz]; omega)
    refine ih (i + 1) (h'.update S (Obj.mapSeq (·.push (Value.ref h.objs.size)))) (tk + 1) _ (acc.push (.ref h.objs.size)) (ts ++ [h.objs.size]) (by omega) hlt (hst'.keep oth nSe.symm nSi.symm hSl) (fun b o h1 h2 h3 e1 => oth b o h1 (hk' b o h2 h3 (hkeep b o h1 h2 h3 e1))) (Heap.get?_update_self _ hS' rfl) ?_ ?_ ?_ ?_
    · rw [Array.toList_push, hacc, List.map_append]; rfl
    · rw [List.length_append, hal]; rfl
    · refine ⟨?_, ?_, ?_⟩
      · rw [List.pairwise_append]
        refine ⟨hG.rise, by simp, fun a ha b hb => ?_⟩
        rw [List.mem_singleton.mp hb]
        exact hG.there ha
      · intro a ha
        rcases List.mem_append.mp ha with ha | ha
        · exact hG.above a ha
        · rw [List.mem_singleton.mp ha]; exact hIs
      · intro j a hj
        by_cases hjl : j < ts.length
        · rw [List.getElem?_append_left hjl] at hj
          obtain ⟨t, x, e1, e3⟩ := hG.pairs j a hj
          have am := hG.above a (List.mem_of_getElem? hj)
          exact ⟨t, x, e1, oth a _ (Nat.ne_of_gt am) (hk' a _ (Nat.ne_of_gt (Nat.lt_trans hSe am)) (Nat.ne_of_gt (Nat.lt_trans hSi am)) e3)⟩
        · rw [List.getElem?_append_right (by omega)] at hj
          have hj0 : j - ts.length = 0 := by
            rcases Nat.eq_zero_or_pos (j - ts.length) with z | z
            · exact z
            · rw [List.getElem?_eq_none (by simp; omega)] at hj; cases hj
          rw [hj0] at hj
          have ea : h.objs.size = a := Option.some.inj hj
          have ej : j = i := by omega
          subst ej
          rw [← ea]
          exact ⟨tk, items[j], Array.getElem?_eq_getElem hlt, oth _ _ nSn hT⟩
    · have : (h'.update S (Obj.mapSeq (·.push (Value.ref h.objs.size)))).objs.size = h'.objs.size := by simp [Heap.update]
      rw [this, hsz]; exact Nat.lt_succ_of_lt hIs
theorem en_extend (hh : A.handled = none) (hei : e ≠ it) (hle : l ≠ e) (hli : l ≠ it) (hSe : e < S) (hSi : it < S) (hSl : l ≠ S) (hn : items.size ≤ sizeLine) (res : Value) (c₀ : Nat)
    (he : IsEnum s.heap e it 0 .none) (hit : s.heap.IsListIter it l 0) (hl : s.heap.IsList l items) (hS : s.heap.get? S = some { cls := .type "list", data := .seq #[] c₀ })
    (hR : ∀ h' tk acc c ts, (∀ b o, b ≠ S → b ≠ e → b ≠ it → s.heap.get? b = some o → h'.get? b = some o) → h'.get? S = some { cls := .type "list", dict := none, data := .seq acc c, slots := #[] } → ts.length = items.size → EnG items S h' ts →
      acc.toList = ts.map Value.ref → R (.ok (.ret res)) { s with heap := h', toks := tk }) :
    wpAny (model prog w) A.in1 (Builtin.List.listExtendWith (.ref S) (.ref e) res)
      (fun fin s' => match fin with | .done f => R (.ok f) s' | .again c' => c'.quiet = true ∧ codeAny (model prog w) A c' R s') (fun e s' => R (.error e) s') s := by
  have nSe : S ≠ e := Nat.ne_of_gt hSe
  have hTy : s.TypeIs (.ref e) "enumerate" := ⟨_, he, rfl⟩
  have hst : EnSt s.heap e it l S 0 items := ⟨hit, hl, .inl ⟨_, he⟩⟩
  unfold Builtin.List.listExtendWith
  refine wpAny_bind (wpAny_typeOf hTy ?_)
  have h1 : Builtin.List.listSameRef (.ref S) (.ref e) = false := by simp [Builtin.List.listSameRef, nSe]
  have h2 : (Value.type "enumerate" == Value.type "list") = false := by decide
  have h3 : (Value.type "enumerate" == Value.type "tuple") = false := by decide
  simp only [h1, h2, h3, Bool.or_false, Bool.false_eq_true, if_false]
  refine wpAny_bind (wpAny_pyIter_enum he ?_)
  refine wpAny_bind (wpAny_holding ?_)
  unfold Builtin.List.listLengthHint
  refine wpAny_bind (wpAny_specialOf hTy en_no_len ?_)
  show wpAny _ A.in1 (specialOf (Value.ref e) (Str.ofString "__length_hint__") >>= _) _ _ _
  refine wpAny_bind (wpAny_specialOf hTy en_no_hint ?_)
  refine wpAny_pure ?_
  show wpAny _ A.in1 (rule "list.extend.makes-room" >>= fun _ => Builtin.List.listTouch (.ref S) >>= fun _ =>
    again (.builtin "list.extend.loop" ⟨[.ref S, .ref e, res], []⟩)) _ _ _
  refine wpAny_bind (wpAny_rule ?_)
  refine wpAny_bind ?_
  show wpAny _ A.in1 (updateSeq S (·.push .none) >>= fun _ => updateSeq S (·.pop)) _ _ _
  refine wpAny_bind (wpAny_updateSeq hS rfl ?_)
  have hS₂ := Heap.get?_update_self (Obj.mapSeq (·.push Value.none)) hS rfl
  refine wpAny_updateSeq (hz := by seq_fits) hS₂ rfl ?_
  have hS₃ := Heap.get?_update_self (Obj.mapSeq (·.pop)) hS₂ rfl
  have oth : ∀ b o, b ≠ S → s.heap.get? b = some o → ((s.heap.update S (Obj.mapSeq (·.push Value.none))).update S (Obj.mapSeq (·.pop))).get? b = some o :=
    fun b o hb e => (Heap.get?_update_other _ _ (Ne.symm hb)).trans ((Heap.get?_update_other _ _ (Ne.symm hb)).trans e)
  have sz : ((s.heap.update S (Obj.mapSeq (·.push Value.none))).update S (Obj.mapSeq (·.pop))).objs.size = s.heap.objs.size := by simp [Heap.update]
  refine wpAny_pure ⟨plainId_quiet PySem.F.plain_extend_loop _, en_loop (s := s) hh hei hle hli hSe hSi hSl hn res (h₁ := s.heap) hR _ 0 _ s.toks _ _ [] rfl (Nat.zero_le _) (hst.keep oth nSe.symm (Nat.ne_of_lt hSi) hSl) (fun b o h1 _ _ e => oth b o h1 e) hS₃ rfl rfl ⟨by simp, by simp, by simp⟩ ?_⟩
  rw [sz]
  exact Heap.lt_size hS
theorem en_init (hh : A.handled = none) (hei : e ≠ it) (hle : l ≠ e) (hli : l ≠ it) (hSe : e < S) (hSi : it < S) (hSl : l ≠ S) (hn : items.size ≤ sizeLine)
    (he : IsEnum s.heap e it 0 .none) (hit : s.heap.IsListIter it l 0) (hl : s.heap.IsList l items) (hS : s.heap.get? S = some { cls := .type "list", data := .seq #[] })
    (hR : ∀ h' tk acc c ts, (∀ b o, b ≠ S → b ≠ e → b ≠ it → s.heap.get? b = some o → h'.get? b = some o) → h'.get? S = some { cls := .type "list", dict := none, data := .seq acc c, slots := #[] } → ts.length = items.size → EnG items S h' ts →
      acc.toList = ts.map Value.ref → R (.ok (.ret .none)) { s with heap := h', toks := tk }) :
    wpAny (model prog w) A.in1 (Builtin.«list.__init__» ⟨[.ref S, .ref e], []⟩)
      (fun fin s' => match fin with | .done f => R (.ok f) s' | .again c' => c'.quiet = true ∧ codeAny (model prog w) A c' R s') (fun e s' => R (.error e) s') s := by
  show wpAny _ _ (do let old ← Builtin.List.listItems (.ref S); Builtin.List.listUpdate (.ref S) (fun _ => #[]); letGo old.toList.reverse; Builtin.List.listExtendWith (.ref S) (.ref e) .none) _ _ s
  refine wpAny_bind ?_
  unfold Builtin.List.listItems
  refine wpAny_bind (wpAny_seqItems hS rfl (wpAny_pure ?_))
  show wpAny _ _ (updateSeq S (fun _ => #[]) >>= fun _ => letGo (#[] : Array Value).toList.reverse >>= fun _ => Builtin.List.listExtendWith (.ref S) (.ref e) .none) _ _ s
  refine wpAny_bind (wpAny_updateSeq hS rfl ?_)
  have hS₂ := Heap.get?_update_self (Obj.mapSeq (fun _ => (#[] : Array Value))) hS rfl
  have oth : ∀ b o, b ≠ S → s.heap.get? b = some o → (s.heap.update S (Obj.mapSeq (fun _ => (#[] : Array Value)))).get? b = some o :=
    fun b o hb e => (Heap.get?_update_other _ _ (Ne.symm hb)).trans e
  refine wpAny_bind (wpAny_letGo ?_)
  refine en_extend hh hei hle hli hSe hSi hSl hn .none _ (oth _ _ (Nat.ne_of_lt hSe) he) (hit.at fun o x => oth _ o (Nat.ne_of_lt hSi) x) (hl.at fun o x => oth _ o hSl x) hS₂ fun h' tk acc c ts hk hS' h1 h2 h3 => ?_
  exact hR h' tk acc c ts (fun b o a1 a2 a3 x => hk b o a1 a2 a3 (oth b o a1 x)) hS' h1 h2 h3
theorem call_list_enum {Q : Value → Shared → Prop} (hh : A.handled = none) (hei : e ≠ it) (hle : l ≠ e) (hli : l ≠ it) (hn : items.size ≤ sizeLine)
    (he : IsEnum s.heap e it 0 .none) (hit : s.heap.IsListIter it l 0) (hl : s.heap.IsList l items)
    (hQ : ∀ h' tk acc c ts, (∀ b o, b ≠ e → b ≠ it → s.heap.get? b = some o → h'.get? b = some o) → h'.get? s.heap.objs.size = some { cls := .type "list", dict := none, data := .seq acc c, slots := #[] } → ts.length = items.size → EnG items s.heap.objs.size h' ts →
      acc.toList = ts.map Value.ref → Q (.ref s.heap.objs.size) { s with heap := h', toks := tk }) :
    wpAny (model prog w) A (call (.type "list") [.ref e]) Q E s := by
  refine callType_codes (Q₁ := fun obj s₁ => obj = .ref s.heap.objs.size ∧ s₁ = { s with heap := s.heap.push { cls := .type "list", data := .seq #[] } }) F.called_list (F.typeCall_list_1 _) F.entry_list_init
    (code_list_new _ ⟨rfl, rfl⟩) fun obj s₁ h₁ => ?_
  obtain ⟨rfl, rfl⟩ := h₁
  have hS : (s.heap.push { cls := .type "list", data := .seq #[] }).get? s.heap.objs.size = some { cls := .type "list", data := .seq #[] } := Heap.get?_push_size _ rfl
  have kp : ∀ b o, s.heap.get? b = some o → (s.heap.push { cls := .type "list", data := .seq #[] }).get? b = some o := fun b o x => Heap.get?_push_of_some _ x
  have li : it < s.heap.objs.size := by obtain ⟨_, x, _⟩ := hit; exact Heap.lt_size x
  have ll : l < s.heap.objs.size := by obtain ⟨_, x, _⟩ := hl; exact Heap.lt_size x
  refine ⟨⟨_, hS, rfl⟩, F.args_list_init_2 _ _, en_init (A := A.in1) (S := s.heap.objs.size) hh hei hle hli (Heap.lt_size he) li (Nat.ne_of_lt ll) hn (kp _ _ he) (hit.at fun o x => kp _ o x) (hl.at fun o x => kp _ o x) hS fun h' tk acc c ts hk hS' h1 h2 h3 => ?_⟩
  exact ⟨rfl, hQ h' tk acc c ts (fun b o a2 a3 x => hk b o (Nat.ne_of_lt (Heap.lt_size x)) a2 a3 (kp b o x)) hS' h1 h2 h3⟩
end
/-- the tuples tracked at their addresses, numbered from k on -/
def putE : Hp → List Addr → Nat → List V → Hp
  | H, a :: as, k, x :: xs => putE (upd H a (.tup [.int (k : Nat), x])) as (k + 1) xs
  | H, _, _, _ => H
theorem putE_off {b : Addr} : ∀ (as : List Addr) (k : Nat) (xs : List V) (H : Hp), b ∉ as → putE H as k xs b = H b
  | [], _, _, _, _ => rfl
  | _ :: _, _, [], _, _ => rfl
  | a :: as, k, x :: xs, H, h => by
    show putE (upd H a (.tup [.int (k : Nat), x])) as (k + 1) xs b = H b
    rw [putE_off as (k + 1) xs _ (fun z => h (List.mem_cons_of_mem _ z)), upd_ne (fun z => h (by rw [z]; exact List.mem_cons_self))]
theorem putE_at : ∀ (as : List Addr) (k : Nat) (xs : List V) (H : Hp), as.length = xs.length → as.Nodup → ∀ (j : Nat) (a : Addr) (x : V), as[j]? = some a → xs[j]? = some x → putE H as k xs a = some (.tup [.int ((k + j : Nat) : Int), x])
  | [], _, [], _, _, _ => by simp
  | [], _, _ :: _, _, h, _ => by cases h
  | _ :: _, _, [], _, h, _ => by cases h
  | a :: as, k, x :: xs, H, h, hn => by
    have hn' := List.nodup_cons.mp hn
    intro j a' x' ha hx
    show putE (upd H a (.tup [.int (k : Nat), x])) as (k + 1) xs a' = _
    cases j with
    | zero =>
      have e1 : a = a' := Option.some.inj ha
      have e2 : x = x' := Option.some.inj hx
      subst e1 e2
      rw [putE_off as _ xs _ hn'.1, upd_same]
      rfl
    | succ j =>
      have ih := putE_at as (k + 1) xs (upd H a (.tup [.int (k : Nat), x])) (Nat.succ.inj h) hn'.2 j a' x' ha hx
      rw [ih]
      have : k + 1 + j = k + (j + 1) := by omega
      rw [this]
def rListEn (K : PySem.W.Frag) : V → Hp → VK → Prop := fun v H Q => ∃ (a : Addr) (xs : List V), v = .ref a ∧ SqL K H a xs ∧
  ∀ (H' : Hp) (p : Addr) (ts : List Addr), Same H H' → H p = none → ts.length = xs.length → H' p = some (.lst (ts.map V.ref)) → (∀ (j : Nat) (t : Addr) (x : V), ts[j]? = some t → xs[j]? = some x → H' t = some (.tup [.int (j : Int), x])) → Q (.ref p) H'
def tListEn (K : PySem.W.Frag) (te : TE) : TE := fun σ H Q => te σ H fun x H1 => rListEn K x H1 Q
section
variable {X : Cx} {e : Expr} {te : TE} {p p2 pos pos2 : Pos}
theorem pe_listEn (hc : X.calm = true) (he : PE X e te) (hg : Gl X "list") (hm : X.mg "list" = none) (hg2 : Gl X "enumerate") (hm2 : X.mg "enumerate" = none)
    (hs : starEach [.Call (.Name "enumerate" p2) [e] [] pos2] X.env = (false, eval (.Call (.Name "enumerate" p2) [e] [] pos2) X.env) :: starEach [] X.env := by rfl)
    (hs2 : starEach [e] X.env = (false, eval e X.env) :: starEach [] X.env := by rfl) :
    PE X (.Call (.Name "list" p) [.Call (.Name "enumerate" p2) [e] [] pos2] [] pos) (tListEn X.K te) := by
  refine ⟨fun pins s σ H Q I hq => ?_⟩
  refine wpAny_Call_Name_kw (ld_blt I hg hm (by decide +kernel : bootBuiltins "list" = some (.type "list")) ?_)
  refine PyProof.Rows.callWith_type1 ?_ hs rfl
  rw [hs]
  show wpAny _ _ (spliced ((false, eval (.Call (.Name "enumerate" p2) [e] [] pos2) X.env) :: backTo pos (starEach [] X.env))) _ _ s
  refine Calls.spliced_cons ?_
  refine wpAny_Call_Name_kw (ld_blt I hg2 hm2 (by decide +kernel : bootBuiltins "enumerate" = some (.type "enumerate")) ?_)
  refine PyProof.Rows.callWith_type1 ?_ hs2 rfl
  rw [hs2]
  show wpAny _ _ (spliced ((false, eval e X.env) :: backTo pos2 (starEach [] X.env))) _ _ s
  refine Calls.spliced_cons (thn (he.run pins s σ H _ I hq) fun u s1 ⟨x, H1, I1, rx, q1⟩ => ?_)
  obtain ⟨a, xs, rfl, hL, q⟩ := q1
  obtain rfl : u = Value.ref a := rx
  obtain ⟨its, r, ht, hz⟩ := I1.list hL
  refine Calls.spliced_nil ?_
  refine call_enumerate_list ht.isList fun h' hE hI hsz hk => ?_
  refine Calls.spliced_nil ?_
  have I2 : Inv X pins σ H1 { s1 with heap := h' } := I1.kept (t' := s1.toks) hk
  have hL2 : h'.IsList a its.toArray := ht.isList.at fun o y => hk _ o y
  have la : a < s1.heap.objs.size := by obtain ⟨_, y, _⟩ := ht.isList; exact Heap.lt_size y
  have hlen := r.length
  refine call_list_enum (s := { s1 with heap := h' }) (A := X.A) (I1.ok.hd hc) (Nat.succ_ne_self _) (Nat.ne_of_lt (Nat.lt_succ_of_lt la)) (Nat.ne_of_lt la) (by rw [List.size_toArray]; omega) hE hI hL2 fun h2 tk acc c ts hk2 hS h1 hG hacc => ?_
  replace hk2 : ∀ b o, b ≠ s1.heap.objs.size + 1 → b ≠ s1.heap.objs.size → h'.get? b = some o → h2.get? b = some o := hk2
  replace hG : EnG its.toArray h'.objs.size h2 ts := hG
  replace hS : h2.get? h'.objs.size = some { cls := .type "list", dict := none, data := .seq acc c, slots := #[] } := hS
  show EP X pins σ Q (.ref h'.objs.size) { s1 with heap := h2, toks := tk }
  have hk3 : ∀ b o, s1.heap.get? b = some o → h2.get? b = some o := fun b o y => hk2 b o (Nat.ne_of_lt (Nat.lt_succ_of_lt (Heap.lt_size y))) (Nat.ne_of_lt (Heap.lt_size y)) (hk b o y)
  have lowS : s1.heap.objs.size ≤ h'.objs.size := by rw [hsz]; exact Nat.le_add_right _ _
  rw [List.size_toArray] at h1
  have hSn : h'.objs.size ∉ ts := fun z => Nat.lt_irrefl _ (hG.above _ z)
  have nd : ts.Nodup := List.Pairwise.imp (fun {a b} (h : a < b) => Nat.ne_of_lt h) hG.rise
  have new : ∀ t ∈ ts, H1 t = none := fun t ht => I1.hok.fresh (Nat.le_trans lowS (Nat.le_of_lt (hG.above t ht)))
  have newS : H1 h'.objs.size = none := I1.hok.fresh lowS
  have hl : ts.length = xs.length := by omega
  have atP := putE_at ts 0 xs (upd H1 h'.objs.size (.lst (ts.map V.ref))) hl nd
  have off : ∀ b, b ∉ ts → b ≠ h'.objs.size → putE (upd H1 h'.objs.size (.lst (ts.map V.ref))) ts 0 xs b = H1 b := fun b h1 h2 => by rw [putE_off ts 0 xs _ h1, upd_ne h2]
  have low : ∀ b o, s1.heap.get? b = some o → b ∉ ts ∧ b ≠ h'.objs.size := fun b o e => ⟨fun z => absurd (Heap.lt_size e) (Nat.not_lt.mpr (Nat.le_trans lowS (Nat.le_of_lt (hG.above b z)))), Nat.ne_of_lt (Nat.lt_of_lt_of_le (Heap.lt_size e) lowS)⟩
  have kp : ∀ b u, H1 b = some u → (putE (upd H1 h'.objs.size (.lst (ts.map V.ref))) ts 0 xs) b = some u := fun b u e => by
    rw [off b (fun z => by rw [new b z] at e; cases e) (fun z => by rw [z, newS] at e; cases e)]
    exact e
  have eS : putE (upd H1 h'.objs.size (.lst (ts.map V.ref))) ts 0 xs h'.objs.size = some (.lst (ts.map V.ref)) := by rw [putE_off ts 0 xs _ hSn, upd_same]
  refine ⟨.ref h'.objs.size, putE (upd H1 h'.objs.size (.lst (ts.map V.ref))) ts 0 xs, ?_, rfl, q _ _ ts kp newS hl eS fun j t x e1 e2 => by rw [atP j t x e1 e2, Nat.zero_add]⟩
  refine I1.call' (ch := []) rfl ⟨fun b o q _ _ _ => hk3 b o q, fun b o q _ _ _ => ⟨o.slots, hk3 b o q⟩, fun b o q n _ => ?_, fun b o q _ => ⟨o, hk3 b o q⟩, fun b xs q => kp b _ q, fun b o u q => kp b _ q, fun b ps q => ⟨#[], by rw [kp b _ q]; simp⟩⟩ (fun b u q => ?_) I1.bare fun b z => by simp at z
  · obtain ⟨z1, z2⟩ := low b o q
    rw [off b z1 z2]
    exact n
  · by_cases hb : b ∈ ts
    · obtain ⟨j, hj⟩ := List.mem_iff_getElem?.mp hb
      obtain ⟨t, x, f1, f2⟩ := hG.pairs j b hj
      rw [List.getElem?_toArray] at f1
      have hjl : j < xs.length := by
        have := (List.getElem?_eq_some_iff.mp hj).1
        omega
      have ex : xs[j]? = some xs[j] := List.getElem?_eq_getElem hjl
      obtain ⟨x', g1, g2⟩ := r.get ex
      rw [f1] at g1
      cases g1
      rw [atP j b _ hj ex, Nat.zero_add] at q
      cases q
      exact ⟨by show 2 ≤ sizeLine; decide, [.int j t, x], .cons ⟨t, rfl⟩ (.cons g2 .nil), ⟨_, f2, rfl, _, rfl⟩⟩
    · by_cases hb2 : b = h'.objs.size
      · rw [hb2] at q ⊢
        rw [eS] at q
        cases q
        refine ⟨by rw [List.length_map]; omega, acc.toList, c, by rw [hacc]; exact LiI.vals_refs ts, ?_⟩
        rw [Array.toArray_toList]
        exact hS
      · rw [off b hb hb2] at q
        exact (I1.hok b u q).stay (fun d v _ y => hk3 d v y) (fun d y => kp d _ y) fun d xs y => kp d _ y
end
end Lv

set_option Elab.async false
set_option linter.all false
set_option maxRecDepth 100000
set_option maxHeartbeats 2000000
namespace Lv
open PySem PySem.Spec PyProof.Rows L2 SX
/-! for i, c in enumerate(text) -/
/-- turn i: a new tuple whose items are told by Y -/
def ItT (n : Nat) (Y : Nat → List V → Prop) : It :=
  ⟨fun i _ => i < n, fun i H v H' => ∃ T xs, v = .ref T ∧ H T = none ∧ H' = upd H T (.tup xs) ∧ Y i xs, fun i _ => n ≤ i⟩
theorem turn_walksT {P : Program} {w : World} {K : PySem.W.Frag} {elts : List Expr} {kk : Nat} {tpos : Pos} {I : Addr} {fp wr : List Addr} {n : Nat} {Pt : Nat → Array Value → Prop} {St : Nat → Heap → Prop} {Mid : Nat → Addr → Heap → Prop} {Y : Nat → List V → Prop}
    (W : ∀ A : Around, A.handled = none → WalksT P w A I fp wr n Pt St Mid) (hI : I ∈ fp) (hobj : ∀ i h, St i h → ∀ b ∈ fp, ∃ o, h.get? b = some o ∧ ∀ v, o.data ≠ .cell v)
    (hY : ∀ i vals, i < n → Pt i vals → ∃ xs, Vals xs vals.toList ∧ xs.length ≤ sizeLine ∧ Y i xs) (hself : ∀ (A : Around) (i : Nat) (s : Shared) (Q : Value → Shared → Prop) (E : Value → Shared → Prop), St i s.heap → Q (.ref I) s → wpAny (model P w) A (pyIter (.ref I)) Q E s) :
    Turn P w K (.Tuple elts kk tpos) (ItT n Y) fp I (fun i h => St i h ∧ i ≤ n) where
  mem := hI
  obj := fun i h st b hb => hobj i h st.1 b hb
  keep := fun i h h' st k => ⟨(W {} rfl).frame i h h' st.1 k, st.2⟩
  item := by
    intro X hP hw hK hc i pins s σ H E I1 hf st hg
    subst hP hw hK
    have WA := W X.A (I1.ok.hd hc)
    refine WA.item i s _ _ hg st.1 fun T vals h' tk hp hT hTup hm hk => ?_
    refine ⟨_, rfl, WA.go elts kk tpos i T { s with heap := h', toks := tk } _ _ hm fun h2 st2 hk2 => ?_⟩
    replace hk2 : ∀ b o, b ∉ wr → h'.get? b = some o → h2.get? b = some o := hk2
    obtain ⟨xs, rv, hz, y⟩ := hY i vals hg hp
    have hTup2 : h2.IsTuple T vals := hTup.at fun o q => hk2 T o (WA.apart i T h' hm) q
    have new : ObjOk X.prog X.w (upd H T (.tup xs)) h2 T (.tup xs) := by
      refine ⟨hz, vals.toList, rv, ?_⟩
      rw [Array.toArray_toList]
      exact hTup2
    have I2 : Inv X pins σ (upd H T (.tup xs)) { s with heap := h2, toks := tk } :=
      I1.turnedNew (ch := fp) (fun b ob hb q => hk2 b ob (fun z => hb (WA.sub b z)) (hk b ob (fun z => hb (WA.sub b z)) q)) hf hT new
    refine ⟨.ref T, _, I2, rfl, ⟨T, xs, rfl, I1.hok.fresh hT, rfl, y⟩, ⟨st2, hg⟩, fun b hb => ?_⟩
    obtain ⟨o, ho, _⟩ := hobj i s.heap st.1 b hb
    rw [upd_ne (Nat.ne_of_lt (Nat.lt_of_lt_of_le (Heap.lt_size ho) hT))]
    exact (hf b hb).1
  done := by
    intro X hP hw hK hc i pins s σ H E I1 hf st hg
    subst hP hw hK
    have hin : i = n := Nat.le_antisymm st.2 hg
    subst hin
    have WA := W X.A (I1.ok.hd hc)
    refine WA.done s _ _ st.1 fun h' tk hk => ⟨rfl, ?_⟩
    have off : ∀ b o, H b = some o → b ∉ fp := fun b o q z => by rw [(hf b z).1] at q; cases q
    have hk' : ∀ b o, b ∉ fp → s.heap.get? b = some o → h'.get? b = some o := fun b o hb q => hk b o (fun z => hb (WA.sub b z)) q
    refine I1.call' (ch := fp) rfl ⟨fun b o q _ _ z => hk' b o z q, fun b o q _ _ z => ⟨o.slots, hk' b o z q⟩, fun b o q n _ => n, fun b o q z => ⟨o, hk' b o z q⟩, fun b xs q => q, fun b o u q => q, fun b ps q => ⟨#[], by rw [q]; simp⟩⟩ (fun b u q => ?_) I1.bare fun b z => ?_
    · refine (I1.hok b u q).stay (fun c v hc y => hk' c v ?_ y) (fun d y => y) fun d xs y => y
      rcases hc with rfl | hc
      · exact off _ _ q
      · exact off _ _ hc
    · obtain ⟨f0, f1, f2, f3, f4, f5⟩ := hf b z
      exact ⟨f3, f1, f4, f5⟩
  self := fun A i s Q E st h => hself A i s Q E st.1 h
/-- enumerate(text) -/
def iEnumS (ta : TA) : TI := fun σ H R => ta σ H fun vs H1 => ∃ l : List Nat, vs = [.str (S l)] ∧ R (ItT l.length fun i xs => ∃ c, l[i]? = some c ∧ xs = [.int (i : Nat), .str (S [c])]) H1
theorem pi_enumS {X : Cx} {e : Expr} {ta : TA} {p pos tpos : Pos} {elts : List Expr} {kk : Nat} (hg : Gl X "enumerate") (hm : X.mg "enumerate" = none) (ha : PA X [e] ta) (hs : starEach [e] X.env = [(false, eval e X.env)] := by rfl) :
    PI X (.Tuple elts kk tpos) (.Call (.Name "enumerate" p) [e] [] pos) (iEnumS ta) := by
  refine ⟨fun pins s σ H R I h => ?_⟩
  refine Call_ (ld_blt I hg hm boot_enumerate (PyProof.Rows.callWith_type1 (thn (ha.run pos pins s σ H _ I h) fun us s1 ⟨vs, H1, I1, r1, q1⟩ => ?_) hs rfl))
  obtain ⟨l, rfl, q⟩ := q1
  cases r1 with
  | cons r rr =>
    cases rr
    obtain ⟨t, rfl⟩ := r
    refine call_enumerate_str fun h' he hit hsz hk => wpAny_pyIter_enum he ?_
    have I2 : Inv X pins σ H1 { s1 with heap := h' } := I1.kept (t' := s1.toks) hk
    have hne : s1.heap.objs.size + 1 ≠ s1.heap.objs.size := Nat.succ_ne_self _
    have hef : s1.heap.objs.size + 1 ∉ [s1.heap.objs.size] := fun z => hne (List.mem_singleton.mp z)
    have T := turn_walksT (P := X.prog) (w := X.w) (K := X.K) (elts := elts) (kk := kk) (tpos := tpos) (n := (S l).cps.size) (Y := fun i xs => ∃ c, l[i]? = some c ∧ xs = [.int (i : Nat), .str (S [c])])
      (fun A hA => WalksT.enumFrom 0 (Draws.text (A := A.in1) hA s1.heap.objs.size (S l) t) (s1.heap.objs.size + 1) hne hef List.mem_cons_self) List.mem_cons_self ?_ ?_ ?_
    · have e2 : (S l).cps.size = l.length := by simp
      rw [e2] at T
      refine ⟨s1.heap.objs.size + 1, _, _, _, H1, rfl, I2, T, ⟨⟨⟨.none, by simpa using he⟩, hit⟩, Nat.zero_le _⟩, fun b hb => ?_, q⟩
      have e' : b = s1.heap.objs.size + 1 ∨ b = s1.heap.objs.size := by simpa using hb
      have hle : s1.heap.objs.size ≤ b := by
        rcases e' with z | z
        · rw [z]; exact Nat.le_add_right _ _
        · rw [z]; exact Nat.le_refl _
      exact I1.fpOk hle (I1.hok.fresh hle)
    · intro i h st b hb
      obtain ⟨⟨old, he⟩, ho⟩ := st
      have e' : b = s1.heap.objs.size + 1 ∨ b = s1.heap.objs.size := by simpa using hb
      rcases e' with z | z
      · rw [z]; exact ⟨_, he, fun v q => nomatch q⟩
      · obtain ⟨o, ho, hc, hd⟩ := ho
        rw [z]; exact ⟨o, ho, fun v q => by rw [hd] at q; cases q⟩
    · rintro i vals hi ⟨tt, x, ⟨c, u, hc, rfl⟩, rfl⟩
      refine ⟨[.int (i : Nat), .str (S [c])], .cons ⟨tt, by rw [Int.zero_add]⟩ (.cons ⟨u, rfl⟩ .nil), by show 2 ≤ sizeLine; decide, c, by simpa using hc, rfl⟩
    · intro A i s Q E st hq
      obtain ⟨⟨old, he⟩, _⟩ := st
      exact wpAny_pyIter_enum he hq
theorem walk_enumS {n : Nat} {Y : Nat → List V → Prop} : Walk (ItT n Y) n (fun _ => True) (fun i H v H' => ∃ T xs, v = .ref T ∧ H T = none ∧ H' = upd H T (.tup xs) ∧ Y i xs) :=
  ⟨fun _ _ hi _ => hi, fun _ _ => Nat.le_refl _, fun _ _ _ _ _ _ y => y⟩
/-- xs[i] read for xs[i] += e -/
theorem get_list {X : Cx} : PGet X (rIxL X.K) := by
  intro pins s σ H x y v u Q I rx ry h
  obtain ⟨p, xs, i, z, rfl, rfl, hq, he, q⟩ := h
  cases rx
  obtain ⟨t, rfl⟩ := ry
  obtain ⟨its, r, pl, hz⟩ := I.list hq
  obtain ⟨j, h1, h2, h3, h4, h5⟩ := atI_get he
  obtain ⟨w, ew, rw'⟩ := r.get h2
  have hl := r.length
  have hn := line63
  have fin : EP X pins σ Q w s := ⟨z, H, I, rw', q⟩
  by_cases h0 : 0 ≤ i
  · have hj : i.toNat = j := by
      rw [seqIndex_of h0 h5] at h1
      exact Option.some.inj h1
    exact wpAny_getItem_list pl.isList h0 (by omega) (by rw [hj]; simpa using ew) fin
  · have hj : (i + (its.toArray.size : Int)).toNat = j := by
      rw [seqIndex_neg (by omega) h4] at h1
      rw [List.size_toArray, ← hl]
      exact Option.some.inj h1
    exact wpAny_getItem_list_neg pl.isList (by omega) (by rw [List.size_toArray] <;> omega) (by omega) (by rw [hj]; simpa using ew) fin
end Lv

set_option Elab.async false
set_option linter.all false
set_option maxRecDepth 100000
set_option maxHeartbeats 2000000
namespace Lv
open PySem PySem.Spec PyProof.Rows L2 SX
/-! ints -/
abbrev rAdd : R2 := rI0 fun i j => .int (i + j)
abbrev rSub : R2 := rI0 fun i j => .int (i - j)
abbrev rMul : R2 := rI CMul fun i j => .int (i * j)
abbrev rDiv : R2 := rI CDiv fun i j => .int (i / j)
abbrev rMod : R2 := rI (fun _ j => 0 < j) fun i j => .int (i % j)
abbrev rPow : R2 := rI CPow fun i j => .int (i ^ j.toNat)
abbrev rLt : R2 := rI0 fun i j => .bl (decide (i < j))
abbrev rLe : R2 := rI0 fun i j => .bl (decide (i ≤ j))
abbrev rGt : R2 := rI0 fun i j => .bl (decide (j < i))
abbrev rGe : R2 := rI0 fun i j => .bl (decide (j ≤ i))
abbrev rEqI : R2 := rI0 fun i j => .bl (decide (i = j))
abbrev rNeI : R2 := rI0 fun i j => .bl (!decide (i = j))
abbrev rNeg : V → Hp → VK → Prop := rU fun i => .int (-i)
section
variable {X : Cx}
theorem op_eqI : OpR X (compareOp .Eq) rEqI := by
  intro pins s σ H x y v u Q I rx ry h
  obtain ⟨i, j, rfl, rfl, q⟩ := h
  refine op_eq pins s σ H _ _ v u Q I rx ry ⟨rfl, ?_⟩
  rw [show decide (V.int i = V.int j) = decide (i = j) by simp]
  exact q
theorem op_neI : OpR X (compareOp .NotEq) rNeI := by
  intro pins s σ H x y v u Q I rx ry h
  obtain ⟨i, j, rfl, rfl, q⟩ := h
  refine op_ne pins s σ H _ _ v u Q I rx ry ⟨rfl, ?_⟩
  rw [show decide (V.int i = V.int j) = decide (i = j) by simp]
  exact q
/-! texts -/
def r2S (g : List Nat → List Nat → V) : R2 := fun x y H Q => ∃ a b : List Nat, x = .str (S a) ∧ y = .str (S b) ∧ Q (g a b) H
def rAddS : R2 := fun x y H Q => ∃ a b : List Nat, x = .str (S a) ∧ y = .str (S b) ∧ a.length + b.length ≤ sizeLine ∧ Q (.str (S (a ++ b))) H
abbrev rEqS : R2 := r2S fun a b => .bl (decide (a = b))
abbrev rNeS : R2 := r2S fun a b => .bl (!decide (a = b))
abbrev rLtS : R2 := r2S fun a b => .bl (decide (a < b))
abbrev rLeS : R2 := r2S fun a b => .bl (!decide (b < a))
abbrev rGtS : R2 := r2S fun a b => .bl (decide (b < a))
abbrev rGeS : R2 := r2S fun a b => .bl (!decide (a < b))
def rMulS : R2 := fun x y H Q => ∃ (l : List Nat) (n : Int), x = .str (S l) ∧ y = .int n ∧ -(2 ^ 38) < n ∧ n < 2 ^ 38 ∧ l.length * n.toNat ≤ sizeLine ∧ Q (.str (S (List.replicate n.toNat l).flatten)) H
theorem op_mulS1 : OpR X (binaryOp .Mult) rMulS := op_mulS
theorem op_addS : OpR X (binaryOp .Add) rAddS := by
  intro pins s σ H x y v u Q I rx ry h
  obtain ⟨a, b, rfl, rfl, hz, q⟩ := h
  refine op_add_str pins s σ H _ _ v u Q I rx ry ⟨_, _, rfl, rfl, ?_, ?_⟩
  · rw [S_len, S_len]; exact hz
  · rw [S_cat]; exact q
theorem dec_S (a b : List Nat) : decide (V.str (S a) = V.str (S b)) = decide (a = b) := by
  by_cases h : a = b
  · subst h; simp
  · have : ¬ (V.str (S a) = V.str (S b)) := fun z => h (S_inj (V.str.inj z))
    rw [decide_eq_false h, decide_eq_false this]
theorem op_eqS : OpR X (compareOp .Eq) rEqS := by
  intro pins s σ H x y v u Q I rx ry h
  obtain ⟨a, b, rfl, rfl, q⟩ := h
  refine op_eq pins s σ H _ _ v u Q I rx ry ⟨rfl, ?_⟩
  rw [dec_S]
  exact q
theorem op_neS : OpR X (compareOp .NotEq) rNeS := by
  intro pins s σ H x y v u Q I rx ry h
  obtain ⟨a, b, rfl, rfl, q⟩ := h
  refine op_ne pins s σ H _ _ v u Q I rx ry ⟨rfl, ?_⟩
  rw [dec_S]
  exact q
theorem op_ltS : OpR X (compareOp .Lt) rLtS := by
  intro pins s σ H x y v u Q I rx ry h
  obtain ⟨a, b, rfl, rfl, q⟩ := h
  exact op_lt_str pins s σ H _ _ v u Q I rx ry ⟨_, _, rfl, rfl, q⟩
theorem op_leS : OpR X (compareOp .LtE) rLeS := by
  intro pins s σ H x y v u Q I rx ry h
  obtain ⟨a, b, rfl, rfl, q⟩ := h
  exact op_le_str pins s σ H _ _ v u Q I rx ry ⟨_, _, rfl, rfl, q⟩
theorem op_gtS : OpR X (compareOp .Gt) rGtS := by
  intro pins s σ H x y v u Q I rx ry h
  obtain ⟨a, b, rfl, rfl, q⟩ := h
  exact op_gt_str pins s σ H _ _ v u Q I rx ry ⟨_, _, rfl, rfl, q⟩
theorem op_geS : OpR X (compareOp .GtE) rGeS := by
  intro pins s σ H x y v u Q I rx ry h
  obtain ⟨a, b, rfl, rfl, q⟩ := h
  exact op_ge_str pins s σ H _ _ v u Q I rx ry ⟨_, _, rfl, rfl, q⟩
/-- one sign in a text -/
def rIn1 (neg : Bool) : R2 := fun x y H Q => ∃ (c : Nat) (l : List Nat), x = .str (S [c]) ∧ y = .str (S l) ∧ Q (.bl (if neg then !decide (c ∈ l) else decide (c ∈ l))) H
theorem op_in1 : OpR X (compareOp .In) (rIn1 false) := by
  intro pins s σ H x y v u Q I rx ry h
  obtain ⟨a, b, rfl, rfl, q⟩ := h
  exact op_in_sign pins s σ H _ _ v u Q I rx ry ⟨_, _, rfl, rfl, q⟩
theorem op_notIn1 : OpR X (compareOp .NotIn) (rIn1 true) := by
  intro pins s σ H x y v u Q I rx ry h
  obtain ⟨a, b, rfl, rfl, q⟩ := h
  exact op_notIn_sign pins s σ H _ _ v u Q I rx ry ⟨_, _, rfl, rfl, q⟩
def rIxT1 : R2 := fun x y H Q => ∃ (l : List Nat) (i : Int) (c : Nat), x = .str (S l) ∧ y = .int i ∧ l.length ≤ sizeLine ∧ atI l i = some c ∧ Q (.str (S [c])) H
theorem ix_S : IxR X rIxT1 := by
  intro value slice pins s σ H x y v u Q I rx ry h hs
  obtain ⟨l, i, c, rfl, rfl, hz, he, q⟩ := h
  exact ix_str value slice pins s σ H _ _ v u Q I rx ry ⟨_, _, c, rfl, rfl, by rw [S_len]; exact hz, he, q⟩ hs
def cutL {α : Type} (l : List α) (lo hi : Option Int) : List α := (l.drop (HT.sIx l.length 0 lo)).take (HT.sIx l.length l.length hi - HT.sIx l.length 0 lo)
def rSlS1 : V → Option Int → Option Int → Hp → VK → Prop := fun x lo hi H Q => ∃ l : List Nat, x = .str (S l) ∧ l.length ≤ sizeLine ∧ Q (.str (S (cutL l lo hi))) H
theorem sl_S : SlR X rSlS1 := by
  intro pins s σ H x v vl vu lo hi sl Q I rx hs pl pu h
  obtain ⟨l, rfl, hz, q⟩ := h
  refine sl_str pins s σ H _ v vl vu lo hi sl Q I rx hs pl pu ⟨_, rfl, by rw [S_len]; exact hz, ?_⟩
  have : cutS (S l) lo hi = S (cutL l lo hi) := by
    unfold cutS cutL
    rw [S_len]
  rw [this]
  exact q
def rLenT : List V → Hp → VK → Prop := fun xs H Q => ∃ l : List Nat, xs = [.str (S l)] ∧ l.length ≤ sizeLine ∧ Q (.int (l.length : Nat)) H
theorem call_lenT : CallR X (.builtin "len") rLenT := by
  intro pins s σ H xs us Q I r h
  obtain ⟨l, rfl, hz, q⟩ := h
  refine call_len_str pins s σ H _ us Q I r ⟨_, rfl, by rw [S_len]; exact hz, ?_⟩
  rw [S_len]
  exact q
abbrev rLenL (K : PySem.W.Frag) : List V → Hp → VK → Prop := fun xs H Q => ∃ p ys, xs = [.ref p] ∧ (SqL K H p ys ∨ SqT K H p ys) ∧ Q (.int ys.length) H
abbrev rListOf (K : PySem.W.Frag) : List V → Hp → VK → Prop := fun xs H Q => ∃ p ys, xs = [.ref p] ∧ (SqL K H p ys ∨ SqT K H p ys) ∧ ∀ l, H l = none → Q (.ref l) (upd H l (.lst ys))
/-- the least place from i on that has c -/
def nextP (l : List Nat) (i c : Nat) : Option Nat := ((l.drop i).idxOf? c).map (· + i)
def findI (l : List Nat) (i c : Nat) : Int := match nextP l i c with | some k => (k : Int) | none => -1
theorem idxOf?_some {l : List Nat} {c k : Nat} : l.idxOf? c = some k ↔ l[k]? = some c ∧ ∀ j, j < k → l[j]? ≠ some c := by
  induction l generalizing k with
  | nil => simp
  | cons a l ih =>
    rw [List.idxOf?_cons]
    by_cases h : (a == c) = true
    · rw [if_pos h]
      have e := eq_of_beq h
      subst e
      constructor
      · intro z
        have := Option.some.inj z
        subst this
        exact ⟨rfl, fun j hj => absurd hj (Nat.not_lt_zero _)⟩
      · rintro ⟨z1, z2⟩
        cases k with
        | zero => rfl
        | succ k => exact absurd rfl (z2 0 (Nat.succ_pos _))
    · rw [if_neg h]
      have hne : a ≠ c := fun e => h (beq_iff_eq.mpr e)
      cases k with
      | zero =>
        constructor
        · intro z
          cases e : l.idxOf? c with
          | none => rw [e] at z; cases z
          | some j => rw [e] at z; cases z
        · rintro ⟨z1, _⟩
          exact absurd (Option.some.inj z1) hne
      | succ k =>
        have : (Option.map (fun x => x + 1) (l.idxOf? c) = some (k + 1)) ↔ l.idxOf? c = some k := by
          cases e : l.idxOf? c with
          | none => simp
          | some j => simp
        rw [this, ih]
        constructor
        · rintro ⟨z1, z2⟩
          refine ⟨z1, fun j hj => ?_⟩
          cases j with
          | zero => exact fun z => hne (Option.some.inj z)
          | succ j => exact z2 j (by omega)
        · rintro ⟨z1, z2⟩
          exact ⟨z1, fun j hj => z2 (j + 1) (by omega)⟩
theorem idxOf?_none {l : List Nat} {c : Nat} : l.idxOf? c = none ↔ ∀ j : Nat, l[j]? ≠ some c := by
  constructor
  · intro h j hj
    have hm := List.mem_of_getElem? hj
    cases e : l.idxOf? c with
    | some k => rw [e] at h; cases h
    | none =>
      rw [List.idxOf?_eq_none_iff] at e
      exact e hm
  · intro h
    rw [List.idxOf?_eq_none_iff]
    intro hm
    obtain ⟨j, hj⟩ := List.mem_iff_getElem?.mp hm
    exact h j hj
theorem nextP_some {l : List Nat} {i c k : Nat} : nextP l i c = some k ↔ i ≤ k ∧ l[k]? = some c ∧ ∀ j, i ≤ j → j < k → l[j]? ≠ some c := by
  unfold nextP
  constructor
  · intro h
    cases e : (l.drop i).idxOf? c with
    | none => rw [e] at h; cases h
    | some m =>
      rw [e] at h
      have hk : m + i = k := Option.some.inj h
      obtain ⟨h1, h2⟩ := idxOf?_some.mp e
      rw [List.getElem?_drop] at h1
      refine ⟨by omega, ?_, fun j hj hjk => ?_⟩
      · rw [← hk, Nat.add_comm m i]; exact h1
      · have := h2 (j - i) (by omega)
        rw [List.getElem?_drop, show i + (j - i) = j by omega] at this
        exact this
  · rintro ⟨h1, h2, h3⟩
    have e : (l.drop i).idxOf? c = some (k - i) := by
      rw [idxOf?_some]
      refine ⟨?_, fun j hj => ?_⟩
      · rw [List.getElem?_drop, show i + (k - i) = k by omega]; exact h2
      · rw [List.getElem?_drop]; exact h3 (i + j) (by omega) (by omega)
    rw [e]
    show some (k - i + i) = some k
    rw [show k - i + i = k by omega]
theorem nextP_none {l : List Nat} {i c : Nat} : nextP l i c = none ↔ ∀ j, i ≤ j → l[j]? ≠ some c := by
  unfold nextP
  rw [Option.map_eq_none_iff, idxOf?_none]
  constructor
  · intro h j hj
    have := h (j - i)
    rw [List.getElem?_drop, show i + (j - i) = j by omega] at this
    exact this
  · intro h j
    rw [List.getElem?_drop]
    exact h (i + j) (by omega)
theorem find3_S (l : List Nat) (c i : Nat) (hi : i ≤ l.length) : Txt.find3 (S l) (S [c]) (i : Int) = findI l i c := by
  have e0 : fromIndex (S l).length (i : Int) = i := by
    rw [S_len]
    unfold fromIndex
    rw [if_neg (by omega)]
    omega
  have gd : ∀ (v x : Nat), v < l.length → ((S l).cps.getD v 0 = x ↔ l[v]? = some x) := fun v x hv => by
    have : (S l).cps.getD v 0 = l.getD v 0 := by simp
    rw [this, List.getD_eq_getElem?_getD, List.getElem?_eq_getElem hv]
    simp
  unfold findI
  rcases StrLaws.find3_spec (S l) c (i : Int) with ⟨h1, h2⟩ | ⟨k, h1, h2, h3, h4, h5⟩
  · rw [e0, S_len] at h2
    have : nextP l i c = none := nextP_none.mpr fun j hj z => by
      have hjl : j < l.length := (List.getElem?_eq_some_iff.mp z).1
      exact h2 j hj hjl ((gd j c hjl).mpr z)
    rw [this]
    exact h1
  · rw [e0] at h2 h5
    rw [S_len] at h3
    have : nextP l i c = some k := nextP_some.mpr ⟨h2, (gd k c h3).mp h4, fun j hj hjk z => h5 j hj hjk ((gd j c (by omega)).mpr z)⟩
    rw [this]
    exact h1
def rFind (x : V) (xs : List V) (H : Hp) (Q : VK) : Prop := ∃ (l : List Nat) (c i : Nat), x = .str (S l) ∧ xs = [.str (S [c]), .int (i : Int)] ∧ i ≤ l.length ∧ Q (.int (findI l i c)) H
theorem mt_findS : MtR X "str.find" rFind := by
  intro pins s σ H x xs v us Q I rx r h
  obtain ⟨l, c, i, rfl, rfl, hi, q⟩ := h
  refine mt_find3 pins s σ H _ _ v us Q I rx r ⟨_, _, _, rfl, rfl, ?_⟩
  have : Txt.find3 (S l) (S [c]) (i : Int) = findI l i c := find3_S l c i hi
  rw [this]
  exact q
def rJoin (K : PySem.W.Frag) : V → List V → Hp → VK → Prop := fun x xs H Q => ∃ (p : Addr) (a : List Nat) (ys : List (List Nat)), x = .str (S a) ∧ xs = [.ref p] ∧ SqL K H p (ys.map fun l => .str (S l)) ∧ (ys.map List.length).sum + ys.length * a.length ≤ 16777216 ∧ Q (.str (S (TL.joinL a ys))) H
theorem mt_joinS : MtR X "str.join" (rJoin X.K) := by
  intro pins s σ H x xs v us Q I rx r h
  obtain ⟨p, a, ys, rfl, rfl, hL, hz, q⟩ := h
  refine mt_join pins s σ H _ _ v us Q I rx r ⟨_, p, ys.map S, rfl, rfl, .inl ?_, ?_, ?_⟩
  · rw [List.map_map]; exact hL
  · rw [lens, List.length_map, S_len]; exact hz
  · rw [join_S]; exact q
end
end Lv

set_option Elab.async false
set_option linter.all false
set_option maxRecDepth 100000
set_option maxHeartbeats 2000000
namespace Lv
open PySem PySem.Spec PyProof.Rows L2 SX
/-! steps of a reading -/
section
variable {K : PySem.W.Frag} {D : Ends} {σ : L2.St} {H : Hp} {Q : VK} {t u : TS} {te ta tb tc : TE} {tt tu : TT} {targs tr : TA} {i : Nat} {v x y : V} {g : TG} {ti : TIp}
theorem i_seq (h : t { D with nx := u D } σ H) : tSeq t u D σ H := h
theorem i_next (h : D.nx σ H) : tNext D σ H := h
theorem i_set (h : te σ H fun x H1 => D.nx (σ.set i (some x)) H1) : tAsg te (gName i) D σ H := h
theorem i_asg (h : te σ H fun x H1 => g x σ H1 D.nx) : tAsg te g D σ H := h
theorem i_drop (h : te σ H fun _ H1 => D.nx σ H1) : tDrop te D σ H := h
theorem i_ret (h : te σ H D.rt) : tRet te D σ H := h
theorem i_if (h : tt σ H fun b H1 => if b = true then t D σ H1 else u D σ H1) : tIfS tt t u D σ H := h
theorem i_brk (h : D.bk σ H) : tBreak D σ H := h
theorem i_cont (h : D.ct σ H) : tCont D σ H := h
theorem i_aug (hx : σ[i]? = some (some x)) (h : te σ H fun y H1 => ti x y H1 fun z H2 => D.nx (σ.set i (some z)) H2) : tAug i te ti D σ H := ⟨x, hx, h⟩
theorem i_ipI {f : Int → Int → Int} {a b : Int} (h : Q (.int (f a b)) H) : ipI f (.int a) (.int b) H Q := ⟨a, b, rfl, rfl, h⟩
theorem i_var (hv : σ[i]? = some (some v)) (h : Q v H) : tVar i σ H Q := ⟨v, hv, h⟩
theorem i_c (h : Q v H) : tC v σ H Q := h
theorem i_op {r : R2} (h : ta σ H fun x H1 => tb σ H1 fun y H2 => r x y H2 Q) : tOp r ta tb σ H Q := h
theorem i_un {r : V → Hp → VK → Prop} (h : ta σ H fun x H1 => r x H1 Q) : tUn r ta σ H Q := h
theorem i_cb {r : List V → Hp → VK → Prop} (h : targs σ H fun vs H1 => r vs H1 Q) : tCB r targs σ H Q := h
theorem i_call {sp : Sp} {dvs : List V} {E : XK} (h : targs σ H fun vs H1 => sp (vs ++ dvs) H1 Q E) : tCall sp dvs E targs σ H Q := h
theorem i_nil {QA : List V → Hp → Prop} (h : QA [] H) : tNil σ H QA := h
theorem i_cons {QA : List V → Hp → Prop} (h : ta σ H fun x H1 => tr σ H1 fun xs H2 => QA (x :: xs) H2) : tCons ta tr σ H QA := h
theorem i_lst (h : targs σ H fun xs H1 => xs.length ≤ sizeLine ∧ ∀ p, H1 p = none → Q (.ref p) (upd H1 p (.lst xs))) : tLst targs σ H Q := h
theorem i_tup (h : targs σ H fun xs H1 => xs.length ≤ sizeLine ∧ ∀ p, H1 p = none → Q (.ref p) (upd H1 p (.tup xs))) : tTup targs σ H Q := h
theorem i_bm {T : String} {r : V → List V → Hp → VK → Prop} (h : te σ H fun x H1 => tyV K T x H1 ∧ targs σ H1 fun xs H2 => r x xs H2 Q) : tBM K T r te targs σ H Q := h
theorem i_bm0 {T : String} {r : V → List V → Hp → VK → Prop} (h : te σ H fun x H1 => tyV K T x H1 ∧ r x [] H1 Q) : tBM0 K T r te σ H Q := h
theorem i_tyS {z : Str} {P : Prop} (h : P) : tyV K "str" (.str z) H ∧ P := ⟨rfl, h⟩
theorem i_sl {r : V → Option Int → Option Int → Hp → VK → Prop} {tl th : TO} (h : te σ H fun x H1 => tl σ H1 fun l H2 => th σ H2 fun u H3 => r x l u H3 Q) : tSl r te tl th σ H Q := h
theorem i_noPart {QO : Option Int → Hp → Prop} (h : QO none H) : tNoPart σ H QO := h
theorem i_part {QO : Option Int → Hp → Prop} (h : te σ H fun x H1 => ∃ i, x = .int i ∧ QO (some i) H1) : tPart te σ H QO := h
theorem i_exI {P : Int → Prop} {n : Int} (h : P n) : ∃ i, V.int n = .int i ∧ P i := ⟨n, rfl, h⟩
theorem i_bl {b : Bool} {P : Bool → Prop} (h : P b) : ∃ k, V.bl b = .bl k ∧ P k := ⟨b, rfl, h⟩
theorem i_test {QB : Bool → Hp → Prop} (h : te σ H fun x H' => ∃ k, x = .bl k ∧ QB k H') : tTest te σ H QB := h
theorem i_tB {QB : Bool → Hp → Prop} (h : te σ H fun x H' => ∃ k, x = .bl k ∧ QB k H') : tB te σ H QB := h
theorem i_not {QB : Bool → Hp → Prop} (h : tt σ H fun c H1 => QB (!c) H1) : tNot tt σ H QB := h
theorem i_and {QB : Bool → Hp → Prop} (h : tt σ H fun c H1 => if c = true then tu σ H1 QB else QB false H1) : tAnd tt tu σ H QB := h
theorem i_or {QB : Bool → Hp → Prop} (h : tt σ H fun c H1 => if c = true then QB true H1 else tu σ H1 QB) : tOr tt tu σ H QB := h
theorem i_andV (h : ta σ H fun x H1 => ∃ c, x = .bl c ∧ if c = true then tb σ H1 Q else Q (.bl false) H1) : tAndV ta tb σ H Q := h
theorem i_orV (h : ta σ H fun x H1 => ∃ c, x = .bl c ∧ if c = true then Q (.bl true) H1 else tb σ H1 Q) : tOrV ta tb σ H Q := h
theorem i_notV (h : ta σ H fun x H1 => ∃ c, x = .bl c ∧ Q (.bl (!c)) H1) : tNotV ta σ H Q := h
theorem i_ifE (h : tt σ H fun c H1 => if c = true then ta σ H1 Q else tb σ H1 Q) : tIf tt ta tb σ H Q := h
theorem i_rI0 {f : Int → Int → V} {a b : Int} (h : Q (f a b) H) : rI0 f (.int a) (.int b) H Q := ⟨a, b, rfl, rfl, h⟩
theorem i_rI {C : Int → Int → Prop} {f : Int → Int → V} {a b : Int} (hc : C a b) (h : Q (f a b) H) : rI C f (.int a) (.int b) H Q := ⟨a, b, rfl, rfl, hc, h⟩
theorem i_rU {f : Int → V} {a : Int} (h : Q (f a) H) : rU f (.int a) H Q := ⟨a, rfl, h⟩
theorem i_r2S {f : List Nat → List Nat → V} {a b : List Nat} (h : Q (f a b) H) : r2S f (.str (S a)) (.str (S b)) H Q := ⟨a, b, rfl, rfl, h⟩
theorem i_in1 {c : Nat} {l : List Nat} (h : Q (.bl (decide (c ∈ l))) H) : rIn1 false (.str (S [c])) (.str (S l)) H Q := ⟨c, l, rfl, rfl, h⟩
theorem i_notIn1 {c : Nat} {l : List Nat} (h : Q (.bl (!decide (c ∈ l))) H) : rIn1 true (.str (S [c])) (.str (S l)) H Q := ⟨c, l, rfl, rfl, h⟩
theorem i_addS {a b : List Nat} (hz : a.length + b.length ≤ sizeLine) (h : Q (.str (S (a ++ b))) H) : rAddS (.str (S a)) (.str (S b)) H Q := ⟨a, b, rfl, rfl, hz, h⟩
theorem i_mulS {l : List Nat} {n : Int} (h0 : -(2 ^ 38) < n) (h1 : n < 2 ^ 38) (hz : l.length * n.toNat ≤ sizeLine) (h : Q (.str (S (List.replicate n.toNat l).flatten)) H) : rMulS (.str (S l)) (.int n) H Q := ⟨l, n, rfl, rfl, h0, h1, hz, h⟩
theorem i_ixS {l : List Nat} {n : Int} {c : Nat} (hz : l.length ≤ sizeLine) (hc : atI l n = some c) (h : Q (.str (S [c])) H) : rIxT1 (.str (S l)) (.int n) H Q := ⟨l, n, c, rfl, rfl, hz, hc, h⟩
theorem i_slS {l : List Nat} {lo hi : Option Int} (hz : l.length ≤ sizeLine) (h : Q (.str (S (cutL l lo hi))) H) : rSlS1 (.str (S l)) lo hi H Q := ⟨l, rfl, hz, h⟩
theorem i_revS {R : List Nat → Prop} {l : List Nat} (hz : l.length ≤ sizeLine) (h : R l) : (∃ l' : List Nat, V.str (S l) = .str (S l') ∧ l'.length ≤ sizeLine ∧ R l') := ⟨l, rfl, hz, h⟩
theorem i_tRevS (h : te σ H fun x H1 => ∃ l : List Nat, x = .str (S l) ∧ l.length ≤ sizeLine ∧ Q (.str (S l.reverse)) H1) : tRevS te σ H Q := h
theorem i_lenT {l : List Nat} (hz : l.length ≤ sizeLine) (h : Q (.int (l.length : Nat)) H) : rLenT [.str (S l)] H Q := ⟨l, rfl, hz, h⟩
theorem i_find {l : List Nat} {c j : Nat} (hj : j ≤ l.length) (h : Q (.int (findI l j c)) H) : rFind (.str (S l)) [.str (S [c]), .int (j : Int)] H Q := ⟨l, c, j, rfl, rfl, hj, h⟩
theorem i_ixL {p : Addr} {xs : List V} {n : Int} (hp : SqL K H p xs) (hn : atI xs n = some v) (h : Q v H) : rIxL K (.ref p) (.int n) H Q := ⟨p, xs, n, v, rfl, rfl, hp, hn, h⟩
theorem i_ixU {p : Addr} {xs : List V} {n : Int} (hp : SqT K H p xs) (hn : atI xs n = some v) (h : Q v H) : rIxT K (.ref p) (.int n) H Q := ⟨p, xs, n, v, rfl, rfl, hp, hn, h⟩
end
theorem if_dec {p : Prop} [Decidable p] {A B : Prop} (h1 : p → A) (h2 : ¬ p → B) : if decide p = true then A else B := by
  by_cases h : p
  · rw [decide_eq_true h, if_pos rfl]; exact h1 h
  · rw [decide_eq_false h, if_neg Bool.false_ne_true]; exact h2 h
theorem if_ndec {p : Prop} [Decidable p] {A B : Prop} (h1 : ¬ p → A) (h2 : p → B) : if (!decide p) = true then A else B := by
  by_cases h : p
  · rw [decide_eq_true h]; exact iteF (h2 h)
  · rw [decide_eq_false h]; exact iteT (h1 h)
theorem if_yes {p : Prop} [Decidable p] {A B : Prop} (hp : p) (h1 : A) : if decide p = true then A else B := by
  rw [decide_eq_true hp, if_pos rfl]; exact h1
theorem if_no {p : Prop} [Decidable p] {A B : Prop} (hp : ¬ p) (h1 : B) : if decide p = true then A else B := by
  rw [decide_eq_false hp, if_neg Bool.false_ne_true]; exact h1
theorem le_line {n : Nat} (h : n ≤ 1000000) : n ≤ sizeLine := Nat.le_trans h (by decide)
theorem lt_line {n : Nat} (h : n ≤ 1000000) : n < sizeLine := Nat.lt_of_le_of_lt h (by decide)
/-! heaps -/
/-- all but what stands at h is as it was -/
def But (h : Addr) (H H' : Hp) : Prop := ∀ b o, b ≠ h → H b = some o → H' b = some o
theorem But.refl (h : Addr) (H : Hp) : But h H H := fun _ _ _ q => q
theorem But.trans {h : Addr} {H H1 H2 : Hp} (a : But h H H1) (b : But h H1 H2) : But h H H2 := fun c o n q => b c o n (a c o n q)
theorem _root_.L2.Same.but {h : Addr} {H H' : Hp} (a : Same H H') : But h H H' := fun c o _ q => a c o q
theorem But.same {h : Addr} {H H' : Hp} (a : But h H H') (n : H h = none) : Same H H' := fun c o q => a c o (ne_of_none q n) q
theorem But.upd {h : Addr} {H : Hp} {o : HO} : But h H (L2.upd H h o) := fun c o' n q => by rw [upd_ne n]; exact q
theorem same_new {H : Hp} {p : Addr} {o : HO} (n : H p = none) : Same H (upd H p o) := fun c o' q => by rw [upd_ne (ne_of_none q n)]; exact q
theorem But.seq {K : PySem.W.Frag} {h : Addr} {H H' : Hp} {a : Addr} {xs : List V} (e : But h H H') (n : a ≠ h) (q : SqL K H a xs) : SqL K H' a xs := by
  rcases q with (q | ⟨o, q⟩) | q
  · exact .inl (.inl (e _ _ n q))
  · exact .inl (.inr ⟨o, e _ _ n q⟩)
  · exact .inr q
theorem _root_.L2.Same.tup {K : PySem.W.Frag} {H H' : Hp} {a : Addr} {xs : List V} (e : Same H H') (q : SqT K H a xs) : SqT K H' a xs := by
  rcases q with (q | ⟨o, q⟩) | q
  · exact .inl (.inl (e _ _ q))
  · exact .inl (.inr ⟨o, e _ _ q⟩)
  · exact .inr q
theorem SqL.of1 {K : PySem.W.Frag} {H : Hp} {a : Addr} {xs : List V} (h : H a = some (.lst xs)) : SqL K H a xs := .inl (.inl h)
theorem SqT.of1 {K : PySem.W.Frag} {H : Hp} {a : Addr} {xs : List V} (h : H a = some (.tup xs)) : SqT K H a xs := .inl (.inl h)
/-- the hand: two whole numbers -/
def Hd (H : Hp) (h : Addr) : Prop := ∃ d m : Int, H h = some (.lst [.int d, .int m]) ∧ 0 ≤ d ∧ 0 ≤ m ∧ m < 2147483648
theorem Hd.same {H H' : Hp} {h : Addr} (e : Same H H') (x : Hd H h) : Hd H' h := by
  obtain ⟨d, m, a, b⟩ := x
  exact ⟨d, m, e _ _ a, b⟩

/-! int(truth), truths, lists of ints compared -/
def rIntB : List V → Hp → VK → Prop := fun xs H Q => ∃ k : Bool, xs = [.bl k] ∧ Q (.int (if k = true then 1 else 0)) H
theorem call_intB {X : Cx} : CallR X (.type "int") rIntB := by
  intro pins s σ H xs us Q I r h
  exact call_int1 pins s σ H xs us Q I r (.inr h)
theorem i_intB {H : Hp} {Q : VK} {k : Bool} (h : Q (.int (if k = true then 1 else 0)) H) : rIntB [.bl k] H Q := ⟨k, rfl, h⟩
def r2B (g : Bool → Bool → Bool) : R2 := fun x y H Q => ∃ a b : Bool, x = .bl a ∧ y = .bl b ∧ Q (.bl (g a b)) H
abbrev rEqB : R2 := r2B fun a b => decide (a = b)
abbrev rNeB : R2 := r2B fun a b => !decide (a = b)
theorem i_r2B {g : Bool → Bool → Bool} {a b : Bool} {H : Hp} {Q : VK} (h : Q (.bl (g a b)) H) : r2B g (.bl a) (.bl b) H Q := ⟨a, b, rfl, rfl, h⟩
section
variable {X : Cx}
theorem op_eqB : OpR X (compareOp .Eq) rEqB := by
  intro pins s σ H x y v u Q I rx ry h
  obtain ⟨i, j, rfl, rfl, q⟩ := h
  refine op_eq pins s σ H _ _ v u Q I rx ry ⟨rfl, ?_⟩
  rw [show decide (V.bl i = V.bl j) = decide (i = j) by simp]
  exact q
theorem op_neB : OpR X (compareOp .NotEq) rNeB := by
  intro pins s σ H x y v u Q I rx ry h
  obtain ⟨i, j, rfl, rfl, q⟩ := h
  refine op_ne pins s σ H _ _ v u Q I rx ry ⟨rfl, ?_⟩
  rw [show decide (V.bl i = V.bl j) = decide (i = j) by simp]
  exact q
theorem op_isB : OpR X (compareOp .Is) rEqB := by
  intro pins s σ H x y v u Q I rx ry h
  obtain ⟨i, j, rfl, rfl, q⟩ := h
  exact op_isBl pins s σ H _ _ v u Q I rx ry ⟨_, _, rfl, rfl, q⟩
theorem op_isNotB : OpR X (compareOp .IsNot) rNeB := by
  intro pins s σ H x y v u Q I rx ry h
  obtain ⟨i, j, rfl, rfl, q⟩ := h
  exact op_notBl pins s σ H _ _ v u Q I rx ry ⟨_, _, rfl, rfl, q⟩
theorem dp_ints {K : PySem.W.Frag} {H : Hp} : ∀ ns : List Int, DpAll K H (ns.map V.int) (ns.map PyData.int)
  | [] => .nil
  | n :: ns => .cons (.int n) (dp_ints ns)
theorem lay_ints : ∀ ns : List Int, PyData.canLayAll0 (ns.map PyData.int) = true
  | [] => by simp [PyData.canLayAll0]
  | n :: ns => by simp [PyData.canLayAll0, PyData.canLay0, lay_ints ns]
theorem depth_ints : ∀ ns : List Int, PyData.depthAll (ns.map PyData.int) = 0
  | [] => by simp [PyData.depthAll]
  | n :: ns => by simp [PyData.depthAll, PyData.depth, depth_ints ns]
theorem shaped_ints (ns : List Int) : SeqAt.shaped (.list (ns.map PyData.int)) = true := by
  unfold SeqAt.shaped
  rw [PyData.canLay0, lay_ints, PyData.depth, depth_ints]
  rfl
theorem eqv_ints : ∀ ns ms : List Int, PyData.eqvAll (ns.map PyData.int) (ms.map PyData.int) = decide (ns = ms)
  | [], [] => by simp [PyData.eqvAll]
  | [], _ :: _ => by simp [PyData.eqvAll]
  | _ :: _, [] => by simp [PyData.eqvAll]
  | n :: ns, m :: ms => by
    simp only [List.map_cons, PyData.eqvAll, PyData.eqv, eqv_ints ns ms, List.cons.injEq]
    by_cases h : n = m
    · subst h; simp
    · simp [h]
def r2L (K : PySem.W.Frag) (g : List Int → List Int → Bool) : R2 := fun x y H Q => ∃ (p q : Addr) (ns ms : List Int), x = .ref p ∧ y = .ref q ∧ SqL K H p (ns.map V.int) ∧ SqL K H q (ms.map V.int) ∧ Q (.bl (g ns ms)) H
abbrev rEqL (K : PySem.W.Frag) : R2 := r2L K fun a b => decide (a = b)
abbrev rNeL (K : PySem.W.Frag) : R2 := r2L K fun a b => !decide (a = b)
theorem op_eqL (hu : X.A.units + 64 < cLine) : OpR X (compareOp .Eq) (rEqL X.K) := by
  intro pins s σ H x y v u Q I rx ry h
  obtain ⟨p, q, ns, ms, rfl, rfl, h1, h2, k⟩ := h
  refine op_eqD hu pins s σ H _ _ v u Q I rx ry ⟨_, _, .lst h1 (dp_ints ns), .lst h2 (dp_ints ms), shaped_ints ns, shaped_ints ms, ?_⟩
  rw [PyData.eqv, eqv_ints]
  exact k
theorem op_neL (hu : X.A.units + 64 < cLine) : OpR X (compareOp .NotEq) (rNeL X.K) := by
  intro pins s σ H x y v u Q I rx ry h
  obtain ⟨p, q, ns, ms, rfl, rfl, h1, h2, k⟩ := h
  refine op_neD hu pins s σ H _ _ v u Q I rx ry ⟨_, _, .lst h1 (dp_ints ns), .lst h2 (dp_ints ms), shaped_ints ns, shaped_ints ms, ?_⟩
  rw [PyData.eqv, eqv_ints]
  exact k
end
theorem i_r2L {K : PySem.W.Frag} {g : List Int → List Int → Bool} {p q : Addr} {ns ms : List Int} {H : Hp} {Q : VK} (h1 : SqL K H p (ns.map V.int)) (h2 : SqL K H q (ms.map V.int)) (h : Q (.bl (g ns ms)) H) : r2L K g (.ref p) (.ref q) H Q := ⟨p, q, ns, ms, rfl, rfl, h1, h2, h⟩
section
variable {K : PySem.W.Frag} {H : Hp} {Q : VK}
theorem i_isi_int_int {n : Int} (q : Q (.bl true) H) : rIsi K [.int n, .ty "int"] H Q := ⟨_, _, _, _, true, rfl, .ty _, .base (.int n), kit_ty (by decide +kernel), q⟩
theorem i_isi_int_bool {n : Int} (q : Q (.bl false) H) : rIsi K [.int n, .ty "bool"] H Q := ⟨_, _, _, _, false, rfl, .ty _, .base (.int n), kit_ty (by decide +kernel), q⟩
theorem i_isi_bl_bool {b : Bool} (q : Q (.bl true) H) : rIsi K [.bl b, .ty "bool"] H Q := ⟨_, _, _, _, true, rfl, .ty _, .base (.bl b), kit_ty (by decide +kernel), q⟩
end
section
variable {K : PySem.W.Frag} {σ : L2.St} {H : Hp} {v : V} {R : L2.St → Hp → Prop} {t : TG} {u : TGs}
theorem i_gSub {to ti : TE} {ts : TSet} (h : to σ H fun o H1 => ti σ H1 fun i H2 => ts o i v H2 fun H3 => R σ H3) : gSub to ti ts v σ H R := h
theorem i_setL {p : Addr} {xs : List V} {n : Int} {j : Nat} {P : Hp → Prop} (hp : H p = some (.lst xs)) (hj : ixN xs.length n = some j) (h : P (upd H p (.lst (xs.set j v)))) : rSetL (.ref p) (.int n) v H P := ⟨p, xs, n, j, rfl, rfl, hp, hj, h⟩
theorem i_gName {i : Nat} (h : R (σ.set i (some v)) H) : gName i v σ H R := h
theorem i_gTup {a : Addr} {xs : List V} {n : Nat} (ha : SqT K H a xs) (hn : xs.length = n) (h : u xs σ H R) : gTup K n u (.ref a) σ H R := ⟨a, xs, rfl, ha, hn, h⟩
theorem i_gCons {r : List V} (h : t v σ H fun σ' H' => u r σ' H' R) : gCons t u (v :: r) σ H R := ⟨v, r, rfl, h⟩
theorem i_gNil (h : R σ H) : gNil [] σ H R := ⟨rfl, h⟩
theorem i_par {i j : Nat} {ta : TA} {D : Ends} (h : ta σ H fun vs H1 => ∃ v w, vs = [v, w] ∧ D.nx ((σ.set i (some v)).set j (some w)) H1) : tPar i j ta D σ H := h
end
theorem i_app {l : Addr} {xs : List V} {y : V} {H : Hp} {Q : VK} (hl : H l = some (.lst xs)) (hz : xs.length < sizeLine) (h : Q .non (upd H l (.lst (xs ++ [y])))) : rAppend (.ref l) [y] H Q := ⟨l, xs, y, rfl, rfl, hl, hz, h⟩
theorem i_tyL {K : PySem.W.Frag} {H : Hp} {l : Addr} {xs : List V} {P : Prop} (hl : SqL K H l xs) (h : P) : tyV K "list" (.ref l) H ∧ P := ⟨.inl ⟨rfl, xs, hl⟩, h⟩
theorem i_cat {l b : Addr} {xs zs : List V} {H : Hp} {Q : VK} (h1 : H l = some (.lst xs)) (h2 : H b = some (.lst zs)) (hz : xs.length + zs.length ≤ sizeLine) (h : ∀ p, H p = none → Q (.ref p) (upd H p (.lst (xs ++ zs)))) : rCat (.ref l) (.ref b) H Q := ⟨l, b, xs, zs, rfl, rfl, h1, h2, hz, h⟩
theorem i_rep {l : Addr} {k : Int} {xs : List V} {H : Hp} {Q : VK} (h1 : H l = some (.lst xs)) (k0 : -(2 ^ 63) ≤ k) (k1 : k < 2 ^ 63) (hz : xs.length * k.toNat ≤ sizeLine) (h : ∀ p, H p = none → Q (.ref p) (upd H p (.lst (List.replicate k.toNat xs).flatten))) : rRep (.ref l) (.int k) H Q := ⟨l, k, xs, rfl, rfl, h1, k0, k1, hz, h⟩
theorem i_slL {K : PySem.W.Frag} {a : Addr} {xs : List V} {lo hi : Option Int} {H : Hp} {Q : VK} (h1 : SqL K H a xs) (h : ∀ p, H p = none → Q (.ref p) (upd H p (.lst (cutV xs lo hi)))) : rSlL K (.ref a) lo hi H Q := ⟨a, xs, rfl, h1, h⟩
theorem i_lenL {K : PySem.W.Frag} {a : Addr} {xs : List V} {H : Hp} {Q : VK} (h1 : SqL K H a xs) (h : Q (.int (xs.length : Nat)) H) : rLenL K [.ref a] H Q := ⟨a, xs, rfl, .inl h1, h⟩
theorem i_listOf {K : PySem.W.Frag} {a : Addr} {xs : List V} {H : Hp} {Q : VK} (h1 : SqL K H a xs) (h : ∀ l, H l = none → Q (.ref l) (upd H l (.lst xs))) : rListOf K [.ref a] H Q := ⟨a, xs, rfl, .inl h1, h⟩
theorem i_sum {K : PySem.W.Frag} {a : Addr} {ns : List Int} {H : Hp} {Q : VK} (h1 : SqL K H a (ns.map V.int)) (h : Q (.int ns.sum) H) : rSum K [.ref a] H Q := ⟨a, ns, rfl, h1, h⟩
theorem i_join {K : PySem.W.Frag} {p : Addr} {a : List Nat} {ys : List (List Nat)} {H : Hp} {Q : VK} (h1 : SqL K H p (ys.map fun l => .str (S l))) (hz : (ys.map List.length).sum + ys.length * a.length ≤ 16777216) (h : Q (.str (S (TL.joinL a ys))) H) : rJoin K (.str (S a)) [.ref p] H Q := ⟨p, a, ys, rfl, rfl, h1, hz, h⟩
theorem i_listEn {K : PySem.W.Frag} {te : TE} {σ : L2.St} {H : Hp} {Q : VK} (h : te σ H fun x H1 => rListEn K x H1 Q) : tListEn K te σ H Q := h
theorem i_rng1 {ta : TA} {σ : L2.St} {H : Hp} {R : It → Hp → Prop} (h : ta σ H fun vs H1 => ∃ j : Int, vs = [.int j] ∧ -(2 ^ 62) ≤ j ∧ j < 2 ^ 62 ∧ R (Itr 0 j.toNat) H1) : iRng1 ta σ H R := h
theorem i_rng1x {n : Int} {H : Hp} {R : It → Hp → Prop} (h0 : -(2 ^ 62) ≤ n) (h1 : n < 2 ^ 62) (h : R (Itr 0 n.toNat) H) : ∃ j : Int, [V.int n] = [.int j] ∧ -(2 ^ 62) ≤ j ∧ j < 2 ^ 62 ∧ R (Itr 0 j.toNat) H := ⟨n, rfl, h0, h1, h⟩
theorem cutV_map {α : Type} (f : α → V) (l : List α) (lo hi : Option Int) : cutV (l.map f) lo hi = (cutL l lo hi).map f := by
  unfold cutV cutL
  rw [List.length_map, List.map_take, List.map_drop]
theorem cutL_length {α : Type} (l : List α) (lo hi : Option Int) : (cutL l lo hi).length ≤ l.length := by
  unfold cutL
  rw [List.length_take, List.length_drop]
  omega
theorem cutL_to {α : Type} (l : List α) (n : Nat) : cutL l none (some (n : Int)) = l.take n := by
  unfold cutL
  rw [HT.sIx_nat, HT.sIx_none, List.drop_zero, Nat.sub_zero]
  by_cases h : n ≤ l.length
  · rw [Nat.min_eq_left h]
  · rw [Nat.min_eq_right (by omega), List.take_of_length_le (Nat.le_refl _), List.take_of_length_le (by omega)]
theorem cutL_from {α : Type} (l : List α) (n : Nat) : cutL l (some (n : Int)) none = l.drop n := by
  unfold cutL
  rw [HT.sIx_nat, HT.sIx_none]
  by_cases h : n ≤ l.length
  · rw [Nat.min_eq_left h, List.take_of_length_le (by rw [List.length_drop]; exact Nat.le_refl _)]
  · rw [Nat.min_eq_right (by omega), List.drop_of_length_le (Nat.le_refl _), List.drop_of_length_le (by omega), List.take_nil]
end Lv

set_option Elab.async false
set_option linter.all false
set_option maxRecDepth 100000
set_option maxHeartbeats 2000000
namespace Lv
open PySem PySem.Spec PyProof.Rows L2 SX
/-! more of heaps -/
theorem But.updN {h D : Addr} {H1 H : Hp} {o : HO} (e : But h H1 H) (n : H1 D = none) : But h H1 (L2.upd H D o) := fun b u nb q => by
  rw [upd_ne (ne_of_none q n)]
  exact e b u nb q
theorem But.at {h : Addr} {H1 H : Hp} {b : Addr} {o : HO} (e : But h H1 H) (q : H1 b = some o) (n : b ≠ h) : H b = some o := e b o n q
theorem _root_.L2.Same.updN {D : Addr} {H1 H : Hp} {o : HO} (e : Same H1 H) (n : H1 D = none) : Same H1 (L2.upd H D o) := fun b u q => by
  rw [upd_ne (ne_of_none q n)]
  exact e b u q
theorem Hd.updN {h D : Addr} {H : Hp} {o : HO} (x : Hd H h) (n : h ≠ D) : Hd (L2.upd H D o) h := by
  obtain ⟨d, m, a, b⟩ := x
  exact ⟨d, m, by rw [upd_ne n]; exact a, b⟩
theorem Hd.ne {h D : Addr} {H : Hp} (x : Hd H h) (n : H D = none) : h ≠ D := by
  obtain ⟨d, m, a, b⟩ := x
  exact ne_of_none a n
theorem Hd.is {h : Addr} {H : Hp} (x : Hd H h) : ∃ o, H h = some o := by
  obtain ⟨d, m, a, b⟩ := x
  exact ⟨_, a⟩
/-! picks -/
theorem atI_lt {α : Type} {xs : List α} {r : Int} (h0 : 0 ≤ r) (h1 : r < xs.length) : ∃ v, v ∈ xs ∧ atI xs r = some v := by
  have hl : r.toNat < xs.length := by omega
  refine ⟨xs[r.toNat], List.getElem_mem hl, ?_⟩
  have e := atI_nat (xs := xs) (j := r.toNat) (v := xs[r.toNat]) (List.getElem?_eq_getElem hl)
  rw [show ((r.toNat : Nat) : Int) = r by omega] at e
  exact e
theorem i_pick {K : PySem.W.Frag} {p : Addr} {xs : List V} {r : Int} {H : Hp} {Q : VK} (hp : SqL K H p xs) (h0 : 0 ≤ r) (h1 : r < xs.length) (h : ∀ v, v ∈ xs → Q v H) : rIxL K (.ref p) (.int r) H Q := by
  obtain ⟨v, hv, e⟩ := atI_lt h0 h1
  exact i_ixL hp e (h v hv)
theorem i_pickI {K : PySem.W.Frag} {p : Addr} {ns : List Int} {r : Int} {H : Hp} {Q : VK} (lo hi : Int) (hp : SqL K H p (ns.map V.int)) (h0 : 0 ≤ r) (h1 : r < ns.length) (hall : ∀ m ∈ ns, lo ≤ m ∧ m ≤ hi) (h : ∀ m, lo ≤ m → m ≤ hi → Q (.int m) H) : rIxL K (.ref p) (.int r) H Q := by
  refine i_pick hp h0 (by rw [List.length_map]; exact h1) fun v hv => ?_
  obtain ⟨m, hm, rfl⟩ := List.mem_map.mp hv
  exact h m (hall m hm).1 (hall m hm).2
/-- one sign -/
abbrev vc (c : Nat) : V := .str (S [c])
/-- all signs are small letters -/
def Low (l : List Nat) : Prop := ∀ c ∈ l, 97 ≤ c ∧ c ≤ 122
theorem i_pickC {K : PySem.W.Frag} {p : Addr} {cs : List Nat} {r : Int} {H : Hp} {Q : VK} (hp : SqL K H p (cs.map vc)) (h0 : 0 ≤ r) (h1 : r < cs.length) (h : ∀ c, c ∈ cs → Q (.str (S [c])) H) : rIxL K (.ref p) (.int r) H Q := by
  refine i_pick hp h0 (by rw [List.length_map]; exact h1) fun v hv => ?_
  obtain ⟨m, hm, rfl⟩ := List.mem_map.mp hv
  exact h m hm
theorem i_pickS {l : List Nat} {r : Int} {H : Hp} {Q : VK} (hz : l.length ≤ 1000000) (h0 : 0 ≤ r) (h1 : r < l.length) (h : ∀ c, c ∈ l → Q (.str (S [c])) H) : rIxT1 (.str (S l)) (.int r) H Q := by
  obtain ⟨v, hv, e⟩ := atI_lt h0 h1
  exact i_ixS (le_line hz) e (h v hv)
abbrev abc : List Nat := [97, 98, 99, 100, 101, 102, 103, 104, 105, 106, 107, 108, 109, 110, 111, 112, 113, 114, 115, 116, 117, 118, 119, 120, 121, 122]
theorem low_abc : Low abc := by unfold Low; decide
theorem Low.app {a b : List Nat} (h1 : Low a) (h2 : Low b) : Low (a ++ b) := fun c hc => by
  rcases List.mem_append.mp hc with h | h
  · exact h1 c h
  · exact h2 c h
theorem Low.one {c : Nat} (h : 97 ≤ c ∧ c ≤ 122) : Low [c] := fun d hd => by
  rw [List.mem_singleton.mp hd]; exact h
theorem Low.sub {a b : List Nat} (h1 : Low a) (h2 : ∀ c ∈ b, c ∈ a) : Low b := fun c hc => h1 c (h2 c hc)
theorem Low.nil : Low [] := fun c hc => nomatch hc
theorem Low.rev {a : List Nat} (h1 : Low a) : Low a.reverse := h1.sub fun c hc => List.mem_reverse.mp hc
theorem Low.cut {a : List Nat} {lo hi : Option Int} (h1 : Low a) : Low (cutL a lo hi) := h1.sub fun c hc => List.mem_of_mem_drop (List.mem_of_mem_take hc)
/-! comprehensions -/
/-- the list grown so far at D is acc, and Iv holds of it -/
def Pa (D : Addr) (Iv : Nat → List V → Hp → Prop) (i : Nat) (H : Hp) : Prop := ∃ acc : List V, acc.length ≤ i ∧ H D = some (.lst acc) ∧ Iv i acc H
theorem lc_acc {J : It} {n : Nat} {G : Hp → Prop} {Y : Nat → Hp → V → Hp → Prop} (w : Walk J n G Y) {g : TG} {tt : TT} {te : TE} {vs : List Nat} {σ : L2.St} {H1 : Hp} {D : Addr} {Qd : Hp → Prop} (Iv : Nat → List V → Hp → Prop)
    (h0 : Iv 0 [] (upd H1 D (.lst []))) (hG : ∀ i acc H, i ≤ n → H D = some (.lst acc) → Iv i acc H → G H)
    (hs : ∀ i acc x H H', i < n → acc.length ≤ i → H D = some (.lst acc) → Iv i acc H → Y i H x H' → g x (wipe σ vs) H' fun σ2 H2 => wipe σ2 vs = wipe σ vs ∧ tt σ2 H2 fun b H3 =>
      if b = true then te σ2 H3 fun y H4 => ∃ acc, H4 D = some (.lst acc) ∧ acc.length < sizeLine ∧ Pa D Iv (i + 1) (upd H4 D (.lst (acc ++ [y]))) else Pa D Iv (i + 1) H3)
    (hd : ∀ acc H, acc.length ≤ n → H D = some (.lst acc) → Iv n acc H → Qd H) :
    ∃ W : Nat → Nat → Hp → Prop, (∃ m, W 0 m (upd H1 D (.lst []))) ∧ ∀ i m H, W i m H →
      (J.stop i H ∧ Qd H) ∨ (J.go i H ∧ ∃ Nx : Hp → Prop, (∀ H', Nx H' → ∃ m', m' < m ∧ W (i + 1) m' H') ∧ ∀ x H', J.yld i H x H' → g x (wipe σ vs) H' fun σ2 H2 => wipe σ2 vs = wipe σ vs ∧ tt σ2 H2 fun b H3 =>
        if b = true then te σ2 H3 fun y H4 => ∃ acc, H4 D = some (.lst acc) ∧ acc.length < sizeLine ∧ Nx (upd H4 D (.lst (acc ++ [y]))) else Nx H3) := by
  refine lc_it w (Pa D Iv) ⟨[], Nat.le_refl _, upd_same, h0⟩ (fun i H hi ⟨acc, _, h1, h2⟩ => hG i acc H hi h1 h2) ?_ ?_
  · rintro i x H H' hi ⟨acc, hl, h1, h2⟩ y
    exact hs i acc x H H' hi hl h1 h2 y
  · rintro H ⟨acc, hl, h1, h2⟩
    exact hd acc H hl h1 h2
theorem lc_put {D : Addr} {Iv : Nat → List V → Hp → Prop} {i : Nat} {acc : List V} {y : V} {H4 : Hp} (e : H4 D = some (.lst acc)) (hl : acc.length ≤ i) (hi : i ≤ 1000000) (h : Iv (i + 1) (acc ++ [y]) (upd H4 D (.lst (acc ++ [y])))) :
    ∃ acc, H4 D = some (.lst acc) ∧ acc.length < sizeLine ∧ Pa D Iv (i + 1) (upd H4 D (.lst (acc ++ [y]))) :=
  ⟨acc, e, lt_line (by omega), acc ++ [y], by simp; omega, upd_same, h⟩
theorem lc_skip {D : Addr} {Iv : Nat → List V → Hp → Prop} {i : Nat} {acc : List V} {H3 : Hp} (e : H3 D = some (.lst acc)) (hl : acc.length ≤ i) (h : Iv (i + 1) acc H3) : Pa D Iv (i + 1) H3 := ⟨acc, by omega, e, h⟩
/-- [e for x in range(n)] -/
theorem i_lcR {n : Int} {g : TG} {tt : TT} {te : TE} {vs : List Nat} {σ : L2.St} {H : Hp} {Q : VK} (h0 : 0 ≤ n) (h1 : n ≤ 1000000) (h : ∀ D, H D = none → ∃ W : Nat → Nat → Hp → Prop, (∃ m, W 0 m (upd H D (.lst []))) ∧ ∀ i m H, W i m H →
      ((Itr 0 n.toNat).stop i H ∧ Q (.ref D) H) ∨ ((Itr 0 n.toNat).go i H ∧ ∃ Nx : Hp → Prop, (∀ H', Nx H' → ∃ m', m' < m ∧ W (i + 1) m' H') ∧ ∀ x H', (Itr 0 n.toNat).yld i H x H' → g x (wipe σ vs) H' fun σ2 H2 => wipe σ2 vs = wipe σ vs ∧ tt σ2 H2 fun b H3 =>
        if b = true then te σ2 H3 fun y H4 => ∃ acc, H4 D = some (.lst acc) ∧ acc.length < sizeLine ∧ Nx (upd H4 D (.lst (acc ++ [y]))) else Nx H3)) :
    ∃ j : Int, [V.int n] = [.int j] ∧ -(2 ^ 62) ≤ j ∧ j < 2 ^ 62 ∧ ∀ D, H D = none → ∃ W : Nat → Nat → Hp → Prop, (∃ m, W 0 m (upd H D (.lst []))) ∧ ∀ i m H, W i m H →
      ((Itr 0 j.toNat).stop i H ∧ Q (.ref D) H) ∨ ((Itr 0 j.toNat).go i H ∧ ∃ Nx : Hp → Prop, (∀ H', Nx H' → ∃ m', m' < m ∧ W (i + 1) m' H') ∧ ∀ x H', (Itr 0 j.toNat).yld i H x H' → g x (wipe σ vs) H' fun σ2 H2 => wipe σ2 vs = wipe σ vs ∧ tt σ2 H2 fun b H3 =>
        if b = true then te σ2 H3 fun y H4 => ∃ acc, H4 D = some (.lst acc) ∧ acc.length < sizeLine ∧ Nx (upd H4 D (.lst (acc ++ [y]))) else Nx H3) := ⟨n, rfl, by omega, by omega, h⟩
theorem i_tYes {σ : L2.St} {H : Hp} {QB : Bool → Hp → Prop} (h : QB true H) : tYes σ H QB := h
theorem i_lc {wi : TI} {g : TG} {tt : TT} {te : TE} {vs : List Nat} {σ : L2.St} {H : Hp} {Q : VK} (h : wi σ H fun J H1 => ∀ D, H1 D = none → ∃ W : Nat → Nat → Hp → Prop, (∃ m, W 0 m (upd H1 D (.lst []))) ∧ ∀ i m H, W i m H →
  (J.stop i H ∧ Q (.ref D) H) ∨ (J.go i H ∧ ∃ Nx : Hp → Prop, (∀ H', Nx H' → ∃ m', m' < m ∧ W (i + 1) m' H') ∧ ∀ x H', J.yld i H x H' → g x (wipe σ vs) H' fun σ2 H2 => wipe σ2 vs = wipe σ vs ∧ tt σ2 H2 fun b H3 =>
    if b = true then te σ2 H3 fun y H4 => ∃ acc, H4 D = some (.lst acc) ∧ acc.length < sizeLine ∧ Nx (upd H4 D (.lst (acc ++ [y]))) else Nx H3)) : tLc wi g tt te vs σ H Q := h
/-- [c for c in text] -/
theorem i_str {te : TE} {σ : L2.St} {H : Hp} {R : It → Hp → Prop} (h : te σ H fun v H1 => ∃ x, v = .str x ∧ R (Its x) H1) : iStr te σ H R := h
theorem i_strx {l : List Nat} {H : Hp} {R : It → Hp → Prop} (h : R (Its (S l)) H) : ∃ x, V.str (S l) = .str x ∧ R (Its x) H := ⟨_, rfl, h⟩
theorem walk_S {l : List Nat} : Walk (Its (S l)) l.length (fun _ => True) (fun i H v H' => H' = H ∧ ∃ c, l[i]? = some c ∧ v = .str (S [c])) := by
  have := walk_str (z := S l)
  have e : (S l).cps.size = l.length := by simp
  rw [e] at this
  refine this.mono (fun _ h => h) fun i H x H' _ _ y => ?_
  obtain ⟨y1, c, y2, y3⟩ := y
  exact ⟨y1, c, by simpa using y2, y3⟩
theorem i_list {K : PySem.W.Frag} {te : TE} {σ : L2.St} {H : Hp} {R : It → Hp → Prop} (h : te σ H fun x H1 => ∃ a, x = .ref a ∧ (∃ xs, SqL K H1 a xs) ∧ R (Itl K a) H1) : iList K te σ H R := h
theorem i_listx {K : PySem.W.Frag} {a : Addr} {xs : List V} {H : Hp} {R : It → Hp → Prop} (h1 : SqL K H a xs) (h : R (Itl K a) H) : ∃ b, V.ref a = .ref b ∧ (∃ xs, SqL K H b xs) ∧ R (Itl K b) H := ⟨a, rfl, ⟨xs, h1⟩, h⟩
theorem i_for {wi : TI} {g : TG} {tb : TS} {D : Ends} {σ : L2.St} {H : Hp} (h : wi σ H fun J H1 => ∃ W : Nat → Nat → L2.St → Hp → Prop, (∃ m, W 0 m σ H1) ∧ ∀ i m σ H, W i m σ H →
  (J.stop i H ∧ D.nx σ H) ∨ (J.go i H ∧ ∃ N : L2.St → Hp → Prop, (∀ σ' H', N σ' H' → ∃ m', m' < m ∧ W (i + 1) m' σ' H') ∧ ∀ x H', J.yld i H x H' → g x σ H' fun σ2 H2 => tb { D with nx := N, ct := N, bk := D.nx } σ2 H2)) : tFor wi g tb D σ H := h
theorem joinL_nil : ∀ ys : List (List Nat), TL.joinL [] ys = ys.flatten
  | [] => rfl
  | [p] => by simp [TL.joinL]
  | p :: q :: r => by
    have := joinL_nil (q :: r)
    simp only [TL.joinL, this, List.nil_append]
    simp
/-- a test by what it tells: M -/
theorem if_cut {tt : TT} {t u : TS} {D : Ends} {σ : L2.St} {H : Hp} (M : Bool → Hp → Prop) (h : ∀ Q' : Bool → Hp → Prop, (∀ b H1, M b H1 → Q' b H1) → tt σ H Q') (h1 : ∀ H1, M true H1 → t D σ H1) (h2 : ∀ H1, M false H1 → u D σ H1) : tIfS tt t u D σ H := by
  refine h _ fun b H1 m => ?_
  cases b with
  | true => exact iteT (h1 H1 m)
  | false => exact iteF (h2 H1 m)
theorem iteNF {A B : Prop} (h : A) : if (!false) = true then A else B := h
theorem iteNT {A B : Prop} (h : B) : if (!true) = true then A else B := h
theorem small_none {h : Addr} {H H1 : Hp} {D : Addr} (b : But h H H1) (n : D ≠ h) (e : H1 D = none) : H D = none := by
  cases q : H D with
  | none => rfl
  | some o => rw [b D o n q] at e; cases e
end Lv

set_option Elab.async false
set_option linter.all false
set_option maxRecDepth 100000
set_option maxHeartbeats 2000000
namespace Lv
open PySem PySem.Spec PyProof.Rows L2 SX
/-! loops: an invariant, its start, (what stands still,) a turn, the end -/
def ForJ (J : It) (g : TG) (tb : TS) (D : Ends) (σ : L2.St) (H : Hp) : Prop := ∃ W : Nat → Nat → L2.St → Hp → Prop, (∃ m, W 0 m σ H) ∧ ∀ i m σ H, W i m σ H →
  (J.stop i H ∧ D.nx σ H) ∨ (J.go i H ∧ ∃ N : L2.St → Hp → Prop, (∀ σ' H', N σ' H' → ∃ m', m' < m ∧ W (i + 1) m' σ' H') ∧ ∀ x H', J.yld i H x H' → g x σ H' fun σ2 H2 => tb { D with nx := N, ct := N, bk := D.nx } σ2 H2)
def LcJ (J : It) (g : TG) (tt : TT) (te : TE) (vs : List Nat) (σ : L2.St) (H1 : Hp) (Q : VK) : Prop := ∀ D, H1 D = none → ∃ W : Nat → Nat → Hp → Prop, (∃ m, W 0 m (upd H1 D (.lst []))) ∧ ∀ i m H, W i m H →
  (J.stop i H ∧ Q (.ref D) H) ∨ (J.go i H ∧ ∃ Nx : Hp → Prop, (∀ H', Nx H' → ∃ m', m' < m ∧ W (i + 1) m' H') ∧ ∀ x H', J.yld i H x H' → g x (wipe σ vs) H' fun σ2 H2 => wipe σ2 vs = wipe σ vs ∧ tt σ2 H2 fun b H3 =>
    if b = true then te σ2 H3 fun y H4 => ∃ acc, H4 D = some (.lst acc) ∧ acc.length < sizeLine ∧ Nx (upd H4 D (.lst (acc ++ [y]))) else Nx H3)
def ForN (n : Nat) (Y : Nat → Hp → V → Hp → Prop) (g : TG) (tb : TS) (D : Ends) (σ : L2.St) (H : Hp) : Prop := ∃ Pv : Nat → L2.St → Hp → Prop, Pv 0 σ H ∧
  (∀ i x σ H H', i < n → Pv i σ H → Y i H x H' → g x σ H' fun σ2 H2 => tb { D with nx := Pv (i + 1), ct := Pv (i + 1), bk := D.nx } σ2 H2) ∧ ∀ σ H, Pv n σ H → D.nx σ H
def ForG (G : Hp → Prop) (n : Nat) (Y : Nat → Hp → V → Hp → Prop) (g : TG) (tb : TS) (D : Ends) (σ : L2.St) (H : Hp) : Prop := ∃ Pv : Nat → L2.St → Hp → Prop, Pv 0 σ H ∧ (∀ i σ H, i ≤ n → Pv i σ H → G H) ∧
  (∀ i x σ H H', i < n → Pv i σ H → Y i H x H' → g x σ H' fun σ2 H2 => tb { D with nx := Pv (i + 1), ct := Pv (i + 1), bk := D.nx } σ2 H2) ∧ ∀ σ H, Pv n σ H → D.nx σ H
def LcN (n : Nat) (Y : Nat → Hp → V → Hp → Prop) (g : TG) (tt : TT) (te : TE) (vs : List Nat) (σ : L2.St) (H1 : Hp) (Q : VK) : Prop := ∀ D, H1 D = none → ∃ Iv : Nat → List V → Hp → Prop, Iv 0 [] (upd H1 D (.lst [])) ∧
  (∀ i acc x H H', i < n → acc.length ≤ i → H D = some (.lst acc) → Iv i acc H → Y i H x H' → g x (wipe σ vs) H' fun σ2 H2 => wipe σ2 vs = wipe σ vs ∧ tt σ2 H2 fun b H3 =>
      if b = true then te σ2 H3 fun y H4 => ∃ acc, H4 D = some (.lst acc) ∧ acc.length < sizeLine ∧ Pa D Iv (i + 1) (upd H4 D (.lst (acc ++ [y]))) else Pa D Iv (i + 1) H3) ∧
  ∀ acc H, acc.length ≤ n → H D = some (.lst acc) → Iv n acc H → Q (.ref D) H
def LcG (G : Hp → Prop) (n : Nat) (Y : Nat → Hp → V → Hp → Prop) (g : TG) (tt : TT) (te : TE) (vs : List Nat) (σ : L2.St) (H1 : Hp) (Q : VK) : Prop := ∀ D, H1 D = none → ∃ Iv : Nat → List V → Hp → Prop, Iv 0 [] (upd H1 D (.lst [])) ∧ (∀ i acc H, i ≤ n → H D = some (.lst acc) → Iv i acc H → G H) ∧
  (∀ i acc x H H', i < n → acc.length ≤ i → H D = some (.lst acc) → Iv i acc H → Y i H x H' → g x (wipe σ vs) H' fun σ2 H2 => wipe σ2 vs = wipe σ vs ∧ tt σ2 H2 fun b H3 =>
      if b = true then te σ2 H3 fun y H4 => ∃ acc, H4 D = some (.lst acc) ∧ acc.length < sizeLine ∧ Pa D Iv (i + 1) (upd H4 D (.lst (acc ++ [y]))) else Pa D Iv (i + 1) H3) ∧
  ∀ acc H, acc.length ≤ n → H D = some (.lst acc) → Iv n acc H → Q (.ref D) H
/-! what is walked -/
abbrev YR (lo : Int) : Nat → Hp → V → Hp → Prop := fun i H x H' => H' = H ∧ x = .int (lo + (i : Int))
abbrev YC (lo c : Int) : Nat → Hp → V → Hp → Prop := fun i H x H' => H' = H ∧ x = .int (lo + (i : Int) * c)
abbrev YS (l : List Nat) : Nat → Hp → V → Hp → Prop := fun i H v H' => H' = H ∧ ∃ c, l[i]? = some c ∧ v = .str (S [c])
abbrev YL (xs : List V) : Nat → Hp → V → Hp → Prop := fun i H v H' => H' = H ∧ xs[i]? = some v
/-- a new tuple -/
abbrev YT (Y : Nat → List V → Prop) : Nat → Hp → V → Hp → Prop := fun i H v H' => ∃ T xs, v = .ref T ∧ H T = none ∧ H' = upd H T (.tup xs) ∧ Y i xs
/-- the signs of a text with their places -/
abbrev YE (l : List Nat) : Nat → List V → Prop := fun i xs => ∃ c, l[i]? = some c ∧ xs = [.int (i : Nat), .str (S [c])]
section
variable {K : PySem.W.Frag} {g : TG} {tb : TS} {D : Ends} {σ : L2.St} {H H1 : Hp} {te : TE} {tt : TT} {vs : List Nat} {Q : VK} {n : Nat} {Y : Nat → Hp → V → Hp → Prop} {J : It} {G : Hp → Prop} {wi : TI} {R : It → Hp → Prop} {ta : TA}
theorem fo (h : ∀ R' : It → Hp → Prop, R' J H1 → wi σ H R') (k : ForJ J g tb D σ H1) : tFor wi g tb D σ H := h _ k
theorem foM (M : It → Hp → Prop) (h : ∀ R' : It → Hp → Prop, (∀ J H1, M J H1 → R' J H1) → wi σ H R') (k : ∀ J H1, M J H1 → ForJ J g tb D σ H1) : tFor wi g tb D σ H := h _ k
theorem lc (h : ∀ R' : It → Hp → Prop, R' J H1 → wi σ H R') (k : LcJ J g tt te vs σ H1 Q) : tLc wi g tt te vs σ H Q := h _ k
theorem lcM (M : It → Hp → Prop) (h : ∀ R' : It → Hp → Prop, (∀ J H1, M J H1 → R' J H1) → wi σ H R') (k : ∀ J H1, M J H1 → LcJ J g tt te vs σ H1 Q) : tLc wi g tt te vs σ H Q := h _ k
theorem forN_ok (w : Walk J n (fun _ => True) Y) (h : ForN n Y g tb D σ H) : ForJ J g tb D σ H := by
  obtain ⟨Pv, h0, hs, hd⟩ := h
  exact for_it w Pv h0 (fun _ _ _ _ _ => trivial) hs hd
theorem forG_ok (w : Walk J n G Y) (h : ForG G n Y g tb D σ H) : ForJ J g tb D σ H := by
  obtain ⟨Pv, h0, hG, hs, hd⟩ := h
  exact for_it w Pv h0 hG hs hd
theorem lcN_ok (w : Walk J n (fun _ => True) Y) (h : LcN n Y g tt te vs σ H Q) : LcJ J g tt te vs σ H Q := fun D nD => by
  obtain ⟨Iv, h0, hs, hd⟩ := h D nD
  exact lc_acc w Iv h0 (fun _ _ _ _ _ _ => trivial) hs hd
theorem lcG_ok (w : Walk J n G Y) (h : LcG G n Y g tt te vs σ H Q) : LcJ J g tt te vs σ H Q := fun D nD => by
  obtain ⟨Iv, h0, hG, hs, hd⟩ := h D nD
  exact lc_acc w Iv h0 hG hs hd
theorem f_r {lo : Int} (h : ForN n (YR lo) g tb D σ H) : ForJ (Itr lo n) g tb D σ H := forN_ok walk_range h
theorem f_c {lo c : Int} (h : ForN n (YC lo c) g tb D σ H) : ForJ (Itc lo c n) g tb D σ H := forN_ok walk_rangeC h
theorem f_s {l : List Nat} (h : ForN l.length (YS l) g tb D σ H) : ForJ (Its (S l)) g tb D σ H := forN_ok walk_S h
theorem f_l {a : Addr} {xs : List V} (h : ForG (fun H => SqL K H a xs) xs.length (YL xs) g tb D σ H) : ForJ (Itl K a) g tb D σ H := forG_ok walk_list h
theorem f_u {a : Addr} {xs : List V} (h : ForG (fun H => SqT K H a xs) xs.length (YL xs) g tb D σ H) : ForJ (Itt K a) g tb D σ H := forG_ok walk_tup h
theorem f_t {Y : Nat → List V → Prop} (h : ForN n (YT Y) g tb D σ H) : ForJ (ItT n Y) g tb D σ H := forN_ok walk_enumS h
theorem f_e {a : Addr} {xs : List V} (h : ForG (fun H => SqL K H a xs) xs.length (YT fun i zs => ∃ x, xs[i]? = some x ∧ zs = [.int (i : Nat), x]) g tb D σ H) : ForJ (Ite K a) g tb D σ H := by
  refine forG_ok (walk_enum.mono (fun _ h => h) fun i H x H' hi _ y => ?_) h
  obtain ⟨T, x1, x2, rfl, h2, rfl, h4, h5⟩ := y
  cases h4
  exact ⟨T, _, rfl, h2, rfl, x2, h5, rfl⟩
theorem c_r {lo : Int} (h : LcN n (YR lo) g tt te vs σ H Q) : LcJ (Itr lo n) g tt te vs σ H Q := lcN_ok walk_range h
theorem c_c {lo c : Int} (h : LcN n (YC lo c) g tt te vs σ H Q) : LcJ (Itc lo c n) g tt te vs σ H Q := lcN_ok walk_rangeC h
theorem c_s {l : List Nat} (h : LcN l.length (YS l) g tt te vs σ H Q) : LcJ (Its (S l)) g tt te vs σ H Q := lcN_ok walk_S h
theorem c_l {a : Addr} {xs : List V} (h : LcG (fun H => SqL K H a xs) xs.length (YL xs) g tt te vs σ H Q) : LcJ (Itl K a) g tt te vs σ H Q := lcG_ok walk_list h
theorem c_u {a : Addr} {xs : List V} (h : LcG (fun H => SqT K H a xs) xs.length (YL xs) g tt te vs σ H Q) : LcJ (Itt K a) g tt te vs σ H Q := lcG_ok walk_tup h
theorem c_t {Y : Nat → List V → Prop} (h : LcN n (YT Y) g tt te vs σ H Q) : LcJ (ItT n Y) g tt te vs σ H Q := lcN_ok walk_enumS h
theorem c_e {a : Addr} {xs : List V} (h : LcG (fun H => SqL K H a xs) xs.length (YT fun i zs => ∃ x, xs[i]? = some x ∧ zs = [.int (i : Nat), x]) g tt te vs σ H Q) : LcJ (Ite K a) g tt te vs σ H Q := by
  refine lcG_ok (walk_enum.mono (fun _ h => h) fun i H x H' hi _ y => ?_) h
  obtain ⟨T, x1, x2, rfl, h2, rfl, h4, h5⟩ := y
  cases h4
  exact ⟨T, _, rfl, h2, rfl, x2, h5, rfl⟩
/-! the steps to what is walked -/
theorem i_rng2 (h : ta σ H fun vs H1 => ∃ i j : Int, vs = [.int i, .int j] ∧ (-(2 ^ 62) ≤ i ∧ i < 2 ^ 62 ∧ -(2 ^ 62) ≤ j ∧ j < 2 ^ 62) ∧ R (Itr i (j - i).toNat) H1) : iRng2 ta σ H R := h
theorem i_rng3 (h : ta σ H fun vs H1 => ∃ (i j c : Int) (n : Nat), vs = [.int i, .int j, .int c] ∧ RgC i j c n ∧ R (Itc i c n) H1) : iRng3 ta σ H R := h
theorem i_enumS (h : ta σ H fun vs H1 => ∃ l : List Nat, vs = [.str (S l)] ∧ R (ItT l.length (YE l)) H1) : iEnumS ta σ H R := h
theorem i_enumL (h : ta σ H fun vs H1 => ∃ a xs, vs = [.ref a] ∧ SqL K H1 a xs ∧ R (Ite K a) H1) : iEnum K ta σ H R := h
theorem i_tupI (h : te σ H fun x H1 => ∃ a, x = .ref a ∧ (∃ xs, SqT K H1 a xs) ∧ R (Itt K a) H1) : iTup K te σ H R := h
theorem x_r1 {z : Int} (h0 : -(2 ^ 62) ≤ z) (h1 : z < 2 ^ 62) (h : R (Itr 0 z.toNat) H) : ∃ j : Int, [V.int z] = [.int j] ∧ -(2 ^ 62) ≤ j ∧ j < 2 ^ 62 ∧ R (Itr 0 j.toNat) H := ⟨z, rfl, h0, h1, h⟩
theorem x_r2 {x y : Int} (hb : -(2 ^ 62) ≤ x ∧ x < 2 ^ 62 ∧ -(2 ^ 62) ≤ y ∧ y < 2 ^ 62) (h : R (Itr x (y - x).toNat) H) : ∃ i j : Int, [V.int x, V.int y] = [.int i, .int j] ∧ (-(2 ^ 62) ≤ i ∧ i < 2 ^ 62 ∧ -(2 ^ 62) ≤ j ∧ j < 2 ^ 62) ∧ R (Itr i (j - i).toNat) H := ⟨x, y, rfl, hb, h⟩
theorem x_dn {x y : Int} (hb : -(2 ^ 62) ≤ x ∧ x < 2 ^ 62 ∧ -(2 ^ 62) ≤ y ∧ y < 2 ^ 62) (h : R (Itc x (-1) (x - y).toNat) H) : ∃ (i j c : Int) (n : Nat), [V.int x, V.int y, V.int (-1)] = [.int i, .int j, .int c] ∧ RgC i j c n ∧ R (Itc i c n) H := ⟨x, y, -1, _, rfl, RgC.neg hb.1 hb.2.1 hb.2.2.1 hb.2.2.2, h⟩
theorem x_str {l : List Nat} (h : R (Its (S l)) H) : ∃ x, V.str (S l) = .str x ∧ R (Its x) H := ⟨_, rfl, h⟩
theorem x_list {a : Addr} {xs : List V} (hL : SqL K H a xs) (h : R (Itl K a) H) : ∃ b, V.ref a = .ref b ∧ (∃ xs, SqL K H b xs) ∧ R (Itl K b) H := ⟨a, rfl, ⟨xs, hL⟩, h⟩
theorem x_tup {a : Addr} {xs : List V} (hL : SqT K H a xs) (h : R (Itt K a) H) : ∃ b, V.ref a = .ref b ∧ (∃ xs, SqT K H b xs) ∧ R (Itt K b) H := ⟨a, rfl, ⟨xs, hL⟩, h⟩
theorem x_enumS {l : List Nat} (h : R (ItT l.length (YE l)) H) : ∃ l' : List Nat, [V.str (S l)] = [.str (S l')] ∧ R (ItT l'.length (YE l')) H := ⟨l, rfl, h⟩
theorem x_enumL {a : Addr} {xs : List V} (hL : SqL K H a xs) (h : R (Ite K a) H) : ∃ b xs, [V.ref a] = [.ref b] ∧ SqL K H b xs ∧ R (Ite K b) H := ⟨a, xs, rfl, hL, h⟩
end
theorem i_augS {to ti te : TE} {tget : V → V → Hp → VK → Prop} {tip : TIp} {tset : TSet} {D : Ends} {σ : L2.St} {H : Hp} (h : to σ H fun o H1 => ti σ H1 fun i H2 => tget o i H2 fun x H3 => te σ H3 fun y H4 => tip x y H4 fun z H5 => tset o i z H5 fun H6 => D.nx σ H6) : tAugS to ti te tget tip tset D σ H := h
theorem x_nx {t b c : L2.St → Hp → Prop} {r : VK} {σ : L2.St} {H : Hp} (h : t σ H) : ({ nx := t, rt := r, bk := b, ct := c } : Ends).nx σ H := h
theorem ix_nat {n k : Nat} (h : k < n) : ixN n (k : Int) = some k := by
  unfold ixN
  rw [if_pos (by omega), if_pos (by omega)]
  rfl
end Lv

set_option Elab.async false
set_option linter.all false
namespace Lv
/-- in how many ways m is left of l -/
def W : List Nat → List Nat → Nat
  | _, [] => 1
  | [], _ :: _ => 0
  | c :: l, d :: m => W l (d :: m) + (if c = d then W l m else 0)
theorem W_nil (l : List Nat) : W l [] = 1 := by cases l <;> rfl
theorem W_cons (c : Nat) (l : List Nat) (d : Nat) (m : List Nat) : W (c :: l) (d :: m) = W l (d :: m) + (if c = d then W l m else 0) := rfl
theorem W_nilc (d : Nat) (m : List Nat) : W [] (d :: m) = 0 := rfl
/-- the last letters -/
theorem W_snoc (c d : Nat) : ∀ (l m : List Nat), W (l ++ [c]) (m ++ [d]) = W l (m ++ [d]) + (if c = d then W l m else 0)
  | [], [] => by
    show W [] [d] + (if c = d then W [] [] else 0) = _
    rfl
  | [], e :: m => by
    show W [] (e :: (m ++ [d])) + (if c = e then W [] (m ++ [d]) else 0) = 0 + (if c = d then W [] (e :: m) else 0)
    have h1 : W [] (m ++ [d]) = 0 := by cases m <;> rfl
    rw [h1, W_nilc, W_nilc]
    simp
  | a :: l, [] => by
    show W (l ++ [c]) [d] + (if a = d then W (l ++ [c]) [] else 0) = W l [d] + (if a = d then W l [] else 0) + (if c = d then W (a :: l) [] else 0)
    have := W_snoc c d l []
    rw [List.nil_append] at this
    rw [this, W_nil, W_nil, W_nil]
    omega
  | a :: l, e :: m => by
    show W (l ++ [c]) (e :: (m ++ [d])) + (if a = e then W (l ++ [c]) (m ++ [d]) else 0) = W l (e :: (m ++ [d])) + (if a = e then W l (m ++ [d]) else 0) + (if c = d then (W l (e :: m) + (if a = e then W l m else 0)) else 0)
    have h1 := W_snoc c d l (e :: m)
    have h2 := W_snoc c d l m
    rw [List.cons_append] at h1
    rw [h1, h2]
    by_cases x : c = d <;> by_cases y : a = e <;> simp [x, y] <;> omega
theorem W_drop {l m : List Nat} {i j c d : Nat} (hi : l[i]? = some c) (hj : m[j]? = some d) : W (l.drop i) (m.drop j) = W (l.drop (i + 1)) (m.drop j) + (if c = d then W (l.drop (i + 1)) (m.drop (j + 1)) else 0) := by
  obtain ⟨h1, e1⟩ := List.getElem?_eq_some_iff.mp hi
  obtain ⟨h2, e2⟩ := List.getElem?_eq_some_iff.mp hj
  rw [List.drop_eq_getElem_cons h1, List.drop_eq_getElem_cons h2, e1, e2, W_cons]
theorem W_take {l m : List Nat} {i j c d : Nat} (hi : l[i]? = some c) (hj : m[j]? = some d) : W (l.take (i + 1)) (m.take (j + 1)) = W (l.take i) (m.take (j + 1)) + (if c = d then W (l.take i) (m.take j) else 0) := by
  rw [List.take_add_one, List.take_add_one, hi, hj]
  show W (l.take i ++ [c]) (m.take j ++ [d]) = _
  rw [W_snoc]
  rfl
def wrow (l m : List Nat) : List Int := (List.range (m.length + 1)).map fun a => ((W l (m.drop a) : Nat) : Int)
theorem wrow_length (l m : List Nat) : (wrow l m).length = m.length + 1 := by simp [wrow]
theorem wrow_get (l m : List Nat) {a : Nat} (h : a ≤ m.length) : (wrow l m)[a]? = some ((W l (m.drop a) : Nat) : Int) := by
  unfold wrow
  rw [List.getElem?_map, List.getElem?_range (by omega)]
  rfl
/-- behind j places -/
def prow (l m : List Nat) (j : Nat) : List Int := (List.range (m.length + 1)).map fun a => ((if a < j then W l (m.drop a) else W [] (m.drop a) : Nat) : Int)
theorem prow_zero (l m : List Nat) : prow l m 0 = wrow [] m := by
  unfold prow wrow
  refine List.map_congr_left fun a _ => ?_
  simp
theorem prow_last (l m : List Nat) : prow l m m.length = wrow l m := by
  unfold prow wrow
  refine List.map_congr_left fun a ha => ?_
  have := List.mem_range.mp ha
  by_cases h : a < m.length
  · rw [if_pos h]
  · have e : a = m.length := by omega
    rw [if_neg h, e, List.drop_length, W_nil, W_nil]
theorem prow_length (l m : List Nat) (j : Nat) : (prow l m j).length = m.length + 1 := by simp [prow]
theorem prow_set (l m : List Nat) (j : Nat) (hj : j < m.length) : (prow l m j).set j ((W l (m.drop j) : Nat) : Int) = prow l m (j + 1) := by
  apply List.ext_getElem?
  intro a
  rw [List.getElem?_set]
  by_cases ha : a < m.length + 1
  · unfold prow
    rw [List.getElem?_map, List.getElem?_map, List.getElem?_range ha]
    by_cases e : j = a
    · subst e
      rw [if_pos rfl, if_pos (by simp; omega)]
      simp
    · rw [if_neg e]
      dsimp only [Option.map_some]
      by_cases h : a < j
      · rw [if_pos h, if_pos (by omega)]
      · rw [if_neg h, if_neg (by omega)]
  · have h1 : (prow l m j)[a]? = none := List.getElem?_eq_none (by rw [prow_length]; omega)
    have h2 : (prow l m (j + 1))[a]? = none := List.getElem?_eq_none (by rw [prow_length]; omega)
    rw [h1, h2]
    split
    · omega
    · rfl
theorem wrow_init (m : List Nat) : List.replicate m.length (0 : Int) ++ [1] = wrow [] m := by
  apply List.ext_getElem?
  intro a
  by_cases h : a < m.length
  · rw [List.getElem?_append_left (by simpa using h), wrow_get [] m (by omega), List.getElem?_replicate, if_pos h]
    have : W [] (m.drop a) = 0 := by
      rw [List.drop_eq_getElem_cons h]
      rfl
    rw [this]
    rfl
  · rw [List.getElem?_append_right (by simpa using Nat.le_of_not_lt h), List.length_replicate]
    by_cases e : a = m.length
    · subst e
      rw [wrow_get [] m (Nat.le_refl _), List.drop_length, Nat.sub_self]
      rfl
    · rw [List.getElem?_eq_none (by simp; omega), List.getElem?_eq_none (by rw [wrow_length]; omega)]
/-- forwards -/
def frow (l m : List Nat) : List Int := (List.range (m.length + 1)).map fun a => ((W l (m.take a) : Nat) : Int)
theorem frow_length (l m : List Nat) : (frow l m).length = m.length + 1 := by simp [frow]
theorem frow_get (l m : List Nat) {a : Nat} (h : a ≤ m.length) : (frow l m)[a]? = some ((W l (m.take a) : Nat) : Int) := by
  unfold frow
  rw [List.getElem?_map, List.getElem?_range (by omega)]
  rfl
/-- behind j places -/
def qrow (l l' m : List Nat) (j : Nat) : List Int := (List.range (m.length + 1)).map fun a => ((if a ≤ j then W l (m.take a) else W l' (m.take a) : Nat) : Int)
theorem qrow_zero (l l' m : List Nat) : qrow l l' m 0 = frow l' m := by
  unfold qrow frow
  refine List.map_congr_left fun a _ => ?_
  by_cases h : a ≤ 0
  · have : a = 0 := by omega
    subst this
    simp [W_nil]
  · rw [if_neg h]
theorem qrow_last (l l' m : List Nat) : qrow l l' m m.length = frow l m := by
  unfold qrow frow
  refine List.map_congr_left fun a ha => ?_
  have := List.mem_range.mp ha
  rw [if_pos (by omega)]
theorem qrow_length (l l' m : List Nat) (j : Nat) : (qrow l l' m j).length = m.length + 1 := by simp [qrow]
theorem qrow_get (l l' m : List Nat) {j a : Nat} (h : a ≤ m.length) : (qrow l l' m j)[a]? = some ((if a ≤ j then W l (m.take a) else W l' (m.take a) : Nat) : Int) := by
  unfold qrow
  rw [List.getElem?_map, List.getElem?_range (by omega)]
  rfl
theorem qrow_set (l l' m : List Nat) (j : Nat) (hj : j < m.length) : (qrow l l' m j).set (j + 1) ((W l (m.take (j + 1)) : Nat) : Int) = qrow l l' m (j + 1) := by
  apply List.ext_getElem?
  intro a
  rw [List.getElem?_set]
  by_cases ha : a ≤ m.length
  · rw [qrow_get _ _ _ ha, qrow_get _ _ _ ha]
    by_cases e : j + 1 = a
    · subst e
      rw [if_pos rfl, if_pos (by rw [qrow_length]; omega), if_pos (Nat.le_refl _)]
    · rw [if_neg e]
      by_cases h : a ≤ j
      · rw [if_pos h, if_pos (by omega)]
      · rw [if_neg h, if_neg (by omega)]
  · have h1 : (qrow l l' m j)[a]? = none := List.getElem?_eq_none (by rw [qrow_length]; omega)
    have h2 : (qrow l l' m (j + 1))[a]? = none := List.getElem?_eq_none (by rw [qrow_length]; omega)
    rw [h1, h2]
    split
    · rw [qrow_length] at *
      split <;> omega
    · rfl
theorem qrow_keep (l l' m : List Nat) (j : Nat) (hj : j < m.length) (e : W l (m.take (j + 1)) = W l' (m.take (j + 1))) : qrow l l' m (j + 1) = qrow l l' m j := by
  unfold qrow
  refine List.map_congr_left fun a ha => ?_
  by_cases h : a ≤ j
  · rw [if_pos h, if_pos (by omega)]
  · by_cases h2 : a = j + 1
    · subst h2
      rw [if_pos (Nat.le_refl _), if_neg h, e]
    · rw [if_neg h, if_neg (by omega)]
theorem frow_init (m : List Nat) : (1 : Int) :: List.replicate m.length 0 = frow [] m := by
  apply List.ext_getElem?
  intro a
  cases a with
  | zero =>
    rw [frow_get [] m (Nat.zero_le _)]
    rfl
  | succ a =>
    rw [List.getElem?_cons_succ, List.getElem?_replicate]
    by_cases h : a < m.length
    · rw [if_pos h, frow_get [] m (by omega)]
      have : W [] (m.take (a + 1)) = 0 := by
        cases m with
        | nil => simp at h
        | cons x m => rfl
      rw [this]
      rfl
    · rw [if_neg h, List.getElem?_eq_none (by rw [frow_length]; omega)]
end Lv

set_option Elab.async false
set_option linter.all false
set_option maxRecDepth 100000
set_option maxHeartbeats 4000000
namespace Lv
open PySem PySem.Spec PyProof.Rows L2 SX
local macro_rules | `(tactic| tm_at "n") => `(tactic| (first | assumption | (simp only [List.length_append, List.length_cons, List.length_nil, List.length_reverse, List.length_map, List.length_replicate, List.length_set, List.length_singleton, List.length_range, List.length_take, List.length_drop, List.length_flatten]; omega) | omega | decide))
local macro_rules | `(tactic| tm_at "z") => `(tactic| (first | exact Lv.le_line (by tm_at "n") | exact Lv.lt_line (by tm_at "n")))
local macro_rules | `(tactic| tm_at "c") => `(tactic| (first | (show (0 : Int) < _; omega) | exact ⟨by omega, by omega⟩ | exact Or.inl ⟨by omega, by omega⟩ | exact Or.inr ⟨by omega, by omega⟩ | decide))
local macro_rules | `(tactic| tm_at "s") => `(tactic| first
  | with_reducible refine Lv.i_seq ?_ | with_reducible refine Lv.i_set ?_ | with_reducible refine Lv.i_ret ?_ | with_reducible refine Lv.i_if ?_ | with_reducible refine Lv.i_drop ?_ | with_reducible refine Lv.i_next ?_
  | with_reducible refine Lv.i_brk ?_ | with_reducible refine Lv.i_cont ?_ | ((with_reducible refine' Lv.i_var ?hv ?_); (case hv => exact rfl)) | with_reducible refine Lv.i_c ?_ | with_reducible refine Lv.i_op ?_ | with_reducible refine Lv.i_un ?_
  | with_reducible refine Lv.i_cb ?_ | with_reducible refine Lv.i_call ?_ | with_reducible refine Lv.i_nil ?_ | with_reducible refine Lv.i_cons ?_ | with_reducible refine Lv.i_lst ?_ | with_reducible refine Lv.i_tup ?_
  | with_reducible refine Lv.i_bm ?_ | with_reducible refine Lv.i_bm0 ?_ | with_reducible refine Lv.i_tyS ?_ | with_reducible refine Lv.i_sl ?_ | with_reducible refine Lv.i_noPart ?_ | with_reducible refine Lv.i_part ?_ | with_reducible refine Lv.i_exI ?_
  | with_reducible refine Lv.i_bl ?_ | with_reducible refine Lv.i_test ?_ | with_reducible refine Lv.i_tB ?_ | with_reducible refine Lv.i_not ?_ | with_reducible refine Lv.i_and ?_ | with_reducible refine Lv.i_or ?_
  | with_reducible refine Lv.i_andV ?_ | with_reducible refine Lv.i_orV ?_ | with_reducible refine Lv.i_notV ?_ | with_reducible refine Lv.i_ifE ?_ | with_reducible refine Lv.i_rI0 ?_ | ((with_reducible refine Lv.i_rI ?hc ?_); (case hc => tm_at "c"))
  | with_reducible refine Lv.i_rU ?_ | with_reducible refine Lv.i_r2S ?_ | with_reducible refine Lv.i_in1 ?_ | with_reducible refine Lv.i_notIn1 ?_ | ((with_reducible refine Lv.i_addS ?hz ?_); (case hz => tm_at "z"))
  | ((with_reducible refine Lv.i_slS ?hz ?_); (case hz => tm_at "z")) | with_reducible refine Lv.i_tRevS ?_ | ((with_reducible refine Lv.i_revS ?hz ?_); (case hz => tm_at "z")) | ((with_reducible refine Lv.i_lenT ?hz ?_); (case hz => tm_at "z"))
  | ((with_reducible refine' Lv.i_aug ?hv ?_); (case hv => exact rfl)) | with_reducible refine Lv.i_ipI ?_ | with_reducible refine Lv.i_asg ?_
  | with_reducible refine Lv.i_augS ?_ | with_reducible refine Lv.i_gSub ?_ | with_reducible refine Lv.i_gName ?_ | with_reducible refine Lv.i_gCons ?_ | with_reducible refine Lv.i_gNil ?_ | with_reducible refine Lv.i_par ?_ | with_reducible refine Lv.i_intB ?_ | with_reducible refine Lv.i_r2B ?_ | with_reducible refine Lv.i_listEn ?_ | with_reducible refine Lv.i_tYes ?_ | with_reducible refine Lv.i_str ?_ | with_reducible refine Lv.i_list ?_ | with_reducible refine Lv.i_rng1 ?_ | with_reducible refine Lv.i_rng2 ?_ | with_reducible refine Lv.i_rng3 ?_ | with_reducible refine Lv.i_enumS ?_ | with_reducible refine Lv.i_enumL ?_ | with_reducible refine Lv.i_tupI ?_
  | ((with_reducible refine Lv.x_r1 ?h0 ?h1 ?_); (case h0 => first | omega | (simp; omega)); (case h1 => first | omega | (simp; omega))) | ((with_reducible refine Lv.x_r2 ?h0 ?_); (case h0 => exact ⟨by omega, by omega, by omega, by omega⟩)) | ((with_reducible refine Lv.x_dn ?h0 ?_); (case h0 => exact ⟨by omega, by omega, by omega, by omega⟩))
  | with_reducible refine Lv.x_str ?_ | with_reducible refine Lv.x_enumS ?_ | ((with_reducible refine' Lv.x_list ?h0 ?_); (case h0 => first | exact SqL.of1 (by assumption) | assumption | exact SqL.of1 upd_same)) | ((with_reducible refine' Lv.x_enumL ?h0 ?_); (case h0 => first | exact SqL.of1 (by assumption) | assumption | exact SqL.of1 upd_same))
  | ((with_reducible refine' Lv.i_ixL ?hp ?hn ?_); (case hp => first | exact SqL.of1 (by assumption) | exact SqL.of1 upd_same); (case hn => exact rfl))
  | (with_reducible refine L2.iteT ?_) | (with_reducible refine L2.iteF ?_) | (with_reducible refine Lv.iteNF ?_) | (with_reducible refine Lv.iteNT ?_) | (with_reducible refine Lv.x_nx ?_))
local macro_rules | `(tactic| tm_at "w") => `(tactic| (repeat tm_at "s"))
local macro_rules | `(tactic| tm_at "fo") => `(tactic| ((refine' Lv.fo ?a ?_); (case a => (intro R' k'; tm_at "w"; exact k'))))
local macro_rules | `(tactic| tm_at "lc") => `(tactic| ((refine' Lv.lc ?a ?_); (case a => (intro R' k'; tm_at "w"; exact k'))))
/-! ways_from_0(row, other): slots 0 row, 1 other, 2 found, 3 place, 4 at, 5 letter -/
abbrev N_ways_from_0 : List Str := ["row", "other", "found", "place", "at", "letter"]
def t_ways_from_0 (K : PySem.W.Frag) : TS :=
  (tSeq (tAsg (tLc (iRng1 (tCons (tOp Lv.rAdd (tCB Lv.rLenT (tCons (tVar 0) tNil)) (tC (.int 1))) tNil)) (gName 3) tYes (tOp L2.rCat (tOp L2.rRep (tLst (tCons (tC (.int 0)) tNil)) (tCB Lv.rLenT (tCons (tVar 1) tNil))) (tLst (tCons (tC (.int 1)) tNil))) [3]) (gName 2)) (tSeq (tFor (iRng3 (tCons (tOp Lv.rSub (tCB Lv.rLenT (tCons (tVar 0) tNil)) (tC (.int 1))) (tCons (tUn Lv.rNeg (tC (.int 1))) (tCons (tUn Lv.rNeg (tC (.int 1))) tNil)))) (gName 3) (tFor (Lv.iEnumS (tCons (tVar 1) tNil)) (gTup K 2 (gCons (gName 4) (gCons (gName 5) gNil))) (tSeq (tAsg (tOp (rIxL K) (tOp (rIxL K) (tVar 2) (tOp Lv.rAdd (tVar 3) (tC (.int 1)))) (tVar 4)) (gSub (tOp (rIxL K) (tVar 2) (tVar 3)) (tVar 4) rSetL)) (tIfS (tTest (tOp Lv.rEqS (tOp Lv.rIxT1 (tVar 0) (tVar 3)) (tVar 5))) (tAugS (tOp (rIxL K) (tVar 2) (tVar 3)) (tVar 4) (tOp (rIxL K) (tOp (rIxL K) (tVar 2) (tOp Lv.rAdd (tVar 3) (tC (.int 1)))) (tOp Lv.rAdd (tVar 4) (tC (.int 1)))) (rIxL K) (ipI fun i j => i + j) rSetL) tNext)))) (tRet (tVar 2))))
-- needs: M_ways
/-- a table of rows at the addresses rs -/
def Tab (H : Hp) (rs : List Addr) (f : Nat → List Int) : Prop := ∀ (r : Nat) (a : Addr), rs[r]? = some a → H a = some (.lst ((f r).map V.int))
theorem Tab.upd {H : Hp} {rs : List Addr} {f : Nat → List Int} (T : Tab H rs f) (nd : rs.Nodup) {k : Nat} {a : Addr} (ha : rs[k]? = some a) (v : List Int) : Tab (L2.upd H a (.lst (v.map V.int))) rs (fun r => if r = k then v else f r) := by
  intro r b hb
  by_cases e : r = k
  · subst e
    rw [ha] at hb
    cases hb
    rw [upd_same]
    simp
  · have hne : b ≠ a := by
      intro z
      subst z
      obtain ⟨h1, e1⟩ := List.getElem?_eq_some_iff.mp ha
      obtain ⟨h2, e2⟩ := List.getElem?_eq_some_iff.mp hb
      exact e ((List.getElem_inj nd).mp (e2.trans e1.symm))
    rw [upd_ne hne]
    simp only [if_neg e]
    exact T r b hb
theorem Tab.same {H H' : Hp} {rs : List Addr} {f : Nat → List Int} (T : Tab H rs f) (s : Same H H') : Tab H' rs f := fun r a h => s _ _ (T r a h)
theorem Tab.congr {H : Hp} {rs : List Addr} {f g : Nat → List Int} (T : Tab H rs f) (h : ∀ r, r < rs.length → f r = g r) : Tab H rs g := fun r a ha => by
  rw [← h r (List.getElem?_eq_some_iff.mp ha).1]
  exact T r a ha
theorem Tab.updN {H : Hp} {rs : List Addr} {f : Nat → List Int} (T : Tab H rs f) {p : Addr} {o : HO} (n : p ∉ rs) : Tab (L2.upd H p o) rs f := fun r a h => by
  rw [upd_ne fun z => n (by rw [← z]; exact List.mem_of_getElem? h)]
  exact T r a h
def sp_ways_from_0 (K : PySem.W.Frag) : Sp := fun vs H Q _ => ∃ (l m : List Nat), vs = [.str (S l), .str (S m)] ∧ l.length ≤ 1000 ∧ m.length ≤ 1000 ∧
  ∀ (p : Addr) (rs : List Addr) (H' : Hp), H p = none → Same H H' → rs.length = l.length + 1 → H' p = some (.lst (rs.map V.ref)) → Tab H' rs (fun r => wrow (l.drop r) m) → Q (.ref p) H'
theorem rep_ints (n : Nat) (k : Int) : (List.replicate n [V.int k]).flatten = (List.replicate n k).map V.int := by
  induction n with
  | zero => rfl
  | succ n ih => rw [List.replicate_succ, List.flatten_cons, ih, List.replicate_succ]; rfl
theorem pure_ways_from_0 {K : PySem.W.Frag} (vs : List V) (H : Hp) (Q : VK) (E : XK) (h : sp_ways_from_0 K vs H Q E) : t_ways_from_0 K { nx := fun _ H' => Q .non H', rt := Q } (start N_ways_from_0 vs) H := by
  obtain ⟨l, m, rfl, hl, hm, q⟩ := h
  unfold t_ways_from_0
  tm_at "w"
  tm_at "lc"
  -- the rows made
  refine c_r fun D nD => ⟨fun i acc H' => Same H H' ∧ ∃ rs : List Addr, acc = rs.map V.ref ∧ rs.length = i ∧ rs.Nodup ∧ D ∉ rs ∧ (∀ a ∈ rs, H a = none) ∧ Tab H' rs (fun _ => wrow [] m), ⟨same_new nD, [], rfl, rfl, List.nodup_nil, by simp, by simp, fun r a h => by simp at h⟩, ?_, ?_⟩
  · rintro i acc x H0 H' hi hacc hD ⟨sm, rs, rfl, hrl, nd, hDn, hnew, T⟩ ⟨rfl, rfl⟩
    tm_at "w"
    refine ⟨rfl, ?_⟩
    tm_at "w"
    refine ⟨by tm_at "z", fun p1 n1 => ?_⟩
    tm_at "w"
    refine i_rep upd_same (by omega) (by omega) (le_line (by simp; omega)) fun p2 n2 => ?_
    tm_at "w"
    refine ⟨by tm_at "z", fun p3 n3 => ?_⟩
    rw [Int.toNat_natCast, rep_ints] at *
    have s1 := same_new (o := .lst [V.int 0]) n1
    have s2 := same_new (o := .lst ((List.replicate m.length (0 : Int)).map V.int)) n2
    have s3 := same_new (o := .lst [V.int 1]) n3
    refine i_cat (s3 _ _ upd_same) upd_same (le_line (by simp; omega)) fun p4 n4 => ?_
    have s4 := same_new (o := .lst ((List.replicate m.length (0 : Int)).map V.int ++ [V.int 1])) n4
    have e : (List.replicate m.length (0 : Int)).map V.int ++ [V.int 1] = (wrow [] m).map V.int := by rw [← wrow_init, List.map_append]; rfl
    rw [e] at s4 ⊢
    have s := s1.trans (s2.trans (s3.trans s4))
    have nH' : H' p4 = none := (s1.trans (s2.trans s3)).free n4
    have nH : H p4 = none := sm.free nH'
    have nDp : D ≠ p4 := ne_of_none hD nH'
    have np4 : p4 ∉ rs := fun z => by
      obtain ⟨r, hr⟩ := List.mem_iff_getElem?.mp z
      rw [T r p4 hr] at nH'
      cases nH'
    refine lc_put (s _ _ hD) hacc (by omega) ⟨(sm.trans s).updN nD, rs ++ [p4], by rw [List.map_append]; rfl, by simp [hrl], ?_, ?_, ?_, ?_⟩
    · rw [List.nodup_append]
      exact ⟨nd, by simp, fun a ha b hb => by rw [List.mem_singleton.mp hb]; exact fun z => np4 (z ▸ ha)⟩
    · intro z
      rcases List.mem_append.mp z with z | z
      · exact hDn z
      · exact nDp (List.mem_singleton.mp z)
    · intro a ha
      rcases List.mem_append.mp ha with z | z
      · exact hnew a z
      · rw [List.mem_singleton.mp z]; exact nH
    · refine Tab.updN (fun r a hr => ?_) ?_
      · by_cases z : r < rs.length
        · rw [List.getElem?_append_left z] at hr
          exact (T.same s) r a hr
        · rw [List.getElem?_append_right (by omega)] at hr
          have : p4 = a := by
            rcases Nat.eq_zero_or_pos (r - rs.length) with e0 | e0
            · rw [e0] at hr; exact Option.some.inj hr
            · rw [List.getElem?_eq_none (by simp; omega)] at hr; cases hr
          rw [← this]
          exact upd_same
      · intro z
        rcases List.mem_append.mp z with z | z
        · exact hDn z
        · exact nDp (List.mem_singleton.mp z)
  · rintro acc H1 hacc hD ⟨sm, rs, rfl, hrl, nd, hDn, hnew, T⟩
    have hrl' : rs.length = l.length + 1 := by omega
    tm_at "w"
    tm_at "fo"
    refine f_c ⟨fun i σ H' => ∃ v3 v4 v5 : Option V, σ = [some (.str (S l)), some (.str (S m)), some (.ref D), v3, v4, v5] ∧ Same H H' ∧ H' D = some (.lst (rs.map V.ref)) ∧ Tab H' rs (fun r => if l.length - i ≤ r then wrow (l.drop r) m else wrow [] m),
      ⟨none, none, none, rfl, sm, hD, T.congr fun r hr => ?_⟩, ?_, ?_⟩
    · by_cases z : l.length - 0 ≤ r
      · rw [if_pos z, List.drop_of_length_le (by omega)]
      · rw [if_neg z]
    · rintro i x σ H0 H' hi ⟨v3, v4, v5, rfl, sm', hD', T'⟩ ⟨rfl, rfl⟩
      obtain ⟨pl, epl⟩ : ∃ pl : Nat, l.length = pl + 1 + i := ⟨l.length - 1 - i, by omega⟩
      have e3 : (l.length : Int) - 1 + (i : Int) * -1 = (pl : Int) := by omega
      rw [e3]
      have hpl : pl < l.length := by omega
      obtain ⟨a, ha⟩ : ∃ a, rs[pl]? = some a := ⟨_, List.getElem?_eq_getElem (by omega)⟩
      obtain ⟨b, hb⟩ : ∃ b, rs[pl + 1]? = some b := ⟨_, List.getElem?_eq_getElem (by omega)⟩
      have hab : b ≠ a := fun z => by
        subst z
        obtain ⟨h1, e1⟩ := List.getElem?_eq_some_iff.mp ha
        obtain ⟨h2, e2⟩ := List.getElem?_eq_some_iff.mp hb
        have := (List.getElem_inj nd).mp (e2.trans e1.symm)
        omega
      have hDa : D ≠ a := fun z => hDn (z ▸ List.mem_of_getElem? ha)
      have hl3 : l[pl]? = some l[pl] := List.getElem?_eq_getElem hpl
      tm_at "w"
      tm_at "fo"
      refine f_t ⟨fun j σ H2 => ∃ v4 v5 : Option V, σ = [some (.str (S l)), some (.str (S m)), some (.ref D), some (.int (pl : Int)), v4, v5] ∧ Same H H2 ∧ H2 D = some (.lst (rs.map V.ref)) ∧
        Tab H2 rs (fun r => if r = pl then prow (l.drop pl) m j else if l.length - i ≤ r then wrow (l.drop r) m else wrow [] m), ⟨v4, v5, rfl, sm', hD', T'.congr fun r hr => ?_⟩, ?_, ?_⟩
      · by_cases z : r = pl
        · subst z
          rw [if_pos rfl, prow_zero, if_neg (by omega)]
        · rw [if_neg z]
      · rintro j x σ H2 H3 hj ⟨v4, v5, rfl, sm2, hD2, T2⟩ ⟨t, xs, rfl, nt, rfl, c, hc, rfl⟩
        have st := same_new (o := .tup [V.int (j : Nat), .str (S [c])]) nt
        have hD3 := st _ _ hD2
        have T3 := T2.same st
        have sm3 := sm2.trans st
        have at_ : upd H2 t (.tup [V.int (j : Nat), .str (S [c])]) t = some (.tup [V.int (j : Nat), .str (S [c])]) := upd_same
        generalize upd H2 t (.tup [V.int (j : Nat), .str (S [c])]) = H4 at *
        clear st T2 hD2 sm2 nt
        have ga := T3 pl a ha
        have gb := T3 (pl + 1) b hb
        simp only [if_true] at ga
        dsimp only at gb
        rw [if_neg (by omega), if_pos (by omega)] at gb
        have gj : ∀ k : Nat, k ≤ m.length → atI ((wrow (l.drop (pl + 1)) m).map V.int) (k : Int) = some (.int ((W (l.drop (pl + 1)) (m.drop k) : Nat) : Int)) := fun k hk => atI_nat (by rw [List.getElem?_map, wrow_get _ _ hk]; rfl)
        have rr : ∀ (k : Nat) (z : Addr), rs[k]? = some z → atI (rs.map V.ref) (k : Int) = some (.ref z) := fun k z hz => atI_nat (by rw [List.getElem?_map, hz]; rfl)
        refine i_gTup (SqT.of1 at_) rfl ?_
        tm_at "w"
        refine i_ixL (SqL.of1 hD3) (rr (pl + 1) b hb) ?_
        tm_at "w"
        refine i_ixL (SqL.of1 gb) (gj j (by omega)) ?_
        tm_at "w"
        refine i_ixL (SqL.of1 hD3) (rr pl a ha) ?_
        tm_at "w"
        refine i_setL (j := j) ga (by rw [List.length_map, prow_length]; exact ix_nat (by omega)) ?_
        tm_at "w"
        refine i_ixS (le_line (by omega)) (atI_nat hl3) ?_
        tm_at "w"
        have fin : ∀ v : Int, v = ((W (l.drop pl) (m.drop j) : Nat) : Int) → ∃ v4 v5 : Option V, [some (V.str (S l)), some (.str (S m)), some (.ref D), some (.int (pl : Int)), some (.int (j : Nat)), some (.str (S [c]))] = [some (.str (S l)), some (.str (S m)), some (.ref D), some (.int (pl : Int)), v4, v5] ∧ Same H (upd H4 a (.lst (((prow (l.drop pl) m j).set j v).map V.int))) ∧ (upd H4 a (.lst (((prow (l.drop pl) m j).set j v).map V.int))) D = some (.lst (rs.map V.ref)) ∧
            Tab (upd H4 a (.lst (((prow (l.drop pl) m j).set j v).map V.int))) rs (fun r => if r = pl then prow (l.drop pl) m (j + 1) else if l.length - i ≤ r then wrow (l.drop r) m else wrow [] m) := by
          intro v hv
          refine ⟨_, _, rfl, sm3.updN (hnew a (List.mem_of_getElem? ha)), by rw [upd_ne hDa]; exact hD3, (T3.upd nd ha _).congr fun r hr => ?_⟩
          by_cases z : r = pl
          · rw [if_pos z, if_pos z, hv, prow_set _ _ _ hj]
          · rw [if_neg z, if_neg z, if_neg z]
        refine if_dec (fun z => ?_) (fun z => ?_)
        · have zc : l[pl] = c := by injection z
          tm_at "w"
          refine i_ixL (SqL.of1 (by rw [upd_ne hDa]; exact hD3)) (rr pl a ha) ?_
          tm_at "w"
          refine i_ixL (v := .int ((W (l.drop (pl + 1)) (m.drop j) : Nat) : Int)) (SqL.of1 upd_same) (atI_nat (by rw [List.getElem?_set_self (by rw [List.length_map, prow_length]; omega)])) ?_
          tm_at "w"
          refine i_ixL (SqL.of1 (by rw [upd_ne hDa]; exact hD3)) (rr (pl + 1) b hb) ?_
          tm_at "w"
          refine i_ixL (SqL.of1 (by rw [upd_ne hab]; exact gb)) (gj (j + 1) (by omega)) ?_
          tm_at "w"
          refine i_setL (j := j) upd_same (by rw [List.length_set, List.length_map, prow_length]; exact ix_nat (by omega)) ?_
          tm_at "w"
          rw [upd_upd, List.set_set, ← List.map_set]
          refine fin _ ?_
          rw [W_drop hl3 hc, if_pos zc]
          omega
        · have zc : l[pl] ≠ c := fun y => z (by rw [y])
          tm_at "w"
          rw [← List.map_set]
          refine fin _ ?_
          rw [W_drop hl3 hc, if_neg zc]
          omega
      · rintro σ H2 ⟨v4, v5, rfl, sm2, hD2, T2⟩
        refine ⟨_, v4, v5, rfl, sm2, hD2, T2.congr fun r hr => ?_⟩
        by_cases z : r = pl
        · subst z
          rw [if_pos rfl, prow_last, if_pos (by omega)]
        · rw [if_neg z]
          by_cases y : l.length - i ≤ r
          · rw [if_pos y, if_pos (by omega)]
          · rw [if_neg y, if_neg (by omega)]
    · rintro σ H' ⟨v3, v4, v5, rfl, sm', hD', T'⟩
      tm_at "w"
      refine q D rs H' nD sm' hrl' hD' (T'.congr fun r hr => ?_)
      rw [if_pos (by omega)]
/-! many_ways_0(row, other): slots 0 row, 1 other -/
abbrev N_many_ways_0 : List Str := ["row", "other"]
def t_many_ways_0 (K : PySem.W.Frag) : TS :=
  (tRet (tOp (rIxL K) (tOp (rIxL K) (tCall (sp_ways_from_0 K) [] E0 (tCons (tVar 0) (tCons (tVar 1) tNil))) (tC (.int 0))) (tC (.int 0))))
-- needs: M_ways
def sp_many_ways_0 (K : PySem.W.Frag) : Sp := fun vs H Q _ => ∃ (l m : List Nat), vs = [.str (S l), .str (S m)] ∧ l.length ≤ 1000 ∧ m.length ≤ 1000 ∧ ∀ H', Same H H' → Q (.int ((W l m : Nat) : Int)) H'
theorem i_many_ways_0 {K : PySem.W.Frag} {l m : List Nat} {H : Hp} {Q : VK} {E : XK} (h1 : l.length ≤ 1000) (h2 : m.length ≤ 1000) (q : ∀ H', Same H H' → Q (.int ((W l m : Nat) : Int)) H') : sp_many_ways_0 K [.str (S l), .str (S m)] H Q E := ⟨l, m, rfl, h1, h2, q⟩
theorem pure_many_ways_0 {K : PySem.W.Frag} (vs : List V) (H : Hp) (Q : VK) (E : XK) (h : sp_many_ways_0 K vs H Q E) : t_many_ways_0 K { nx := fun _ H' => Q .non H', rt := Q } (start N_many_ways_0 vs) H := by
  obtain ⟨l, m, rfl, hl, hm, q⟩ := h
  unfold t_many_ways_0
  tm_at "w"
  refine ⟨l, m, rfl, hl, hm, fun p rs H' np sm hrl hp T => ?_⟩
  tm_at "w"
  obtain ⟨a, ha⟩ : ∃ a, rs[0]? = some a := ⟨_, List.getElem?_eq_getElem (by omega)⟩
  refine i_ixL (v := .ref a) (SqL.of1 hp) (atI_nat (j := 0) (by rw [List.getElem?_map, ha]; rfl)) ?_
  tm_at "w"
  refine i_ixL (v := .int ((W l m : Nat) : Int)) (SqL.of1 (T 0 a ha)) (atI_nat (j := 0) (by rw [List.getElem?_map]; show Option.map V.int (wrow (l.drop 0) m)[0]? = _; rw [wrow_get _ _ (Nat.zero_le _)]; rfl)) ?_
  exact q H' sm
/-! law_hand_1(cell, k): slots 0 cell, 1 k, 2 digits -/
abbrev N_law_hand_1 : List Str := ["cell", "k", "digits"]
def t_law_hand_1 (K : PySem.W.Frag) : TS :=
  (tSeq (tAsg (tC (.int 0)) (gName 2)) (Evl.tCut (tIfS (tTest (tOp Lv.rGe (tVar 0) (tOp Lv.rPow (tC (.int 10)) (tC (.int 18))))) (tAsg (tVar 0) (gName 2)) tNext) (tRet (tLst (tCons (tVar 2) (tCons (tOp Lv.rMod (tOp Lv.rMul (tOp Lv.rAdd (tOp Lv.rAdd (tOp Lv.rMod (tVar 0) (tC (.int 2147483563))) (tOp Lv.rMul (tC (.int 6271)) (tVar 1))) (tC (.int 3))) (tC (.int 40014))) (tC (.int 2147483563))) tNil))))))
/-- a new hand -/
def sp_law_hand_1 (K : PySem.W.Frag) : Sp := fun vs H Q _ => ∃ (c k : Int), vs = [.int c, .int k] ∧ ∀ p H', H p = none → Hd H' p → Same H H' → Q (.ref p) H'
theorem i_law_hand_1 {K : PySem.W.Frag} {c k : Int} {H : Hp} {Q : VK} {E : XK} (q : ∀ p H', H p = none → Hd H' p → Same H H' → Q (.ref p) H') : sp_law_hand_1 K [.int c, .int k] H Q E := ⟨c, k, rfl, q⟩
theorem pure_law_hand_1 {K : PySem.W.Frag} (vs : List V) (H : Hp) (Q : VK) (E : XK) (h : sp_law_hand_1 K vs H Q E) : t_law_hand_1 K { nx := fun _ H' => Q .non H', rt := Q } (start N_law_hand_1 vs) H := by
  obtain ⟨c, k, rfl, q⟩ := h
  unfold t_law_hand_1
  tm_at "w"
  refine ⟨fun σ' H' => ∃ d : Int, 0 ≤ d ∧ σ' = [some (.int c), some (.int k), some (.int d)] ∧ H' = H, ?_, ?_⟩
  · tm_at "w"
    refine if_dec (fun e => ?_) (fun e => ?_)
    · tm_at "w"
      have e' : (1000000000000000000 : Int) ≤ c := e
      exact ⟨c, by omega, rfl, rfl⟩
    · tm_at "w"
      exact ⟨0, by omega, rfl, rfl⟩
  · rintro σ' H' ⟨d, hd, rfl, rfl⟩
    tm_at "w"
    refine ⟨by tm_at "z", fun p np => ?_⟩
    refine q p _ np ⟨d, _, upd_same, hd, Int.emod_nonneg _ (by omega), ?_⟩ (same_new np)
    have := Int.emod_lt_of_pos ((c % 2147483563 + 6271 * k + 3) * 40014) (show (0 : Int) < 2147483563 by decide)
    omega
/-! law_cells_0(script, many): slots 0 script, 1 many -/
abbrev N_law_cells_0 : List Str := ["script", "many"]
def t_law_cells_0 (K : PySem.W.Frag) : TS :=
  (tRet (Lv.tListEn K (tOp L2.rCat (tSl (rSlL K) (tVar 0) tNoPart (tPart (tVar 1))) (tOp L2.rRep (tLst (tCons (tC (.int 0)) tNil)) (tCB Lv.rIntB (tCons (tOp (Lv.rEqL K) (tVar 0) (tLst tNil)) tNil))))))
/-- the first cells with their places, one more where there are none: at most n + 1 of them -/
def sp_law_cells_0 (K : PySem.W.Frag) : Sp := fun vs H Q _ => ∃ (a : Addr) (ns : List Int) (n : Nat), vs = [.ref a, .int (n : Int)] ∧ SqL K H a (ns.map V.int) ∧ n ≤ 1000 ∧ ns.length ≤ 1000 ∧
  ∀ (H' : Hp) (p : Addr) (ts : List Addr) (cs : List Int), Same H H' → H p = none → ts.length = cs.length → cs.length ≤ 1000 → H' p = some (.lst (ts.map V.ref)) → (∀ (j : Nat) (t : Addr) (c : Int), ts[j]? = some t → cs[j]? = some c → H' t = some (.tup [.int (j : Int), .int c])) → Q (.ref p) H'
theorem pure_law_cells_0 {K : PySem.W.Frag} (vs : List V) (H : Hp) (Q : VK) (E : XK) (h : sp_law_cells_0 K vs H Q E) : t_law_cells_0 K { nx := fun _ H' => Q .non H', rt := Q } (start N_law_cells_0 vs) H := by
  obtain ⟨a, ns, n, rfl, hS, hn, hl, q⟩ := h
  unfold t_law_cells_0
  tm_at "w"
  refine i_slL hS fun p np => ?_
  have s1 := same_new (o := .lst (cutV (ns.map V.int) none (some (n : Int)))) np
  tm_at "w"
  refine ⟨by tm_at "z", fun p2 np2 => ?_⟩
  have s2 := same_new (o := .lst [.int 0]) np2
  tm_at "w"
  refine ⟨by tm_at "z", fun p3 np3 => ?_⟩
  have s3 := same_new (o := .lst []) np3
  refine i_r2L (ns := ns) (ms := []) ((s1.trans (s2.trans s3)).seq hS) (SqL.of1 upd_same) ?_
  tm_at "w"
  refine i_rep (s3 _ _ upd_same) ?_ ?_ ?_ fun p4 np4 => ?_
  · split <;> omega
  · split <;> omega
  · refine le_line ?_
    split <;> decide
  · have s4 := same_new (o := .lst (List.replicate (Int.toNat (if decide (ns = []) = true then 1 else 0)) [V.int 0]).flatten) np4
    refine i_cat ((s2.trans (s3.trans s4)) _ _ upd_same) upd_same ?_ fun p5 np5 => ?_
    · refine le_line ?_
      have h1 := cutV_length (ns.map V.int) none (some (n : Int))
      rw [List.length_map] at h1
      have h2 : (List.replicate (Int.toNat (if decide (ns = []) = true then 1 else 0)) [V.int 0]).flatten.length ≤ 1 := by
        split <;> decide
      omega
    · have s5 := same_new (o := .lst (cutV (ns.map V.int) none (some (n : Int)) ++ (List.replicate (Int.toNat (if decide (ns = []) = true then 1 else 0)) [V.int 0]).flatten)) np5
      have e : cutV (ns.map V.int) none (some (n : Int)) ++ (List.replicate (Int.toNat (if decide (ns = []) = true then 1 else 0)) [V.int 0]).flatten = (cutL ns none (some (n : Int)) ++ (if ns = [] then [0] else [])).map V.int := by
        rw [List.map_append, cutV_map]
        by_cases h : ns = []
        · subst h; rfl
        · simp [h]
      have s := s1.trans (s2.trans (s3.trans (s4.trans s5)))
      refine ⟨p5, _, rfl, SqL.of1 (upd_same.trans (by rw [e])), fun H' p6 ts sm np6 hlen hp ht => ?_⟩
      refine q H' p6 ts _ (s.trans sm) (s.free np6) (by rw [hlen, List.length_map]) ?_ hp fun j t c h1 h2 => ht j t _ h1 (by rw [List.getElem?_map, h2]; rfl)
      rw [List.length_append]
      have h1 := cutL_length ns none (some (n : Int))
      have h2 : (if ns = [] then [(0 : Int)] else []).length ≤ 1 := by split <;> decide
      by_cases h : ns = []
      · subst h; simp [cutL]
      · rw [if_neg h]; simp only [List.length_nil]; omega
/-- a law's own walk over its cells -/
theorem cells_for {K : PySem.W.Frag} {tb : TS} {D : Ends} {σ : L2.St} {H : Hp} {a : Addr} {ns : List Int} {z : Int} {x1 x2 : Nat} (hv : σ[0]? = some (some (.ref a))) (hS : SqL K H a (ns.map V.int)) (hz : 0 ≤ z ∧ z ≤ 1000) (hl : ns.length ≤ 63)
    (P : Hp → Nat → L2.St → Hp → Prop) (h0 : ∀ H1, Same H H1 → P H1 0 σ H1) (hs : ∀ H1 i σ H', P H1 i σ H' → Same H1 H')
    (step : ∀ H1 i (c : Int) σ H' (D' : Ends), Same H H1 → P H1 i σ H' → D'.nx = P H1 (i + 1) → D'.rt = D.rt → tb D' ((σ.set x1 (some (.int (i : Nat)))).set x2 (some (.int c))) H')
    (last : ∀ H1 i σ H', Same H H1 → P H1 i σ H' → D.nx σ H') :
    tFor (iList K (tCall (sp_law_cells_0 K) [] E0 (tCons (tVar 0) (tCons (tC (.int z)) tNil)))) (gTup K 2 (gCons (gName x1) (gCons (gName x2) gNil))) tb D σ H := by
  refine foM (fun J H1 => ∃ (p : Addr) (ts : List Addr) (cs : List Int), J = Itl K p ∧ Same H H1 ∧ ts.length = cs.length ∧ H1 p = some (.lst (ts.map V.ref)) ∧ (∀ (j : Nat) (t : Addr) (c : Int), ts[j]? = some t → cs[j]? = some c → H1 t = some (.tup [.int (j : Int), .int c]))) (fun R k => ?_) ?_
  · obtain ⟨n, rfl⟩ := Int.eq_ofNat_of_zero_le hz.1
    refine i_list ?_
    refine i_call ?_
    refine i_cons ?_
    refine i_var hv ?_
    tm_at "w"
    refine ⟨a, ns, n, rfl, hS, by omega, by omega, fun H' p ts cs sm np hlen hle hp ht => ?_⟩
    refine ⟨p, rfl, ⟨_, SqL.of1 hp⟩, ?_⟩
    exact k _ _ ⟨p, ts, cs, rfl, sm, hlen, hp, ht⟩
  · rintro J H1 ⟨p, ts, cs, rfl, sm, hlen, hp, ht⟩
    refine f_l (xs := ts.map V.ref) ⟨P H1, h0 H1 sm, fun i σ H' _ h => SqL.of1 ((hs _ _ _ _ h) _ _ hp), ?_, fun σ H' h => last _ _ _ _ sm h⟩
    rintro i x σ H0 H' hi hP ⟨rfl, hx⟩
    rw [List.length_map] at hi
    obtain ⟨t, et⟩ : ∃ t, ts[i]? = some t := ⟨_, List.getElem?_eq_getElem hi⟩
    obtain ⟨c, ec⟩ : ∃ c, cs[i]? = some c := ⟨_, List.getElem?_eq_getElem (by omega)⟩
    rw [List.getElem?_map, et] at hx
    have ex : V.ref t = x := Option.some.inj hx
    subst ex
    refine i_gTup (SqT.of1 ((hs _ _ _ _ hP) _ _ (ht i t c et ec))) rfl ?_
    tm_at "w"
    exact step H1 i c σ H' _ sm hP rfl rfl
/-! law_draw_1(hand, limit): slots 0 hand, 1 limit, 2 got -/
abbrev N_law_draw_1 : List Str := ["hand", "limit", "got"]
def t_law_draw_1 (K : PySem.W.Frag) : TS :=
  (tSeq (tIfS (tTest (tOp Lv.rGt (tOp (rIxL K) (tVar 0) (tC (.int 0))) (tC (.int 0)))) (tSeq (tAsg (tOp Lv.rMod (tOp (rIxL K) (tVar 0) (tC (.int 0))) (tVar 1)) (gName 2)) (tSeq (tAsg (tOp Lv.rDiv (tOp (rIxL K) (tVar 0) (tC (.int 0))) (tVar 1)) (gSub (tVar 0) (tC (.int 0)) rSetL)) (tRet (tVar 2)))) tNext) (tSeq (tAsg (tOp Lv.rMod (tOp Lv.rAdd (tOp Lv.rAdd (tOp Lv.rMul (tOp (rIxL K) (tVar 0) (tC (.int 1))) (tOp (rIxL K) (tVar 0) (tC (.int 1)))) (tOp Lv.rMul (tC (.int 52774)) (tOp (rIxL K) (tVar 0) (tC (.int 1))))) (tC (.int 40692))) (tC (.int 2147483563))) (gSub (tVar 0) (tC (.int 1)) rSetL)) (tRet (tOp Lv.rMod (tOp Lv.rDiv (tOp (rIxL K) (tVar 0) (tC (.int 1))) (tC (.int 16))) (tVar 1)))))
/-- a draw below n: the hand is turned -/
def sp_law_draw_1 (K : PySem.W.Frag) : Sp := fun vs H Q _ => ∃ (h : Addr) (n : Int), vs = [.ref h, .int n] ∧ Hd H h ∧ 0 < n ∧ n < 1073741824 ∧ ∀ r H', 0 ≤ r → r < n → Hd H' h → But h H H' → Q (.int r) H'
theorem i_law_draw_1 {K : PySem.W.Frag} {h : Addr} {n : Int} {H : Hp} {Q : VK} {E : XK} (hd : Hd H h) (h0 : 0 < n) (h1 : n < 1073741824) (k : ∀ r H', 0 ≤ r → r < n → Hd H' h → But h H H' → Q (.int r) H') : sp_law_draw_1 K [.ref h, .int n] H Q E := ⟨h, n, rfl, hd, h0, h1, k⟩
theorem pure_law_draw_1 {K : PySem.W.Frag} (vs : List V) (H : Hp) (Q : VK) (E : XK) (h : sp_law_draw_1 K vs H Q E) : t_law_draw_1 K { nx := fun _ H' => Q .non H', rt := Q } (start N_law_draw_1 vs) H := by
  obtain ⟨h, n, rfl, ⟨d, m, hh, hd, hm, hm2⟩, h0, h1, k⟩ := h
  unfold t_law_draw_1
  tm_at "w"
  refine if_dec (fun c => ?_) (fun c => ?_)
  · tm_at "w"
    refine i_setL hh rfl ?_
    tm_at "w"
    exact k _ _ (Int.emod_nonneg _ (by omega)) (Int.emod_lt_of_pos _ h0) ⟨d / n, m, upd_same, Int.ediv_nonneg hd (by omega), hm, hm2⟩ But.upd
  · tm_at "w"
    refine i_setL hh rfl ?_
    tm_at "w"
    refine k _ _ (Int.emod_nonneg _ (by omega)) (Int.emod_lt_of_pos _ h0) ⟨d, _, upd_same, hd, Int.emod_nonneg _ (by omega), ?_⟩ But.upd
    have := Int.emod_lt_of_pos (m * m + 52774 * m + 40692) (show (0 : Int) < 2147483563 by decide)
    omega
/-! law_pool_0(hand): slots 0 hand, 1 small, 2 many, 3 first, 4 step, 5 k -/
abbrev N_law_pool_0 : List Str := ["hand", "small", "many", "first", "step", "k"]
def t_law_pool_0 (K : PySem.W.Frag) : TS :=
  (tSeq (tAsg (tC (.str (S [97, 98, 99, 100, 101, 102, 103, 104, 105, 106, 107, 108, 109, 110, 111, 112, 113, 114, 115, 116, 117, 118, 119, 120, 121, 122]))) (gName 1)) (tSeq (tAsg (tOp (rIxL K) (tLst (tCons (tC (.int 1)) (tCons (tC (.int 2)) (tCons (tC (.int 3)) (tCons (tC (.int 26)) tNil))))) (tCall (sp_law_draw_1 K) [] E0 (tCons (tVar 0) (tCons (tC (.int 4)) tNil)))) (gName 2)) (tSeq (tAsg (tCall (sp_law_draw_1 K) [] E0 (tCons (tVar 0) (tCons (tC (.int 26)) tNil))) (gName 3)) (tSeq (tAsg (tOp (rIxL K) (tLst (tCons (tC (.int 1)) (tCons (tC (.int 3)) (tCons (tC (.int 5)) (tCons (tC (.int 7)) (tCons (tC (.int 9)) (tCons (tC (.int 11)) tNil))))))) (tCall (sp_law_draw_1 K) [] E0 (tCons (tVar 0) (tCons (tC (.int 6)) tNil)))) (gName 4)) (tRet (tLc (iRng1 (tCons (tVar 2) tNil)) (gName 5) tYes (tOp Lv.rIxT1 (tVar 1) (tOp Lv.rMod (tOp Lv.rAdd (tVar 3) (tOp Lv.rMul (tVar 4) (tVar 5))) (tC (.int 26)))) [5]))))))
/-- a pool: one to twenty-six small letters -/
def sp_law_pool_0 (K : PySem.W.Frag) : Sp := fun vs H Q _ => ∃ (h : Addr), vs = [.ref h] ∧ Hd H h ∧ ∀ p H' cs, Hd H' h → But h H H' → H p = none → H' p = some (.lst (cs.map vc)) → 1 ≤ cs.length → cs.length ≤ 26 → Low cs → Q (.ref p) H'
theorem i_law_pool_0 {K : PySem.W.Frag} {h : Addr} {H : Hp} {Q : VK} {E : XK} (hd : Hd H h) (q : ∀ p H' cs, Hd H' h → But h H H' → H p = none → H' p = some (.lst (cs.map vc)) → 1 ≤ cs.length → cs.length ≤ 26 → Low cs → Q (.ref p) H') : sp_law_pool_0 K [.ref h] H Q E := ⟨h, rfl, hd, q⟩
theorem pure_law_pool_0 {K : PySem.W.Frag} (vs : List V) (H : Hp) (Q : VK) (E : XK) (h : sp_law_pool_0 K vs H Q E) : t_law_pool_0 K { nx := fun _ H' => Q .non H', rt := Q } (start N_law_pool_0 vs) H := by
  obtain ⟨h, rfl, hd, q⟩ := h
  unfold t_law_pool_0
  tm_at "w"
  refine ⟨by tm_at "z", fun p1 n1 => ?_⟩
  tm_at "w"
  refine i_law_draw_1 (hd.updN (hd.ne n1)) (by omega) (by omega) fun r1 H1 a1 b1 hd1 bt1 => ?_
  have B1 : But h H H1 := ((same_new n1).but).trans bt1
  refine i_pickI (ns := [1, 2, 3, 26]) 1 26 (SqL.of1 (bt1.at upd_same (hd.ne n1).symm)) a1 (by simpa using b1) (by decide) fun many m1 m2 => ?_
  tm_at "w"
  refine i_law_draw_1 hd1 (by omega) (by omega) fun first H2 a2 b2 hd2 bt2 => ?_
  tm_at "w"
  refine ⟨by tm_at "z", fun p3 n3 => ?_⟩
  tm_at "w"
  refine i_law_draw_1 (hd2.updN (hd2.ne n3)) (by omega) (by omega) fun r3 H3 a3 b3 hd3 bt3 => ?_
  have B3 : But h H H3 := B1.trans (bt2.trans (((same_new n3).but).trans bt3))
  refine i_pickI (ns := [1, 3, 5, 7, 9, 11]) 1 11 (SqL.of1 (bt3.at upd_same (hd2.ne n3).symm)) a3 (by simpa using b3) (by decide) fun step s1 s2 => ?_
  tm_at "w"
  tm_at "lc"
  refine c_r fun D nD => ⟨fun i acc H' => H' = upd H3 D (.lst acc) ∧ ∃ cs : List Nat, acc = cs.map vc ∧ cs.length = i ∧ Low cs, ⟨rfl, [], rfl, rfl, Low.nil⟩, ?_, ?_⟩
  · rintro i acc x H' H'' hi hl hD ⟨rfl, cs, rfl, hlen, lw⟩ ⟨rfl, rfl⟩
    tm_at "w"
    refine ⟨rfl, ?_⟩
    tm_at "w"
    refine i_pickS (by decide) (Int.emod_nonneg _ (by omega)) (Int.emod_lt_of_pos _ (by decide)) fun c hc => ?_
    refine lc_put hD hl (by omega) ⟨upd_upd, cs ++ [c], by rw [List.map_append]; rfl, by simp [hlen], lw.app (Low.one (low_abc c hc))⟩
  · rintro acc H' hl hD ⟨rfl, cs, rfl, hlen, lw⟩
    have nh : h ≠ D := hd3.ne nD
    have nD0 : H D = none := by
      cases e : H D with
      | none => rfl
      | some o =>
        rw [B3 D o nh.symm e] at nD
        cases nD
    exact q D _ cs (hd3.updN nh) (B3.updN nD0) nD0 hD (by omega) (by omega) lw
/-! law_row_1(hand, pool, many): slots 0 hand, 1 pool, 2 many, 3 way, 4 piece, 5 found, 6 turn, 7 k -/
abbrev N_law_row_1 : List Str := ["hand", "pool", "many", "way", "piece", "found", "turn", "k"]
def t_law_row_1 (K : PySem.W.Frag) : TS :=
  (tSeq (tAsg (tCall (sp_law_draw_1 K) [] E0 (tCons (tVar 0) (tCons (tC (.int 4)) tNil))) (gName 3)) (tSeq (tIfS (tTest (tOp Lv.rEqI (tVar 3) (tC (.int 1)))) (tSeq (tAsg (tLc (iRng1 (tCons (tOp Lv.rAdd (tC (.int 1)) (tCall (sp_law_draw_1 K) [] E0 (tCons (tVar 0) (tCons (tC (.int 4)) tNil)))) tNil)) (gName 7) tYes (tOp (rIxL K) (tVar 1) (tCall (sp_law_draw_1 K) [] E0 (tCons (tVar 0) (tCons (tCB (Lv.rLenL K) (tCons (tVar 1) tNil)) tNil)))) [7]) (gName 4)) (tRet (tBM K "str" (Lv.rJoin K) (tC (.str (S []))) (tCons (tLc (iRng1 (tCons (tVar 2) tNil)) (gName 7) tYes (tOp (rIxL K) (tVar 4) (tOp Lv.rMod (tVar 7) (tCB (Lv.rLenL K) (tCons (tVar 4) tNil)))) [7]) tNil)))) tNext) (tSeq (tIfS (tTest (tOp Lv.rEqI (tVar 3) (tC (.int 2)))) (tSeq (tAsg (tOp L2.rRep (tLst (tCons (tOp (rIxL K) (tVar 1) (tC (.int 0))) tNil)) (tVar 2)) (gName 5)) (tSeq (tFor (iRng1 (tCons (tOp Lv.rMul (tC (.int 3)) (tCB Lv.rIntB (tCons (tOp Lv.rGt (tVar 2) (tC (.int 0))) tNil))) tNil)) (gName 6) (tAsg (tOp (rIxL K) (tVar 1) (tCall (sp_law_draw_1 K) [] E0 (tCons (tVar 0) (tCons (tCB (Lv.rLenL K) (tCons (tVar 1) tNil)) tNil)))) (gSub (tVar 5) (tCall (sp_law_draw_1 K) [] E0 (tCons (tVar 0) (tCons (tVar 2) tNil))) rSetL))) (tRet (tBM K "str" (Lv.rJoin K) (tC (.str (S []))) (tCons (tVar 5) tNil))))) tNext) (tRet (tBM K "str" (Lv.rJoin K) (tC (.str (S []))) (tCons (tLc (iRng1 (tCons (tVar 2) tNil)) (gName 7) tYes (tOp (rIxL K) (tVar 1) (tCall (sp_law_draw_1 K) [] E0 (tCons (tVar 0) (tCons (tCB (Lv.rLenL K) (tCons (tVar 1) tNil)) tNil)))) [7]) tNil))))))
def sp_law_row_1 (K : PySem.W.Frag) : Sp := fun vs H Q _ => ∃ (h p : Addr) (cs : List Nat) (n : Nat), vs = [.ref h, .ref p, .int (n : Int)] ∧ Hd H h ∧ H p = some (.lst (cs.map vc)) ∧ 1 ≤ cs.length ∧ cs.length ≤ 1000 ∧ Low cs ∧ n ≤ 80 ∧
  ∀ l H', l.length = n → Low l → Hd H' h → But h H H' → Q (.str (S l)) H'
theorem i_law_row_1 {K : PySem.W.Frag} {h p : Addr} {cs : List Nat} {n : Nat} {H : Hp} {Q : VK} {E : XK} (hd : Hd H h) (hp : H p = some (.lst (cs.map vc))) (c1 : 1 ≤ cs.length) (c2 : cs.length ≤ 1000) (lw : Low cs) (hn : n ≤ 80)
  (q : ∀ l H', l.length = n → Low l → Hd H' h → But h H H' → Q (.str (S l)) H') : sp_law_row_1 K [.ref h, .ref p, .int (n : Int)] H Q E := ⟨h, p, cs, n, rfl, hd, hp, c1, c2, lw, hn, q⟩
theorem Hd.neC {H : Hp} {h p : Addr} {cs : List Nat} (hd : Hd H h) (hp : H p = some (.lst (cs.map vc))) (c1 : 1 ≤ cs.length) : p ≠ h := by
  obtain ⟨d, m, hh, _⟩ := hd
  refine ne_of hp hh fun z => ?_
  cases cs with
  | nil => simp at c1
  | cons c r =>
    injection z with z
    injection z with z1 z2
    cases z1
/-- [pool[_law_draw(hand, len(pool))] for k in range(n)] -/
theorem lc_drawn {K : PySem.W.Frag} {h p : Addr} {cs : List Nat} {n : Nat} {H : Hp} {Q : VK} {σ : L2.St} (hs0 : ∀ x, ((wipe σ [7]).set 7 (some x))[0]? = some (some (.ref h))) (hs1 : ∀ x, ((wipe σ [7]).set 7 (some x))[1]? = some (some (.ref p))) (hw : ∀ x, wipe ((wipe σ [7]).set 7 (some x)) [7] = wipe σ [7])
    (hd : Hd H h) (hp : H p = some (.lst (cs.map vc))) (c1 : 1 ≤ cs.length) (c2 : cs.length ≤ 1000) (lw : Low cs) (hn : n ≤ 1000)
    (q : ∀ D l H', H D = none → l.length = n → Low l → Hd H' h → But h H H' → H' D = some (.lst (l.map vc)) → Q (.ref D) H') :
    LcN n (YR 0) (gName 7) tYes (tOp (rIxL K) (tVar 1) (tCall (sp_law_draw_1 K) [] E0 (tCons (tVar 0) (tCons (tCB (Lv.rLenL K) (tCons (tVar 1) tNil)) tNil)))) [7] σ H Q := by
  have np : p ≠ h := hd.neC hp c1
  intro D nD
  have nh : h ≠ D := hd.ne nD
  have nDp : p ≠ D := ne_of_none hp nD
  refine ⟨fun i acc H' => Hd H' h ∧ But h H H' ∧ ∃ l : List Nat, acc = l.map vc ∧ l.length = i ∧ Low l, ⟨hd.updN nh, (But.refl _ _).updN nD, [], rfl, rfl, Low.nil⟩, ?_, ?_⟩
  · rintro i acc x H' H'' hi hl hD ⟨hd', b', l, rfl, hlen, lw'⟩ ⟨rfl, rfl⟩
    refine i_gName ⟨hw _, ?_⟩
    refine i_tYes (iteT (i_op (i_var (hs1 _) (i_call (i_cons (i_var (hs0 _) (i_cons (i_cb (i_cons (i_var (hs1 _) ?_))))))))))
    tm_at "w"
    refine i_lenL (SqL.of1 (b'.at hp np)) ?_
    tm_at "w"
    refine i_law_draw_1 hd' (by simp; omega) (by simp; omega) fun r H1 r0 r1 hd1 b1 => ?_
    refine i_pickC (cs := cs) (SqL.of1 (b1.at (b'.at hp np) np)) r0 (by simpa using r1) fun c hc => ?_
    refine lc_put (b1.at hD nh.symm) hl (by omega) ⟨hd1.updN nh, (b'.trans b1).updN nD, l ++ [c], by rw [List.map_append]; rfl, by simp [hlen], lw'.app (Low.one (lw c hc))⟩
  · rintro acc H' hl hD ⟨hd', b', l, rfl, hlen, lw'⟩
    exact q D l H' nD (by simpa using hlen) lw' hd' b' hD
theorem sum_ones {α : Type} (l : List α) (f : α → List Nat) (hf : ∀ a, (f a).length = 1) : ((l.map f).map List.length).sum = l.length := by
  induction l with
  | nil => rfl
  | cons a l ih => rw [List.map_cons, List.map_cons, List.sum_cons, ih, hf, List.length_cons, Nat.add_comm]
theorem flat_ones (l : List Nat) : (l.map fun c => [c]).flatten = l := by
  induction l with
  | nil => rfl
  | cons a l ih => rw [List.map_cons, List.flatten_cons, ih]; rfl
/-- ''.join of single signs -/
theorem i_joinC {K : PySem.W.Frag} {p : Addr} {l : List Nat} {H : Hp} {Q : VK} (h1 : SqL K H p (l.map vc)) (hz : l.length ≤ 1000000) (h : Q (.str (S l)) H) : rJoin K (.str (S [])) [.ref p] H Q := by
  refine i_join (ys := l.map fun c => [c]) (by rw [List.map_map]; exact h1) ?_ ?_
  · rw [sum_ones l _ fun _ => rfl]; simp; omega
  · rw [joinL_nil]
    rw [flat_ones]
    exact h
theorem pure_law_row_1 {K : PySem.W.Frag} (vs : List V) (H : Hp) (Q : VK) (E : XK) (h : sp_law_row_1 K vs H Q E) : t_law_row_1 K { nx := fun _ H' => Q .non H', rt := Q } (start N_law_row_1 vs) H := by
  obtain ⟨h, p, cs, n, rfl, hd, hp, c1, c2, lw, hn, q⟩ := h
  have np : p ≠ h := hd.neC hp c1
  unfold t_law_row_1
  tm_at "w"
  refine i_law_draw_1 hd (by omega) (by omega) fun way H1 a1 b1 hd1 bt1 => ?_
  have hp1 := bt1.at hp np
  tm_at "w"
  refine if_dec (fun c => ?_) (fun c => ?_)
  · tm_at "w"
    refine lcM (fun J H2 => ∃ r : Int, J = Itr 0 (1 + r).toNat ∧ 0 ≤ r ∧ r < 4 ∧ Hd H2 h ∧ But h H1 H2) (fun R' k' => ?_) ?_
    · tm_at "w"
      refine i_law_draw_1 hd1 (by omega) (by omega) fun r H2 a2 b2 hd2 bt2 => ?_
      tm_at "w"
      exact k' _ _ ⟨r, rfl, a2, b2, hd2, bt2⟩
    rintro J H2 ⟨r, rfl, a2, b2, hd2, bt2⟩
    refine c_r (lc_drawn (fun _ => rfl) (fun _ => rfl) (fun _ => rfl) hd2 (bt2.at hp1 np) c1 c2 lw (by omega) fun D l H3 nD hl lw3 hd3 bt3 hD => ?_)
    have nDh : D ≠ h := (hd2.ne nD).symm
    tm_at "w"
    tm_at "lc"
    refine c_r fun D2 nD2 => ?_
    have nD2' : H D2 = none := small_none (bt1.trans (bt2.trans bt3)) (hd3.ne nD2).symm nD2
    refine ⟨fun i acc H' => H' = upd H3 D2 (.lst acc) ∧ ∃ m : List Nat, acc = m.map vc ∧ m.length = i ∧ Low m, ⟨rfl, [], rfl, rfl, Low.nil⟩, ?_, ?_⟩
    · rintro i acc x H' H'' hi hl2 hD2 ⟨rfl, m, rfl, hlen, lw'⟩ ⟨rfl, rfl⟩
      tm_at "w"
      refine ⟨rfl, ?_⟩
      have hD' : (upd H3 D2 (.lst (m.map vc))) D = some (.lst (l.map vc)) := by rw [upd_ne (ne_of_none hD nD2)]; exact hD
      tm_at "w"
      refine i_lenL (SqL.of1 hD') ?_
      refine i_rI (by show (0 : Int) < _; rw [List.length_map]; omega) ?_
      refine i_pickC (cs := l) (SqL.of1 hD') (Int.emod_nonneg _ (by rw [List.length_map]; omega)) ?_ fun c hc => ?_
      · have := Int.emod_lt_of_pos (0 + (i : Int)) (show (0 : Int) < ((l.map vc).length : Nat) by rw [List.length_map]; omega)
        rw [List.length_map] at this ⊢
        exact this
      · exact lc_put hD2 hl2 (by omega) ⟨upd_upd, m ++ [c], by rw [List.map_append]; rfl, by simp [hlen], lw'.app (Low.one (lw3 c hc))⟩
    · rintro acc H' hl2 hD2 ⟨rfl, m, rfl, hlen, lw'⟩
      tm_at "w"
      refine i_joinC (SqL.of1 hD2) (by omega) ?_
      exact q m _ (by omega) lw' (hd3.updN (hd3.ne nD2)) ((bt1.trans (bt2.trans bt3)).updN nD2')
  · tm_at "w"
    refine if_dec (fun c => ?_) (fun c => ?_)
    · have hc0 : 0 < cs.length := by omega
      tm_at "w"
      refine i_ixL (v := vc cs[0]) (SqL.of1 hp1) (atI_nat (j := 0) (by rw [List.getElem?_map, List.getElem?_eq_getElem hc0]; rfl)) ?_
      tm_at "w"
      refine ⟨by tm_at "z", fun p1 n1 => ?_⟩
      tm_at "w"
      refine i_rep upd_same (by omega) (by omega) (le_line (by simp; omega)) fun p2 n2 => ?_
      have e : (List.replicate ((n : Int).toNat) [vc cs[0]]).flatten = (List.replicate n cs[0]).map vc := by
        rw [Int.toNat_natCast, List.map_replicate]
        clear hp hp1 q hn
        induction n with
        | zero => rfl
        | succ n ih => rw [List.replicate_succ, List.flatten_cons, ih, List.replicate_succ]; rfl
      rw [e]
      have sm := (same_new (o := .lst [vc cs[0]]) n1).trans (same_new (o := .lst ((List.replicate n cs[0]).map vc)) n2)
      have n2' : H1 p2 = none := (same_new n1).free n2
      have n2h : H p2 = none := small_none bt1 (hd1.ne n2').symm n2'
      have nh2 : h ≠ p2 := hd1.ne n2'
      have hd2 := Hd.same sm hd1
      have bt2 : But h H _ := bt1.trans sm.but
      have hl2 : (upd (upd H1 p1 (.lst [vc cs[0]])) p2 (.lst ((List.replicate n cs[0]).map vc))) p2 = some (.lst ((List.replicate n cs[0]).map vc)) := upd_same
      generalize upd (upd H1 p1 (.lst [vc cs[0]])) p2 (.lst ((List.replicate n cs[0]).map vc)) = H2 at hd2 bt2 hl2
      clear sm
      tm_at "w"
      have hm : (3 * (if decide (0 < (n : Int)) = true then 1 else 0) : Int) = (((if 0 < n then 3 else 0) : Nat) : Int) := by
        by_cases z : 0 < n
        · simp [z]
        · simp [z]
      refine fo (J := Itr 0 (if 0 < n then 3 else 0)) (H1 := H2) (fun R' k' => ?_) (f_r ?_)
      · tm_at "w"
        rw [hm, Int.toNat_natCast]
        exact k'
      refine ⟨fun i σ H' => ∃ (v6 : Option V) (l : List Nat), σ = [some (.ref h), some (.ref p), some (.int n), some (.int way), none, some (.ref p2), v6, none] ∧ Hd H' h ∧ But h H H' ∧ H' p2 = some (.lst (l.map vc)) ∧ l.length = n ∧ Low l, ?_, ?_, ?_⟩
      · refine ⟨none, List.replicate n cs[0], rfl, hd2, bt2, hl2, by simp, fun c hc => ?_⟩
        rw [(List.mem_replicate.mp hc).2]
        exact lw _ (List.getElem_mem hc0)
      · rintro i x σ H' H'' hi ⟨v6, l, rfl, hd', b', hl, hlen, lw'⟩ ⟨rfl, rfl⟩
        have hn0 : 0 < n := by
          by_cases z : 0 < n
          · exact z
          · rw [if_neg z] at hi; omega
        tm_at "w"
        refine i_lenL (SqL.of1 (b'.at hp np)) ?_
        tm_at "w"
        refine i_law_draw_1 hd' (by simp; omega) (by simp; omega) fun r H3 r0 r1 hd3 b3 => ?_
        refine i_pickC (cs := cs) (SqL.of1 (b3.at (b'.at hp np) np)) r0 (by simpa using r1) fun c hc => ?_
        tm_at "w"
        refine i_law_draw_1 hd3 (by omega) (by omega) fun r2 H4 s0 s1 hd4 b4 => ?_
        have hl4 := b4.at (b3.at hl nh2.symm) nh2.symm
        refine i_setL (j := r2.toNat) hl4 (by unfold ixN; rw [if_pos s0, List.length_map, if_pos (by omega)]) ?_
        tm_at "w"
        refine ⟨_, l.set r2.toNat c, rfl, hd4.updN nh2, (b'.trans (b3.trans b4)).updN n2h, ?_, by simp [hlen], ?_⟩
        · rw [upd_same, List.map_set]
        · intro d hdd
          rcases List.mem_or_eq_of_mem_set hdd with z | z
          · exact lw' d z
          · rw [z]; exact lw c hc
      · rintro σ H' ⟨v6, l, rfl, hd', b', hl, hlen, lw'⟩
        tm_at "w"
        refine i_joinC (SqL.of1 hl) (by omega) ?_
        exact q l _ hlen lw' hd' b'
    · tm_at "w"
      tm_at "lc"
      refine c_r (lc_drawn (fun _ => rfl) (fun _ => rfl) (fun _ => rfl) hd1 hp1 c1 c2 lw (by omega) fun D l H3 nD hl lw3 hd3 bt3 hD => ?_)
      tm_at "w"
      refine i_joinC (SqL.of1 hD) (by omega) ?_
      exact q l _ (by omega) lw3 hd3 (bt1.trans bt3)
/-! law_size_1(hand, k, most): slots 0 hand, 1 k, 2 most, 3 more, 4 size -/
abbrev N_law_size_1 : List Str := ["hand", "k", "most", "more", "size"]
def t_law_size_1 (K : PySem.W.Frag) : TS :=
  (tSeq (tIfS (tAnd (tTest (tOp Lv.rEqI (tVar 1) (tC (.int 0)))) (tTest (tOp Lv.rEqI (tCall (sp_law_draw_1 K) [] E0 (tCons (tVar 0) (tCons (tC (.int 8)) tNil))) (tC (.int 1))))) (tSeq (tAsg (tCall (sp_law_draw_1 K) [] E0 (tCons (tVar 0) (tCons (tC (.int 81)) tNil))) (gName 3)) (tRet (tOp (rIxL K) (tLst (tCons (tC (.int 80)) (tCons (tVar 3) tNil))) (tCall (sp_law_draw_1 K) [] E0 (tCons (tVar 0) (tCons (tC (.int 2)) tNil)))))) tNext) (tSeq (tAsg (tCall (sp_law_draw_1 K) [] E0 (tCons (tVar 0) (tCons (tC (.int 3)) tNil))) (gName 4)) (tRet (tCall (sp_law_draw_1 K) [] E0 (tCons (tVar 0) (tCons (tOp (rIxL K) (tLst (tCons (tC (.int 4)) (tCons (tC (.int 8)) (tCons (tOp Lv.rAdd (tVar 2) (tC (.int 1))) tNil)))) (tVar 4)) tNil))))))
def sp_law_size_1 (K : PySem.W.Frag) : Sp := fun vs H Q _ => ∃ (h : Addr) (k m : Int), vs = [.ref h, .int k, .int m] ∧ Hd H h ∧ 0 ≤ m ∧ m ≤ 80 ∧ ∀ r H', 0 ≤ r → r ≤ 80 → Hd H' h → But h H H' → Q (.int r) H'
theorem i_law_size_1 {K : PySem.W.Frag} {h : Addr} {k m : Int} {H : Hp} {Q : VK} {E : XK} (hd : Hd H h) (h0 : 0 ≤ m) (h1 : m ≤ 80) (q : ∀ r H', 0 ≤ r → r ≤ 80 → Hd H' h → But h H H' → Q (.int r) H') : sp_law_size_1 K [.ref h, .int k, .int m] H Q E := ⟨h, k, m, rfl, hd, h0, h1, q⟩
theorem pure_law_size_1 {K : PySem.W.Frag} (vs : List V) (H : Hp) (Q : VK) (E : XK) (h : sp_law_size_1 K vs H Q E) : t_law_size_1 K { nx := fun _ H' => Q .non H', rt := Q } (start N_law_size_1 vs) H := by
  obtain ⟨h, k, m, rfl, hd, m0, m1, q⟩ := h
  unfold t_law_size_1
  refine i_seq (if_cut (fun _ H1 => Hd H1 h ∧ But h H H1) (fun Q' k' => ?_) (fun H1 ⟨hd1, b1⟩ => ?_) (fun H1 ⟨hd1, b1⟩ => ?_))
  · tm_at "w"
    refine if_dec (fun c => ?_) (fun c => ?_)
    · tm_at "w"
      refine i_law_draw_1 hd (by omega) (by omega) fun r1 H1 a1 c1 hd1 b1 => ?_
      tm_at "w"
      exact k' _ _ ⟨hd1, b1⟩
    · exact k' _ _ ⟨hd, But.refl _ _⟩
  · tm_at "w"
    refine i_law_draw_1 hd1 (by omega) (by omega) fun r2 H2 a2 c2 hd2 b2 => ?_
    tm_at "w"
    refine ⟨by tm_at "z", fun p n => ?_⟩
    tm_at "w"
    refine i_law_draw_1 (hd2.updN (hd2.ne n)) (by omega) (by omega) fun r3 H3 a3 c3 hd3 b3 => ?_
    refine i_pickI (ns := [80, r2]) 0 80 (SqL.of1 (b3.at upd_same (hd2.ne n).symm)) a3 (by simpa using c3) ?_ fun w w0 w1 => ?_
    · intro x hx
      simp only [List.mem_cons, List.not_mem_nil, or_false] at hx
      omega
    · exact q w H3 w0 w1 hd3 (b1.trans (b2.trans ((same_new n).but.trans b3)))
  · tm_at "w"
    refine i_law_draw_1 hd1 (by omega) (by omega) fun r2 H2 a2 c2 hd2 b2 => ?_
    tm_at "w"
    refine ⟨by tm_at "z", fun p n => ?_⟩
    tm_at "w"
    refine i_pickI (ns := [4, 8, m + 1]) 1 81 (SqL.of1 upd_same) a2 (by simpa using c2) ?_ fun w w0 w1 => ?_
    · intro x hx
      simp only [List.mem_cons, List.not_mem_nil, or_false] at hx
      omega
    · tm_at "w"
      refine i_law_draw_1 (hd2.updN (hd2.ne n)) (by omega) (by omega) fun r3 H3 a3 c3 hd3 b3 => ?_
      exact q r3 H3 a3 (by omega) hd3 (b1.trans (b2.trans ((same_new n).but.trans b3)))
/-! law_other_1(hand, pool, row, k): slots 0 hand, 1 pool, 2 row, 3 k, 4 share, 5 left, 6 at, 7 letter, 8 drawn, 9 some -/
abbrev N_law_other_1 : List Str := ["hand", "pool", "row", "k", "share", "left", "at", "letter", "drawn", "some"]
def t_law_other_1 (K : PySem.W.Frag) : TS :=
  (tSeq (tAsg (tOp Lv.rAdd (tC (.int 1)) (tCall (sp_law_draw_1 K) [] E0 (tCons (tVar 0) (tCons (tC (.int 9)) tNil)))) (gName 4)) (tSeq (tAsg (tBM K "str" (Lv.rJoin K) (tC (.str (S []))) (tCons (tLc (iStr (tVar 2)) (gName 7) (tTest (tOp Lv.rLt (tCall (sp_law_draw_1 K) [] E0 (tCons (tVar 0) (tCons (tC (.int 10)) tNil))) (tVar 4))) (tVar 7) [7]) tNil)) (gName 5)) (tSeq (tAsg (tCall (sp_law_draw_1 K) [] E0 (tCons (tVar 0) (tCons (tOp Lv.rAdd (tCB Lv.rLenT (tCons (tVar 5) tNil)) (tC (.int 1))) tNil))) (gName 6)) (tSeq (tAsg (tOp Lv.rIxT1 (tC (.str (S [97, 98, 99, 100, 101, 102, 103, 104, 105, 106, 107, 108, 109, 110, 111, 112, 113, 114, 115, 116, 117, 118, 119, 120, 121, 122]))) (tCall (sp_law_draw_1 K) [] E0 (tCons (tVar 0) (tCons (tC (.int 26)) tNil)))) (gName 7)) (tSeq (tAsg (tCall (sp_law_row_1 K) [] E0 (tCons (tVar 0) (tCons (tVar 1) (tCons (tCall (sp_law_size_1 K) [] E0 (tCons (tVar 0) (tCons (tVar 3) (tCons (tC (.int 20)) tNil)))) tNil)))) (gName 8)) (tSeq (tAsg (tLst (tCons (tVar 5) (tCons (tVar 5) (tCons (tOp Lv.rAddS (tOp Lv.rAddS (tSl Lv.rSlS1 (tVar 5) tNoPart (tPart (tVar 6))) (tVar 7)) (tSl Lv.rSlS1 (tVar 5) (tPart (tOp Lv.rAdd (tVar 6) (tC (.int 1)))) tNoPart)) (tCons (tOp Lv.rAddS (tOp Lv.rAddS (tSl Lv.rSlS1 (tVar 5) tNoPart (tPart (tVar 6))) (tVar 7)) (tSl Lv.rSlS1 (tVar 5) (tPart (tVar 6)) tNoPart)) (tCons (tVar 2) (tCons (tVar 8) tNil))))))) (gName 9)) (tRet (tSl Lv.rSlS1 (tOp (rIxL K) (tVar 9) (tCall (sp_law_draw_1 K) [] E0 (tCons (tVar 0) (tCons (tC (.int 6)) tNil)))) tNoPart (tPart (tC (.int 80)))))))))))
def sp_law_other_1 (K : PySem.W.Frag) : Sp := fun vs H Q _ => ∃ (h p : Addr) (cs l : List Nat) (k : Int), vs = [.ref h, .ref p, .str (S l), .int k] ∧ Hd H h ∧ H p = some (.lst (cs.map vc)) ∧ 1 ≤ cs.length ∧ cs.length ≤ 1000 ∧ Low cs ∧ l.length ≤ 80 ∧ Low l ∧
  ∀ m H', m.length ≤ 80 → Low m → Hd H' h → But h H H' → Q (.str (S m)) H'
theorem i_law_other_1 {K : PySem.W.Frag} {h p : Addr} {cs l : List Nat} {k : Int} {H : Hp} {Q : VK} {E : XK} (hd : Hd H h) (hp : H p = some (.lst (cs.map vc))) (c1 : 1 ≤ cs.length) (c2 : cs.length ≤ 1000) (lw : Low cs) (hn : l.length ≤ 80) (lw2 : Low l)
  (q : ∀ m H', m.length ≤ 80 → Low m → Hd H' h → But h H H' → Q (.str (S m)) H') : sp_law_other_1 K [.ref h, .ref p, .str (S l), .int k] H Q E := ⟨h, p, cs, l, k, rfl, hd, hp, c1, c2, lw, hn, lw2, q⟩
theorem pure_law_other_1 {K : PySem.W.Frag} (vs : List V) (H : Hp) (Q : VK) (E : XK) (h : sp_law_other_1 K vs H Q E) : t_law_other_1 K { nx := fun _ H' => Q .non H', rt := Q } (start N_law_other_1 vs) H := by
  obtain ⟨h, p, cs, l, k, rfl, hd, hp, c1, c2, lw, hn, lw2, q⟩ := h
  have np : p ≠ h := hd.neC hp c1
  unfold t_law_other_1
  tm_at "w"
  refine i_law_draw_1 hd (by omega) (by omega) fun r H1 a1 b1 hd1 bt1 => ?_
  have hp1 := bt1.at hp np
  tm_at "w"
  tm_at "lc"
  refine c_s fun D nD => ⟨fun i acc H' => Hd H' h ∧ But h H1 H' ∧ ∃ m : List Nat, acc = m.map vc ∧ m.length ≤ i ∧ Low m, ⟨hd1.updN (hd1.ne nD), (But.refl _ _).updN nD, [], rfl, Nat.le_refl _, Low.nil⟩, ?_, ?_⟩
  · rintro i acc x H' H'' hi hl hD ⟨hd', b', m, rfl, hlen, lw'⟩ ⟨rfl, c, hc, rfl⟩
    have nh : h ≠ D := hd1.ne nD
    tm_at "w"
    refine ⟨rfl, ?_⟩
    tm_at "w"
    refine i_law_draw_1 hd' (by omega) (by omega) fun r3 H3 a3 b3 hd3 bt3 => ?_
    tm_at "w"
    refine if_dec (fun z => ?_) (fun z => ?_)
    · tm_at "w"
      refine lc_put (bt3.at hD nh.symm) hl (by omega) ⟨hd3.updN nh, (b'.trans bt3).updN nD, m ++ [c], by rw [List.map_append]; rfl, by simp; omega, lw'.app (Low.one (lw2 c (List.mem_of_getElem? hc)))⟩
    · exact lc_skip (bt3.at hD nh.symm) hl ⟨hd3, b'.trans bt3, m, rfl, by omega, lw'⟩
  · rintro acc H2 hl hD ⟨hd2, b2, m, rfl, hlen, lwm⟩
    have nh : h ≠ D := hd1.ne nD
    tm_at "w"
    refine i_joinC (SqL.of1 hD) (by omega) ?_
    tm_at "w"
    refine i_law_draw_1 hd2 (by omega) (by omega) fun at_ H3 a3 b3 hd3 bt3 => ?_
    tm_at "w"
    refine i_law_draw_1 hd3 (by omega) (by omega) fun rl H4 a4 b4 hd4 bt4 => ?_
    refine i_pickS (by decide) a4 b4 fun c hc => ?_
    have lc1 := low_abc c hc
    tm_at "w"
    refine i_law_size_1 hd4 (by omega) (by omega) fun sz H5 a5 b5 hd5 bt5 => ?_
    have B5 : But h H1 H5 := b2.trans (bt3.trans (bt4.trans bt5))
    tm_at "w"
    obtain ⟨n5, rfl⟩ := Int.eq_ofNat_of_zero_le a5
    refine i_law_row_1 hd5 (B5.at hp1 np) c1 c2 lw (by omega) fun dr H6 dlen dlw hd6 bt6 => ?_
    obtain ⟨na, rfl⟩ := Int.eq_ofNat_of_zero_le a3
    have t1 := cutL_length m none (some (na : Int))
    have t2 := cutL_length m (some ((na : Int) + 1)) none
    have t3 := cutL_length m (some (na : Int)) none
    tm_at "w"
    refine ⟨by tm_at "z", fun pp npp => ?_⟩
    tm_at "w"
    refine i_law_draw_1 (hd6.updN (hd6.ne npp)) (by omega) (by omega) fun rr H7 a7 b7 hd7 bt7 => ?_
    have B7 : But h H H7 := bt1.trans (B5.trans (bt6.trans ((same_new npp).but.trans bt7)))
    refine i_pick (SqL.of1 (bt7.at upd_same (hd6.ne npp).symm)) a7 (by simpa using b7) fun v hv => ?_
    have hv' : ∃ z : List Nat, v = .str (S z) ∧ z.length ≤ 200 ∧ Low z := by
      simp only [List.mem_cons, List.not_mem_nil, or_false] at hv
      have lwc : Low (cutL m none (some (na : Int)) ++ [c]) := lwm.cut.app (Low.one lc1)
      rcases hv with rfl | rfl | rfl | rfl | rfl | rfl
      · exact ⟨_, rfl, by omega, lwm⟩
      · exact ⟨_, rfl, by omega, lwm⟩
      · exact ⟨_, rfl, by simp; omega, lwc.app lwm.cut⟩
      · exact ⟨_, rfl, by simp; omega, lwc.app lwm.cut⟩
      · exact ⟨_, rfl, by omega, lw2⟩
      · exact ⟨_, rfl, by omega, dlw⟩
    obtain ⟨z, rfl, hz, lwz⟩ := hv'
    tm_at "w"
    refine q _ _ ?_ lwz.cut hd7 B7
    have := cutL_to z 80
    rw [show ((80 : Nat) : Int) = 80 from rfl] at this
    rw [this, List.length_take]
    omega
/-! law_whole_0(found, due): slots 0 found, 1 due -/
abbrev N_law_whole_0 : List Str := ["found", "due"]
def t_law_whole_0 (K : PySem.W.Frag) : TS :=
  (tRet (tAndV (tCB (L2.rIsi K) (tCons (tVar 0) (tCons (tC (.ty "int")) tNil))) (tAndV (tNotV (tCB (L2.rIsi K) (tCons (tVar 0) (tCons (tC (.ty "bool")) tNil)))) (tOp Lv.rEqI (tVar 0) (tVar 1)))))
def sp_law_whole_0 (K : PySem.W.Frag) : Sp := fun vs H Q _ => ∃ (n m : Int), vs = [.int n, .int m] ∧ Q (.bl (decide (n = m))) H
theorem pure_law_whole_0 {K : PySem.W.Frag} (vs : List V) (H : Hp) (Q : VK) (E : XK) (h : sp_law_whole_0 K vs H Q E) : t_law_whole_0 K { nx := fun _ H' => Q .non H', rt := Q } (start N_law_whole_0 vs) H := by
  obtain ⟨n, m, rfl, q⟩ := h
  unfold t_law_whole_0
  tm_at "w"
  refine i_isi_int_int ?_
  tm_at "w"
  refine i_isi_int_bool ?_
  tm_at "w"
  exact q
/-! law_ways_0(row, other): slots 0 row, 1 other, 2 found, 3 sign, 4 before, 5 here, 6 at, 7 letter -/
abbrev N_law_ways_0 : List Str := ["row", "other", "found", "sign", "before", "here", "at", "letter"]
def t_law_ways_0 (K : PySem.W.Frag) : TS :=
  (tSeq (tAsg (tLst (tCons (tOp L2.rCat (tLst (tCons (tC (.int 1)) tNil)) (tOp L2.rRep (tLst (tCons (tC (.int 0)) tNil)) (tCB Lv.rLenT (tCons (tVar 1) tNil)))) tNil)) (gName 2)) (tSeq (tFor (iStr (tVar 0)) (gName 3) (tSeq (tAsg (tOp (rIxL K) (tVar 2) (tUn Lv.rNeg (tC (.int 1)))) (gName 4)) (tSeq (tAsg (tCB (Lv.rListOf K) (tCons (tVar 4) tNil)) (gName 5)) (tSeq (tFor (Lv.iEnumS (tCons (tVar 1) tNil)) (gTup K 2 (gCons (gName 6) (gCons (gName 7) gNil))) (tIfS (tTest (tOp Lv.rEqS (tVar 7) (tVar 3))) (tAsg (tOp Lv.rAdd (tOp (rIxL K) (tVar 5) (tOp Lv.rAdd (tVar 6) (tC (.int 1)))) (tOp (rIxL K) (tVar 4) (tVar 6))) (gSub (tVar 5) (tOp Lv.rAdd (tVar 6) (tC (.int 1))) rSetL)) tNext)) (tDrop (tBM K "list" rAppend (tVar 2) (tCons (tVar 5) tNil))))))) (tRet (tVar 2))))
-- needs: M_ways Q_ways_from_0
/-- the law's own counting, from the beginning on -/
def sp_law_ways_0 (K : PySem.W.Frag) : Sp := fun vs H Q _ => ∃ (l m : List Nat), vs = [.str (S l), .str (S m)] ∧ l.length ≤ 1000 ∧ m.length ≤ 1000 ∧
  ∀ (p : Addr) (rs : List Addr) (H' : Hp), H p = none → Same H H' → rs.length = l.length + 1 → H' p = some (.lst (rs.map V.ref)) → Tab H' rs (fun r => frow (l.take r) m) → Q (.ref p) H'
theorem Tab.snoc {H : Hp} {rs : List Addr} {f : Nat → List Int} (T : Tab H rs f) {a : Addr} (ha : H a = some (.lst ((f rs.length).map V.int))) : Tab H (rs ++ [a]) f := by
  intro r b hr
  by_cases z : r < rs.length
  · rw [List.getElem?_append_left z] at hr
    exact T r b hr
  · rw [List.getElem?_append_right (by omega)] at hr
    rcases Nat.eq_zero_or_pos (r - rs.length) with e0 | e0
    · rw [e0] at hr
      have e1 : a = b := Option.some.inj hr
      have e2 : r = rs.length := by omega
      rw [← e1, e2]
      exact ha
    · rw [List.getElem?_eq_none (by simp; omega)] at hr; cases hr
theorem pure_law_ways_0 {K : PySem.W.Frag} (vs : List V) (H : Hp) (Q : VK) (E : XK) (h : sp_law_ways_0 K vs H Q E) : t_law_ways_0 K { nx := fun _ H' => Q .non H', rt := Q } (start N_law_ways_0 vs) H := by
  obtain ⟨l, m, rfl, hl, hm, q⟩ := h
  unfold t_law_ways_0
  tm_at "w"
  refine ⟨by tm_at "z", fun p1 n1 => ?_⟩
  have s1 := same_new (o := .lst [V.int 1]) n1
  tm_at "w"
  refine ⟨by tm_at "z", fun p2 n2 => ?_⟩
  have s2 := same_new (o := .lst [V.int 0]) n2
  tm_at "w"
  refine i_rep upd_same (by omega) (by omega) (le_line (by simp; omega)) fun p3 n3 => ?_
  rw [Int.toNat_natCast, rep_ints]
  have s3 := same_new (o := .lst ((List.replicate m.length (0 : Int)).map V.int)) n3
  refine i_cat ((s2.trans s3) _ _ upd_same) upd_same (le_line (by simp; omega)) fun p4 n4 => ?_
  have e : [V.int 1] ++ (List.replicate m.length (0 : Int)).map V.int = (frow [] m).map V.int := by rw [← frow_init]; rfl
  rw [e]
  have s4 := same_new (o := .lst ((frow [] m).map V.int)) n4
  tm_at "w"
  refine ⟨by tm_at "z", fun D nD4 => ?_⟩
  have s5 := same_new (o := .lst [.ref p4]) nD4
  have s := s1.trans (s2.trans (s3.trans (s4.trans s5)))
  have nD : H D = none := (s1.trans (s2.trans (s3.trans s4))).free nD4
  have hD0 : _ = _ := upd_same (H := upd (upd (upd (upd H p1 (.lst [V.int 1])) p2 (.lst [V.int 0])) p3 (.lst ((List.replicate m.length (0 : Int)).map V.int))) p4 (.lst ((frow [] m).map V.int))) (a := D) (o := .lst [.ref p4])
  have h4 : _ = _ := s5 _ _ (upd_same (H := upd (upd (upd H p1 (.lst [V.int 1])) p2 (.lst [V.int 0])) p3 (.lst ((List.replicate m.length (0 : Int)).map V.int))) (a := p4) (o := .lst ((frow [] m).map V.int)))
  have nDp4 : D ≠ p4 := fun z => by rw [z, upd_same] at nD4; cases nD4
  generalize upd (upd (upd (upd (upd H p1 (.lst [V.int 1])) p2 (.lst [V.int 0])) p3 (.lst ((List.replicate m.length (0 : Int)).map V.int))) p4 (.lst ((frow [] m).map V.int))) D (.lst [.ref p4]) = H1 at *
  tm_at "w"
  tm_at "fo"
  refine f_s ⟨fun i σ H' => ∃ (v3 v4 v5 v6 v7 : Option V) (rs : List Addr), σ = [some (.str (S l)), some (.str (S m)), some (.ref D), v3, v4, v5, v6, v7] ∧ Same H H' ∧ rs.length = i + 1 ∧ D ∉ rs ∧ H' D = some (.lst (rs.map V.ref)) ∧ Tab H' rs (fun r => frow (l.take r) m),
    ⟨none, none, none, none, none, [p4], rfl, s, rfl, by simpa using nDp4, hD0, fun r a hr => ?_⟩, ?_, ?_⟩
  · cases r with
    | zero =>
      have : p4 = a := Option.some.inj hr
      rw [← this]
      exact h4
    | succ r => simp at hr
  · rintro i x σ H0 H' hi ⟨v3, v4, v5, v6, v7, rs, rfl, sm, hrl, hDn, hD, T⟩ ⟨rfl, c, hc, rfl⟩
    obtain ⟨b, hb⟩ : ∃ b, rs[i]? = some b := ⟨_, List.getElem?_eq_getElem (by omega)⟩
    have gb := T i b hb
    dsimp only at gb
    tm_at "w"
    refine i_ixL (v := .ref b) (SqL.of1 hD) ?_ ?_
    · have hrs : rs.map V.ref = (rs.take i).map V.ref ++ [.ref b] := by
        have : rs = rs.take i ++ [b] := by
          have h1 : rs.drop i = [b] := by
            rw [List.drop_eq_getElem_cons (by omega), (List.getElem?_eq_some_iff.mp hb).2, List.drop_of_length_le (by omega)]
          rw [← h1, List.take_append_drop]
        rw [← List.map_singleton, ← List.map_append, ← this]
      rw [hrs]
      exact atI_last _ _
    tm_at "w"
    refine i_listOf (SqL.of1 gb) fun hr nhr => ?_
    have sh := same_new (o := .lst ((frow (l.take i) m).map V.int)) nhr
    have nhD : D ≠ hr := ne_of_none hD nhr
    have nhb : b ≠ hr := ne_of_none gb nhr
    have hrn : hr ∉ rs := fun z => by
      obtain ⟨r, hr'⟩ := List.mem_iff_getElem?.mp z
      rw [T r hr hr'] at nhr
      cases nhr
    have nHhr : H hr = none := sm.free nhr
    have ghr : upd H' hr (.lst ((frow (l.take i) m).map V.int)) hr = some (.lst ((frow (l.take i) m).map V.int)) := upd_same
    have T1 := T.same sh
    have hD1 := sh _ _ hD
    have gb1 := sh _ _ gb
    have sm1 := sm.trans sh
    generalize upd H' hr (.lst ((frow (l.take i) m).map V.int)) = H2 at *
    clear sh nhr T hD gb sm
    tm_at "w"
    tm_at "fo"
    refine f_t ⟨fun j σ H3 => ∃ v6 v7 : Option V, σ = [some (.str (S l)), some (.str (S m)), some (.ref D), some (.str (S [c])), some (.ref b), some (.ref hr), v6, v7] ∧ Same H H3 ∧ H3 D = some (.lst (rs.map V.ref)) ∧ Tab H3 rs (fun r => frow (l.take r) m) ∧ H3 hr = some (.lst ((qrow (l.take (i + 1)) (l.take i) m j).map V.int)),
      ⟨v6, v7, rfl, sm1, hD1, T1, by rw [qrow_zero]; exact ghr⟩, ?_, ?_⟩
    · rintro j x σ H3 H4 hj ⟨v6, v7, rfl, sm2, hD2, T2, gh2⟩ ⟨t, xs, rfl, nt, rfl, d, hdm, rfl⟩
      have st := same_new (o := .tup [V.int (j : Nat), .str (S [d])]) nt
      have hD3 := st _ _ hD2
      have T3 := T2.same st
      have sm3 := sm2.trans st
      have gh3 := st _ _ gh2
      have gb3 := T3 i b hb
      dsimp only at gb3
      have at_ : upd H3 t (.tup [V.int (j : Nat), .str (S [d])]) t = some (.tup [V.int (j : Nat), .str (S [d])]) := upd_same
      generalize upd H3 t (.tup [V.int (j : Nat), .str (S [d])]) = H4 at *
      clear st T2 hD2 sm2 nt gh2
      refine i_gTup (SqT.of1 at_) rfl ?_
      tm_at "w"
      refine if_dec (fun z => ?_) (fun z => ?_)
      · have zc : d = c := by injection z
        tm_at "w"
        refine i_ixL (v := .int ((W (l.take i) (m.take (j + 1)) : Nat) : Int)) (SqL.of1 gh3) (atI_nat (j := j + 1) (by rw [List.getElem?_map, qrow_get _ _ _ (by omega), if_neg (by omega)]; rfl)) ?_
        tm_at "w"
        refine i_ixL (v := .int ((W (l.take i) (m.take j) : Nat) : Int)) (SqL.of1 gb3) (atI_nat (j := j) (by rw [List.getElem?_map, frow_get _ _ (by omega)]; rfl)) ?_
        tm_at "w"
        refine i_setL (j := j + 1) gh3 (by rw [List.length_map, qrow_length]; exact ix_nat (k := j + 1) (by omega)) ?_
        tm_at "w"
        refine ⟨_, _, rfl, sm3.updN nHhr, by rw [upd_ne nhD]; exact hD3, T3.updN hrn, ?_⟩
        rw [upd_same, ← List.map_set, ← qrow_set _ _ _ _ hj, W_take hc hdm, if_pos zc.symm]
        rfl
      · have zc : c ≠ d := fun y => z (by rw [y])
        tm_at "w"
        refine ⟨_, _, rfl, sm3, hD3, T3, ?_⟩
        rw [qrow_keep _ _ _ _ hj (by rw [W_take hc hdm, if_neg zc]; rfl)]
        exact gh3
    · rintro σ H3 ⟨v6, v7, rfl, sm2, hD2, T2, gh2⟩
      rw [qrow_last] at gh2
      tm_at "w"
      refine i_tyL (SqL.of1 hD2) ?_
      tm_at "w"
      refine i_app hD2 (lt_line (by simp; omega)) ?_
      tm_at "w"
      refine ⟨_, _, _, _, _, rs ++ [hr], rfl, sm2.updN nD, by simp [hrl], ?_, by rw [upd_same, List.map_append]; rfl, ?_⟩
      · intro z
        rcases List.mem_append.mp z with z | z
        · exact hDn z
        · exact nhD (List.mem_singleton.mp z)
      · refine Tab.snoc (T2.updN hDn) ?_
        rw [upd_ne nhD.symm, hrl]
        exact gh2
  · rintro σ H' ⟨v3, v4, v5, v6, v7, rs, rfl, sm, hrl, hDn, hD, T⟩
    tm_at "w"
    exact q D rs H' nD sm hrl hD T
/-! law_k21(script): slots 0 script, 1 k, 2 cell, 3 hand, 4 pool, 5 row, 6 other, 7 one, 8 two, 9 due, 10 again -/
abbrev N_law_k21 : List Str := ["script", "k", "cell", "hand", "pool", "row", "other", "one", "two", "due", "again"]
def t_law_k21 (K : PySem.W.Frag) : TS :=
  (tSeq (tFor (iList K (tCall (sp_law_cells_0 K) [] E0 (tCons (tVar 0) (tCons (tC (.int 8)) tNil)))) (gTup K 2 (gCons (gName 1) (gCons (gName 2) gNil))) (tSeq (tAsg (tCall (sp_law_hand_1 K) [] E0 (tCons (tVar 2) (tCons (tVar 1) tNil))) (gName 3)) (tSeq (tAsg (tCall (sp_law_pool_0 K) [] E0 (tCons (tVar 3) tNil)) (gName 4)) (tSeq (tAsg (tCall (sp_law_row_1 K) [] E0 (tCons (tVar 3) (tCons (tVar 4) (tCons (tCall (sp_law_size_1 K) [] E0 (tCons (tVar 3) (tCons (tVar 1) (tCons (tC (.int 20)) tNil)))) tNil)))) (gName 5)) (tSeq (tAsg (tCall (sp_law_other_1 K) [] E0 (tCons (tVar 3) (tCons (tVar 4) (tCons (tVar 5) (tCons (tVar 1) tNil))))) (gName 6)) (tFor (iList K (tLst (tCons (tTup (tCons (tVar 5) (tCons (tVar 6) tNil))) (tCons (tTup (tCons (tVar 6) (tCons (tVar 5) tNil))) (tCons (tTup (tCons (tVar 5) (tCons (tC (.str (S []))) tNil))) (tCons (tTup (tCons (tVar 5) (tCons (Lv.tRevS (tVar 5)) tNil))) tNil)))))) (gTup K 2 (gCons (gName 7) (gCons (gName 8) gNil))) (tSeq (tAsg (tOp (rIxL K) (tOp (rIxL K) (tCall (sp_law_ways_0 K) [] E0 (tCons (tVar 7) (tCons (tVar 8) tNil))) (tUn Lv.rNeg (tC (.int 1)))) (tUn Lv.rNeg (tC (.int 1)))) (gName 9)) (tFor (iRng1 (tCons (tC (.int 2)) tNil)) (gName 10) (tIfS (tNot (tB (tCall (sp_law_whole_0 K) [] E0 (tCons (tCall (sp_many_ways_0 K) [] E0 (tCons (tVar 7) (tCons (tVar 8) tNil))) (tCons (tVar 9) tNil))))) (tRet (tC (.bl false))) tNext))))))))) (tRet (tAndV (tOp Lv.rEqI (tCall (sp_many_ways_0 K) [] E0 (tCons (tC (.str (S [97, 97, 97, 97]))) (tCons (tC (.str (S [97, 97]))) tNil))) (tC (.int 6))) (tAndV (tOp Lv.rEqI (tCall (sp_many_ways_0 K) [] E0 (tCons (tC (.str (S []))) (tCons (tC (.str (S []))) tNil))) (tC (.int 1))) (tOp Lv.rEqI (tCall (sp_many_ways_0 K) [] E0 (tCons (tC (.str (S []))) (tCons (tC (.str (S [97]))) tNil))) (tC (.int 0)))))))
/-- the law: at a script of at most 63 numbers it tells True -/
def sp_law_k21 (K : PySem.W.Frag) : Sp := fun vs H Q _ => ∃ (a : Addr) (ns : List Int), vs = [.ref a] ∧ SqL K H a (ns.map V.int) ∧ ns.length ≤ 63 ∧ ∀ H', Q (.bl true) H'
theorem last_row {H : Hp} {rs : List Addr} {f : Nat → List Int} {n : Nat} (T : Tab H rs f) (hr : rs.length = n + 1) : ∃ (pre : List V) (b : Addr), rs.map V.ref = pre ++ [.ref b] ∧ H b = some (.lst ((f n).map V.int)) := by
  obtain ⟨b, hb⟩ : ∃ b, rs[n]? = some b := ⟨_, List.getElem?_eq_getElem (by omega)⟩
  refine ⟨(rs.take n).map V.ref, b, ?_, T n b hb⟩
  have h1 : rs.drop n = [b] := by
    rw [List.drop_eq_getElem_cons (by omega), (List.getElem?_eq_some_iff.mp hb).2, List.drop_of_length_le (by omega)]
  rw [← List.map_singleton, ← List.map_append, ← h1, List.take_append_drop]
theorem frow_last (l m : List Nat) : ∃ pre : List V, (frow l m).map V.int = pre ++ [.int ((W l m : Nat) : Int)] := by
  refine ⟨((frow l m).take m.length).map V.int, ?_⟩
  have hb : (frow l m)[m.length]? = some ((W l m : Nat) : Int) := by
    have := frow_get l m (a := m.length) (Nat.le_refl _)
    rw [List.take_length] at this
    exact this
  have hl := frow_length l m
  have h1 : (frow l m).drop m.length = [((W l m : Nat) : Int)] := by
    rw [List.drop_eq_getElem_cons (by omega), (List.getElem?_eq_some_iff.mp hb).2, List.drop_of_length_le (by omega)]
  have h2 : [V.int ((W l m : Nat) : Int)] = ([((W l m : Nat) : Int)]).map V.int := rfl
  rw [h2, ← List.map_append, ← h1, List.take_append_drop]
theorem pure_law_k21 {K : PySem.W.Frag} (vs : List V) (H : Hp) (Q : VK) (E : XK) (h : sp_law_k21 K vs H Q E) : t_law_k21 K { nx := fun _ H' => Q .non H', rt := Q } (start N_law_k21 vs) H := by
  obtain ⟨a, ns, rfl, hS, hl, q⟩ := h
  unfold t_law_k21
  tm_at "w"
  refine cells_for (a := a) (ns := ns) rfl hS (by omega) hl (fun H1 i σ H' => ∃ v1 v2 v3 v4 v5 v6 v7 v8 v9 v10 : Option V, σ = [some (.ref a), v1, v2, v3, v4, v5, v6, v7, v8, v9, v10] ∧ Same H1 H') ?_ ?_ ?_ ?_
  · exact fun H1 _ => ⟨none, none, none, none, none, none, none, none, none, none, rfl, Same.refl _⟩
  · rintro H1 i σ H' ⟨v1, v2, v3, v4, v5, v6, v7, v8, v9, v10, rfl, sm⟩
    exact sm
  · rintro H1 i0 c σ H2 D' _ ⟨v1, v2, v3, v4, v5, v6, v7, v8, v9, v10, rfl, sm⟩ enx ert
    tm_at "w"
    refine i_law_hand_1 fun hd H3 nh hh s3 => ?_
    tm_at "w"
    refine i_law_pool_0 hh fun p H4 cs hh4 b4 np hp c1 c2 lw => ?_
    have nph : p ≠ hd := hh4.neC hp c1
    tm_at "w"
    refine i_law_size_1 hh4 (by omega) (by omega) fun r H5 r0 r1 hh5 b5 => ?_
    obtain ⟨n, rfl⟩ := Int.eq_ofNat_of_zero_le r0
    have hp5 := b5.at hp nph
    tm_at "w"
    refine i_law_row_1 (n := n) hh5 hp5 c1 (by omega) lw (by omega) fun l H6 ll lwl hh6 b6 => ?_
    have hp6 := b6.at hp5 nph
    tm_at "w"
    refine i_law_other_1 hh6 hp6 c1 (by omega) lw (by omega) lwl fun m H7 lm lwm hh7 b7 => ?_
    have s7 : Same H1 H7 := sm.trans ((s3.but.trans (b4.trans (b5.trans (b6.trans b7)))).same nh)
    clear b4 b5 b6 b7 hp hp5 hp6 hh4 hh5 hh6 hh7 s3 hh np nh nph sm
    tm_at "w"
    refine foM (fun J H8 => ∃ (D : Addr) (xs : List V), J = Itl K D ∧ Same H7 H8 ∧ H8 D = some (.lst xs) ∧ ∀ (i : Nat) x, xs[i]? = some x → ∃ t o w, x = .ref t ∧ H8 t = some (.tup [.str (S o), .str (S w)]) ∧ o.length ≤ 80 ∧ w.length ≤ 80) (fun R k => ?_) ?_
    · tm_at "w"
      refine ⟨by tm_at "z", fun t1 n1 => ?_⟩
      have u1 := same_new (o := .tup [.str (S l), .str (S m)]) n1
      tm_at "w"
      refine ⟨by tm_at "z", fun t2 n2 => ?_⟩
      have u2 := same_new (o := .tup [.str (S m), .str (S l)]) n2
      tm_at "w"
      refine ⟨by tm_at "z", fun t3 n3 => ?_⟩
      have u3 := same_new (o := .tup [.str (S l), .str (S [])]) n3
      tm_at "w"
      refine ⟨by tm_at "z", fun t4 n4 => ?_⟩
      have u4 := same_new (o := .tup [.str (S l), .str (S l.reverse)]) n4
      tm_at "w"
      refine ⟨by tm_at "z", fun D nD => ?_⟩
      have u5 := same_new (o := .lst [.ref t1, .ref t2, .ref t3, .ref t4]) nD
      refine ⟨D, rfl, ⟨_, SqL.of1 upd_same⟩, k _ _ ⟨D, _, rfl, u1.trans (u2.trans (u3.trans (u4.trans u5))), upd_same, fun i x hx => ?_⟩⟩
      match i, hx with
      | 0, hx => exact ⟨t1, l, m, (Option.some.inj hx).symm, (u2.trans (u3.trans (u4.trans u5))) _ _ upd_same, by omega, by omega⟩
      | 1, hx => exact ⟨t2, m, l, (Option.some.inj hx).symm, (u3.trans (u4.trans u5)) _ _ upd_same, by omega, by omega⟩
      | 2, hx => exact ⟨t3, l, [], (Option.some.inj hx).symm, (u4.trans u5) _ _ upd_same, by omega, by simp⟩
      | 3, hx => exact ⟨t4, l, l.reverse, (Option.some.inj hx).symm, u5 _ _ upd_same, by omega, by simp; omega⟩
      | (i + 4), hx => simp at hx
    · rintro J H8 ⟨D, xs, rfl, s8, hD, hx⟩
      refine f_l (xs := xs) ⟨fun i σ H' => ∃ v7 v8 v9 v10 : Option V, σ = [some (.ref a), some (.int (i0 : Nat)), some (.int c), some (.ref hd), some (.ref p), some (.str (S l)), some (.str (S m)), v7, v8, v9, v10] ∧ Same H8 H', ⟨_, _, _, _, rfl, Same.refl _⟩, ?_, ?_, ?_⟩
      · rintro i σ H' _ ⟨v7, v8, v9, v10, rfl, sm⟩
        exact SqL.of1 (sm _ _ hD)
      · rintro i x σ H0 H' hi ⟨v7, v8, v9, v10, rfl, sm⟩ ⟨rfl, ex⟩
        obtain ⟨t, o, w, rfl, gt, lo, lw2⟩ := hx i x ex
        refine i_gTup (SqT.of1 (sm _ _ gt)) rfl ?_
        tm_at "w"
        refine ⟨o, w, rfl, by omega, by omega, fun p2 rs H9 np2 s9 hrl hp2 T => ?_⟩
        obtain ⟨pre, b, e1, e2⟩ := last_row T hrl
        rw [e1] at hp2
        rw [List.take_length] at e2
        obtain ⟨pre2, e3⟩ := frow_last o w
        rw [e3] at e2
        tm_at "w"
        refine i_ixL (SqL.of1 hp2) (atI_last _ _) ?_
        tm_at "w"
        refine i_ixL (SqL.of1 e2) (atI_last _ _) ?_
        tm_at "w"
        tm_at "fo"
        refine f_r ⟨fun j σ H' => ∃ v10 : Option V, σ = [some (.ref a), some (.int (i0 : Nat)), some (.int c), some (.ref hd), some (.ref p), some (.str (S l)), some (.str (S m)), some (.str (S o)), some (.str (S w)), some (.int ((W o w : Nat) : Int)), v10] ∧ Same H8 H', ⟨_, rfl, sm.trans s9⟩, ?_, ?_⟩
        · rintro j x σ H0 H' hj ⟨v10, rfl, sm⟩ ⟨rfl, rfl⟩
          tm_at "w"
          refine i_many_ways_0 (by omega) (by omega) fun H10 s10 => ?_
          tm_at "w"
          refine ⟨_, _, rfl, ?_⟩
          rw [decide_eq_true rfl]
          tm_at "w"
          exact ⟨_, rfl, sm.trans s10⟩
        · rintro σ H' ⟨v10, rfl, sm⟩
          exact ⟨_, _, _, _, rfl, sm⟩
      · rintro σ H' ⟨v7, v8, v9, v10, rfl, sm⟩
        rw [enx]
        exact ⟨_, _, _, _, _, _, _, _, _, _, rfl, s7.trans (s8.trans sm)⟩
  · rintro H1 i σ H' _ ⟨v1, v2, v3, v4, v5, v6, v7, v8, v9, v10, rfl, sm⟩
    tm_at "w"
    refine ⟨[97, 97, 97, 97], [97, 97], rfl, by decide, by decide, fun H2 s2 => ?_⟩
    tm_at "w"
    refine ⟨[], [], rfl, by decide, by decide, fun H3 s3 => ?_⟩
    tm_at "w"
    refine ⟨[], [97], rfl, by decide, by decide, fun H4 s4 => ?_⟩
    tm_at "w"
    exact q _
/-! ### the text of k21 -/
def topS (i : Nat) : Stmt := PySem.Challenge.pw_leavings_k21_ways_counted.main.body.getD i (.Pass ⟨0, 0, 0, 0⟩)
abbrev s_ways_from_0 : Stmt := topS 1
theorem sc_ways_from_0 : FnScope N_ways_from_0 ["row", "other"] (defScope s_ways_from_0) := ⟨rfl, rfl, rfl, by decide +kernel, rfl, by decide +kernel, by decide +kernel⟩
abbrev s_many_ways_0 : Stmt := topS 2
theorem sc_many_ways_0 : FnScope N_many_ways_0 ["row", "other"] (defScope s_many_ways_0) := ⟨rfl, rfl, rfl, by decide +kernel, rfl, by decide +kernel, by decide +kernel⟩
abbrev s_law_hand_1 : Stmt := topS 4
theorem sc_law_hand_1 : FnScope N_law_hand_1 ["cell", "k"] (defScope s_law_hand_1) := ⟨rfl, rfl, rfl, by decide +kernel, rfl, by decide +kernel, by decide +kernel⟩
abbrev s_law_cells_0 : Stmt := topS 6
theorem sc_law_cells_0 : FnScope N_law_cells_0 ["script", "many"] (defScope s_law_cells_0) := ⟨rfl, rfl, rfl, by decide +kernel, rfl, by decide +kernel, by decide +kernel⟩
abbrev s_law_draw_1 : Stmt := topS 5
theorem sc_law_draw_1 : FnScope N_law_draw_1 ["hand", "limit"] (defScope s_law_draw_1) := ⟨rfl, rfl, rfl, by decide +kernel, rfl, by decide +kernel, by decide +kernel⟩
abbrev s_law_pool_0 : Stmt := topS 7
theorem sc_law_pool_0 : FnScope N_law_pool_0 ["hand"] (defScope s_law_pool_0) := ⟨rfl, rfl, rfl, by decide +kernel, rfl, by decide +kernel, by decide +kernel⟩
abbrev s_law_row_1 : Stmt := topS 8
theorem sc_law_row_1 : FnScope N_law_row_1 ["hand", "pool", "many"] (defScope s_law_row_1) := ⟨rfl, rfl, rfl, by decide +kernel, rfl, by decide +kernel, by decide +kernel⟩
abbrev s_law_size_1 : Stmt := topS 9
theorem sc_law_size_1 : FnScope N_law_size_1 ["hand", "k", "most"] (defScope s_law_size_1) := ⟨rfl, rfl, rfl, by decide +kernel, rfl, by decide +kernel, by decide +kernel⟩
abbrev s_law_other_1 : Stmt := topS 10
theorem sc_law_other_1 : FnScope N_law_other_1 ["hand", "pool", "row", "k"] (defScope s_law_other_1) := ⟨rfl, rfl, rfl, by decide +kernel, rfl, by decide +kernel, by decide +kernel⟩
abbrev s_law_whole_0 : Stmt := topS 11
theorem sc_law_whole_0 : FnScope N_law_whole_0 ["found", "due"] (defScope s_law_whole_0) := ⟨rfl, rfl, rfl, by decide +kernel, rfl, by decide +kernel, by decide +kernel⟩
abbrev s_law_ways_0 : Stmt := topS 12
theorem sc_law_ways_0 : FnScope N_law_ways_0 ["row", "other"] (defScope s_law_ways_0) := ⟨rfl, rfl, rfl, by decide +kernel, rfl, by decide +kernel, by decide +kernel⟩
abbrev s_law_k21 : Stmt := topS 13
theorem sc_law_k21 : FnScope N_law_k21 ["script"] (defScope s_law_k21) := ⟨rfl, rfl, rfl, by decide +kernel, rfl, by decide +kernel, by decide +kernel⟩
structure Txt (K : PySem.W.Frag) (mg : Str → Option Value) where
  (f_ways_from_0 : Addr)
  (fd_ways_from_0 : FuncData)
  (f_many_ways_0 : Addr)
  (fd_many_ways_0 : FuncData)
  (f_law_hand_1 : Addr)
  (fd_law_hand_1 : FuncData)
  (f_law_cells_0 : Addr)
  (fd_law_cells_0 : FuncData)
  (f_law_draw_1 : Addr)
  (fd_law_draw_1 : FuncData)
  (f_law_pool_0 : Addr)
  (fd_law_pool_0 : FuncData)
  (f_law_row_1 : Addr)
  (fd_law_row_1 : FuncData)
  (f_law_size_1 : Addr)
  (fd_law_size_1 : FuncData)
  (f_law_other_1 : Addr)
  (fd_law_other_1 : FuncData)
  (f_law_whole_0 : Addr)
  (fd_law_whole_0 : FuncData)
  (f_law_ways_0 : Addr)
  (fd_law_ways_0 : FuncData)
  (f_law_k21 : Addr)
  (fd_law_k21 : FuncData)
  F_ways_from_0 : Fun K "ways_from" "ways_from" s_ways_from_0 f_ways_from_0 fd_ways_from_0
  a_ways_from_0 : mg "ways_from" = some (.ref f_ways_from_0)
  b_ways_from_0 : Binds K fd_ways_from_0 ["row", "other"] []
  F_many_ways_0 : Fun K "many_ways" "many_ways" s_many_ways_0 f_many_ways_0 fd_many_ways_0
  a_many_ways_0 : mg "many_ways" = some (.ref f_many_ways_0)
  b_many_ways_0 : Binds K fd_many_ways_0 ["row", "other"] []
  F_law_hand_1 : Fun K "_law_hand" "_law_hand" s_law_hand_1 f_law_hand_1 fd_law_hand_1
  a_law_hand_1 : mg "_law_hand" = some (.ref f_law_hand_1)
  b_law_hand_1 : Binds K fd_law_hand_1 ["cell", "k"] []
  F_law_cells_0 : Fun K "_law_cells" "_law_cells" s_law_cells_0 f_law_cells_0 fd_law_cells_0
  a_law_cells_0 : mg "_law_cells" = some (.ref f_law_cells_0)
  b_law_cells_0 : Binds K fd_law_cells_0 ["script", "many"] []
  F_law_draw_1 : Fun K "_law_draw" "_law_draw" s_law_draw_1 f_law_draw_1 fd_law_draw_1
  a_law_draw_1 : mg "_law_draw" = some (.ref f_law_draw_1)
  b_law_draw_1 : Binds K fd_law_draw_1 ["hand", "limit"] []
  F_law_pool_0 : Fun K "_law_pool" "_law_pool" s_law_pool_0 f_law_pool_0 fd_law_pool_0
  a_law_pool_0 : mg "_law_pool" = some (.ref f_law_pool_0)
  b_law_pool_0 : Binds K fd_law_pool_0 ["hand"] []
  F_law_row_1 : Fun K "_law_row" "_law_row" s_law_row_1 f_law_row_1 fd_law_row_1
  a_law_row_1 : mg "_law_row" = some (.ref f_law_row_1)
  b_law_row_1 : Binds K fd_law_row_1 ["hand", "pool", "many"] []
  F_law_size_1 : Fun K "_law_size" "_law_size" s_law_size_1 f_law_size_1 fd_law_size_1
  a_law_size_1 : mg "_law_size" = some (.ref f_law_size_1)
  b_law_size_1 : Binds K fd_law_size_1 ["hand", "k", "most"] []
  F_law_other_1 : Fun K "_law_other" "_law_other" s_law_other_1 f_law_other_1 fd_law_other_1
  a_law_other_1 : mg "_law_other" = some (.ref f_law_other_1)
  b_law_other_1 : Binds K fd_law_other_1 ["hand", "pool", "row", "k"] []
  F_law_whole_0 : Fun K "_law_whole" "_law_whole" s_law_whole_0 f_law_whole_0 fd_law_whole_0
  a_law_whole_0 : mg "_law_whole" = some (.ref f_law_whole_0)
  b_law_whole_0 : Binds K fd_law_whole_0 ["found", "due"] []
  F_law_ways_0 : Fun K "_law_ways" "_law_ways" s_law_ways_0 f_law_ways_0 fd_law_ways_0
  a_law_ways_0 : mg "_law_ways" = some (.ref f_law_ways_0)
  b_law_ways_0 : Binds K fd_law_ways_0 ["row", "other"] []
  F_law_k21 : Fun K "law" "law" s_law_k21 f_law_k21 fd_law_k21
  z_bool : mg "bool" = none
  z_enumerate : mg "enumerate" = none
  z_int : mg "int" = none
  z_isinstance : mg "isinstance" = none
  z_len : mg "len" = none
  z_list : mg "list" = none
  z_range : mg "range" = none
section
variable {P : Program} {w : World} {K : PySem.W.Frag} {mg : Str → Option Value} {base : Heap}
theorem ok_ways_from_0 (T : Txt K mg) : FnOk P w K mg base CX0 1 T.f_ways_from_0 T.fd_ways_from_0 ["row", "other"] (sp_ways_from_0 K) := by
  have nd := sc_ways_from_0.nd
  refine T.F_ways_from_0.ok sc_ways_from_0 (fun vs H Q E h => ?_) (fun cdv A outer s H vs Q E hr h => ⟨t_ways_from_0 K, ?_, pure_ways_from_0 vs H Q E h⟩)
  · unfold sp_ways_from_0 at h
    repeat (first | (obtain ⟨rfl, _⟩ := h; rfl) | (obtain ⟨_, h⟩ := h))
  · unfold t_ways_from_0
    exact (pss_cons (ps_setLc (i := 2) (own := [("place", 3)]) (g := (gName 3)) (tt := tYes) (by rfl) nd rfl rfl (sw_true rfl rfl rfl (by decide +kernel)) (pi_range1 (by rfl) T.z_range (pa_cons (pe_op op_add (pe_callB Lv.call_lenT (by rfl) T.z_len (by decide +kernel) (pa_cons (pv 0) pa_nil)) pe_int) pa_nil)) (blkOk_by (own := [("place", 3)]) (N := N_ways_from_0) (sc := defScope s_ways_from_0) (by decide +kernel)) (fun _ _ _ _ _ => (pg_name (i := 3) nd rfl (by first | exact Or.inl rfl | exact Or.inr rfl))) (fun _ _ _ _ _ => pts_nil) (fun _ _ _ _ _ => (pe_op op_cat (pe_op op_rep (pe_lst (pa_cons pe_int pa_nil)) (pe_callB Lv.call_lenT (by rfl) T.z_len (by decide +kernel) (pa_cons (pv 1) pa_nil))) (pe_lst (pa_cons pe_int pa_nil))))) (pss_cons (ps_for PassesOwn.never (by rfl) (pi_range3 (by rfl) T.z_range (pa_cons (pe_op op_sub (pe_callB Lv.call_lenT (by rfl) T.z_len (by decide +kernel) (pa_cons (pv 0) pa_nil)) pe_int) (pa_cons (pe_un un_neg pe_int) (pa_cons (pe_un un_neg pe_int) pa_nil)))) (pg_name (i := 3) nd rfl (by first | exact Or.inl rfl | exact Or.inr rfl)) (pss_one (ps_for PassesOwn.never (by rfl) (Lv.pi_enumS (by rfl) T.z_enumerate (pa_cons (pv 1) pa_nil)) (pg_tup (by rfl) (pgs_cons (pg_name (i := 4) nd rfl (by first | exact Or.inl rfl | exact Or.inr rfl)) (pgs_cons (pg_name (i := 5) nd rfl (by first | exact Or.inl rfl | exact Or.inr rfl)) pgs_nil))) (pss_cons (ps_asg (pe_ix ix_list (pe_ix ix_list (pv 2) (pe_op op_add (pv 3) pe_int) (fun _ _ => rfl)) (pv 4) (fun _ _ => rfl)) (pg_sub (pe_ix ix_list (pv 2) (pv 3) (fun _ _ => rfl)) (pv 4) set_list)) (pss_one (ps_if (pt_cmpR Lv.op_eqS (pe_ix Lv.ix_S (pv 0) (pv 3) (fun _ _ => rfl)) (pv 5) (nomark _)) (pss_one (ps_augS (pe_ix ix_list (pv 2) (pv 3) (fun _ _ => rfl)) (pv 4) Lv.get_list (pe_ix ix_list (pe_ix ix_list (pv 2) (pe_op op_add (pv 3) pe_int) (fun _ _ => rfl)) (pe_op op_add (pv 4) pe_int) (fun _ _ => rfl)) ip_add set_list)) pss_nil)))))) (pss_one (ps_ret (pv 2)))))
theorem ok_many_ways_0 (T : Txt K mg) : FnOk P w K mg base CX0 2 T.f_many_ways_0 T.fd_many_ways_0 ["row", "other"] (sp_many_ways_0 K) := by
  have nd := sc_many_ways_0.nd
  have G_ways_from_0 := ok_ways_from_0 (P := P) (w := w) (base := base) T
  refine T.F_many_ways_0.ok sc_many_ways_0 (fun vs H Q E h => ?_) (fun cdv A outer s H vs Q E hr h => ⟨t_many_ways_0 K, ?_, pure_many_ways_0 vs H Q E h⟩)
  · unfold sp_many_ways_0 at h
    repeat (first | (obtain ⟨rfl, _⟩ := h; rfl) | (obtain ⟨_, h⟩ := h))
  · unfold t_many_ways_0
    exact (pss_one (ps_ret (pe_ix ix_list (pe_ix ix_list (pe_call G_ways_from_0 (hr.mono (by decide)) (by rfl) T.a_ways_from_0 T.F_ways_from_0.kp T.b_ways_from_0 .nil pass0 (pa_cons (pv 0) (pa_cons (pv 1) pa_nil))) pe_int (fun _ _ => rfl)) pe_int (fun _ _ => rfl))))
theorem ok_law_hand_1 (T : Txt K mg) : FnOk P w K mg base CX0 1 T.f_law_hand_1 T.fd_law_hand_1 ["cell", "k"] (sp_law_hand_1 K) := by
  have nd := sc_law_hand_1.nd
  refine T.F_law_hand_1.ok sc_law_hand_1 (fun vs H Q E h => ?_) (fun cdv A outer s H vs Q E hr h => ⟨t_law_hand_1 K, ?_, pure_law_hand_1 vs H Q E h⟩)
  · unfold sp_law_hand_1 at h
    repeat (first | (obtain ⟨rfl, _⟩ := h; rfl) | (obtain ⟨_, h⟩ := h))
  · unfold t_law_hand_1
    exact (pss_cons (ps_set (i := 2) nd rfl (by first | exact Or.inl rfl | exact Or.inr rfl) pe_int) (Evl.pss_cut (ps_if (pt_cmpR op_ge (pv 0) (pe_op op_pow pe_int pe_int) (nomark _)) (pss_one (ps_set (i := 2) nd rfl (by first | exact Or.inl rfl | exact Or.inr rfl) (pv 0))) pss_nil) (pss_one (ps_ret (pe_lst (pa_cons (pv 2) (pa_cons (pe_op op_mod (pe_op op_mul (pe_op op_add (pe_op op_add (pe_op op_mod (pv 0) pe_int) (pe_op op_mul pe_int (pv 1))) pe_int) pe_int) pe_int) pa_nil)))))))
theorem ok_law_cells_0 (T : Txt K mg) : FnOk P w K mg base CX0 1 T.f_law_cells_0 T.fd_law_cells_0 ["script", "many"] (sp_law_cells_0 K) := by
  have nd := sc_law_cells_0.nd
  refine T.F_law_cells_0.ok sc_law_cells_0 (fun vs H Q E h => ?_) (fun cdv A outer s H vs Q E hr h => ⟨t_law_cells_0 K, ?_, pure_law_cells_0 vs H Q E h⟩)
  · unfold sp_law_cells_0 at h
    repeat (first | (obtain ⟨rfl, _⟩ := h; rfl) | (obtain ⟨_, h⟩ := h))
  · unfold t_law_cells_0
    exact (pss_one (ps_ret (Lv.pe_listEn (by rfl) (pe_op op_cat (pe_slice sl_list (pv 0) po_none (po_some (pv 1))) (pe_op op_rep (pe_lst (pa_cons pe_int pa_nil)) (pe_callTy Lv.call_intB (by rfl) T.z_int (by decide +kernel) (pa_cons (pe_cmpR (Lv.op_eqL hr.units) (pv 0) (pe_lst pa_nil) (nomark _)) pa_nil)))) (by rfl) T.z_list (by rfl) T.z_enumerate)))
theorem ok_law_draw_1 (T : Txt K mg) : FnOk P w K mg base CX0 1 T.f_law_draw_1 T.fd_law_draw_1 ["hand", "limit"] (sp_law_draw_1 K) := by
  have nd := sc_law_draw_1.nd
  refine T.F_law_draw_1.ok sc_law_draw_1 (fun vs H Q E h => ?_) (fun cdv A outer s H vs Q E hr h => ⟨t_law_draw_1 K, ?_, pure_law_draw_1 vs H Q E h⟩)
  · unfold sp_law_draw_1 at h
    repeat (first | (obtain ⟨rfl, _⟩ := h; rfl) | (obtain ⟨_, h⟩ := h))
  · unfold t_law_draw_1
    exact (pss_cons (ps_if (pt_cmpR op_gt (pe_ix ix_list (pv 0) pe_int (fun _ _ => rfl)) pe_int (nomark _)) (pss_cons (ps_set (i := 2) nd rfl (by first | exact Or.inl rfl | exact Or.inr rfl) (pe_op op_mod (pe_ix ix_list (pv 0) pe_int (fun _ _ => rfl)) (pv 1))) (pss_cons (ps_asg (pe_op op_fdiv (pe_ix ix_list (pv 0) pe_int (fun _ _ => rfl)) (pv 1)) (pg_sub (pv 0) pe_int set_list)) (pss_one (ps_ret (pv 2))))) pss_nil) (pss_cons (ps_asg (pe_op op_mod (pe_op op_add (pe_op op_add (pe_op op_mul (pe_ix ix_list (pv 0) pe_int (fun _ _ => rfl)) (pe_ix ix_list (pv 0) pe_int (fun _ _ => rfl))) (pe_op op_mul pe_int (pe_ix ix_list (pv 0) pe_int (fun _ _ => rfl)))) pe_int) pe_int) (pg_sub (pv 0) pe_int set_list)) (pss_one (ps_ret (pe_op op_mod (pe_op op_fdiv (pe_ix ix_list (pv 0) pe_int (fun _ _ => rfl)) pe_int) (pv 1))))))
theorem ok_law_pool_0 (T : Txt K mg) : FnOk P w K mg base CX0 2 T.f_law_pool_0 T.fd_law_pool_0 ["hand"] (sp_law_pool_0 K) := by
  have nd := sc_law_pool_0.nd
  have G_law_draw_1 := ok_law_draw_1 (P := P) (w := w) (base := base) T
  refine T.F_law_pool_0.ok sc_law_pool_0 (fun vs H Q E h => ?_) (fun cdv A outer s H vs Q E hr h => ⟨t_law_pool_0 K, ?_, pure_law_pool_0 vs H Q E h⟩)
  · unfold sp_law_pool_0 at h
    repeat (first | (obtain ⟨rfl, _⟩ := h; rfl) | (obtain ⟨_, h⟩ := h))
  · unfold t_law_pool_0
    exact (pss_cons (ps_set (i := 1) nd rfl (by first | exact Or.inl rfl | exact Or.inr rfl) (Lv.pe_strS (l := [97, 98, 99, 100, 101, 102, 103, 104, 105, 106, 107, 108, 109, 110, 111, 112, 113, 114, 115, 116, 117, 118, 119, 120, 121, 122]) (by decide +kernel))) (pss_cons (ps_set (i := 2) nd rfl (by first | exact Or.inl rfl | exact Or.inr rfl) (pe_ix ix_list (pe_lst (pa_cons pe_int (pa_cons pe_int (pa_cons pe_int (pa_cons pe_int pa_nil))))) (pe_call G_law_draw_1 (hr.mono (by decide)) (by rfl) T.a_law_draw_1 T.F_law_draw_1.kp T.b_law_draw_1 .nil pass0 (pa_cons (pv 0) (pa_cons pe_int pa_nil))) (fun _ _ => rfl))) (pss_cons (ps_set (i := 3) nd rfl (by first | exact Or.inl rfl | exact Or.inr rfl) (pe_call G_law_draw_1 (hr.mono (by decide)) (by rfl) T.a_law_draw_1 T.F_law_draw_1.kp T.b_law_draw_1 .nil pass0 (pa_cons (pv 0) (pa_cons pe_int pa_nil)))) (pss_cons (ps_set (i := 4) nd rfl (by first | exact Or.inl rfl | exact Or.inr rfl) (pe_ix ix_list (pe_lst (pa_cons pe_int (pa_cons pe_int (pa_cons pe_int (pa_cons pe_int (pa_cons pe_int (pa_cons pe_int pa_nil))))))) (pe_call G_law_draw_1 (hr.mono (by decide)) (by rfl) T.a_law_draw_1 T.F_law_draw_1.kp T.b_law_draw_1 .nil pass0 (pa_cons (pv 0) (pa_cons pe_int pa_nil))) (fun _ _ => rfl))) (pss_one (ps_ret (pe_lc (own := [("k", 5)]) (g := (gName 5)) (tt := tYes) (by rfl) nd (pi_range1 (by rfl) T.z_range (pa_cons (pv 2) pa_nil)) (blkOk_by (own := [("k", 5)]) (N := N_law_pool_0) (sc := defScope s_law_pool_0) (by decide +kernel)) (fun _ _ _ _ _ => (pg_name (i := 5) nd rfl (by first | exact Or.inl rfl | exact Or.inr rfl))) (fun _ _ _ _ _ => pts_nil) (fun _ _ _ _ _ => (pe_ix Lv.ix_S (pv 1) (pe_op op_mod (pe_op op_add (pv 3) (pe_op op_mul (pv 4) (pv 5))) pe_int) (fun _ _ => rfl))))))))))
theorem ok_law_row_1 (T : Txt K mg) : FnOk P w K mg base CX0 2 T.f_law_row_1 T.fd_law_row_1 ["hand", "pool", "many"] (sp_law_row_1 K) := by
  have nd := sc_law_row_1.nd
  have G_law_draw_1 := ok_law_draw_1 (P := P) (w := w) (base := base) T
  refine T.F_law_row_1.ok sc_law_row_1 (fun vs H Q E h => ?_) (fun cdv A outer s H vs Q E hr h => ⟨t_law_row_1 K, ?_, pure_law_row_1 vs H Q E h⟩)
  · unfold sp_law_row_1 at h
    repeat (first | (obtain ⟨rfl, _⟩ := h; rfl) | (obtain ⟨_, h⟩ := h))
  · unfold t_law_row_1
    exact (pss_cons (ps_set (i := 3) nd rfl (by first | exact Or.inl rfl | exact Or.inr rfl) (pe_call G_law_draw_1 (hr.mono (by decide)) (by rfl) T.a_law_draw_1 T.F_law_draw_1.kp T.b_law_draw_1 .nil pass0 (pa_cons (pv 0) (pa_cons pe_int pa_nil)))) (pss_cons (ps_if (pt_cmpR Lv.op_eqI (pv 3) pe_int (nomark _)) (pss_cons (ps_set (i := 4) nd rfl (by first | exact Or.inl rfl | exact Or.inr rfl) (pe_lc (own := [("k", 7)]) (g := (gName 7)) (tt := tYes) (by rfl) nd (pi_range1 (by rfl) T.z_range (pa_cons (pe_op op_add pe_int (pe_call G_law_draw_1 (hr.mono (by decide)) (by rfl) T.a_law_draw_1 T.F_law_draw_1.kp T.b_law_draw_1 .nil pass0 (pa_cons (pv 0) (pa_cons pe_int pa_nil)))) pa_nil)) (blkOk_by (own := [("k", 7)]) (N := N_law_row_1) (sc := defScope s_law_row_1) (by decide +kernel)) (fun _ _ _ _ _ => (pg_name (i := 7) nd rfl (by first | exact Or.inl rfl | exact Or.inr rfl))) (fun _ _ _ _ _ => pts_nil) (fun _ _ _ _ _ => (pe_ix ix_list (pv 1) (pe_call G_law_draw_1 (hr.mono (by decide)) (by rfl) T.a_law_draw_1 T.F_law_draw_1.kp T.b_law_draw_1 .nil pass0 (pa_cons (pv 0) (pa_cons (pe_callB call_len_seq (by rfl) T.z_len (by decide +kernel) (pa_cons (pv 1) pa_nil)) pa_nil))) (fun _ _ => rfl))))) (pss_one (ps_ret (pe_bm PySem.F.plainAttrs_str PySem.F.slot_str_join PySem.F.type_str_join Lv.mt_joinS (Lv.pe_strS (l := []) (by decide +kernel)) (pa_cons (pe_lc (own := [("k", 7)]) (g := (gName 7)) (tt := tYes) (by rfl) nd (pi_range1 (by rfl) T.z_range (pa_cons (pv 2) pa_nil)) (blkOk_by (own := [("k", 7)]) (N := N_law_row_1) (sc := defScope s_law_row_1) (by decide +kernel)) (fun _ _ _ _ _ => (pg_name (i := 7) nd rfl (by first | exact Or.inl rfl | exact Or.inr rfl))) (fun _ _ _ _ _ => pts_nil) (fun _ _ _ _ _ => (pe_ix ix_list (pv 4) (pe_op op_mod (pv 7) (pe_callB call_len_seq (by rfl) T.z_len (by decide +kernel) (pa_cons (pv 4) pa_nil))) (fun _ _ => rfl)))) pa_nil))))) pss_nil) (pss_cons (ps_if (pt_cmpR Lv.op_eqI (pv 3) pe_int (nomark _)) (pss_cons (ps_set (i := 5) nd rfl (by first | exact Or.inl rfl | exact Or.inr rfl) (pe_op op_rep (pe_lst (pa_cons (pe_ix ix_list (pv 1) pe_int (fun _ _ => rfl)) pa_nil)) (pv 2))) (pss_cons (ps_for PassesOwn.never (by rfl) (pi_range1 (by rfl) T.z_range (pa_cons (pe_op op_mul pe_int (pe_callTy Lv.call_intB (by rfl) T.z_int (by decide +kernel) (pa_cons (pe_cmpR op_gt (pv 2) pe_int (nomark _)) pa_nil))) pa_nil)) (pg_name (i := 6) nd rfl (by first | exact Or.inl rfl | exact Or.inr rfl)) (pss_one (ps_asg (pe_ix ix_list (pv 1) (pe_call G_law_draw_1 (hr.mono (by decide)) (by rfl) T.a_law_draw_1 T.F_law_draw_1.kp T.b_law_draw_1 .nil pass0 (pa_cons (pv 0) (pa_cons (pe_callB call_len_seq (by rfl) T.z_len (by decide +kernel) (pa_cons (pv 1) pa_nil)) pa_nil))) (fun _ _ => rfl)) (pg_sub (pv 5) (pe_call G_law_draw_1 (hr.mono (by decide)) (by rfl) T.a_law_draw_1 T.F_law_draw_1.kp T.b_law_draw_1 .nil pass0 (pa_cons (pv 0) (pa_cons (pv 2) pa_nil))) set_list)))) (pss_one (ps_ret (pe_bm PySem.F.plainAttrs_str PySem.F.slot_str_join PySem.F.type_str_join Lv.mt_joinS (Lv.pe_strS (l := []) (by decide +kernel)) (pa_cons (pv 5) pa_nil)))))) pss_nil) (pss_one (ps_ret (pe_bm PySem.F.plainAttrs_str PySem.F.slot_str_join PySem.F.type_str_join Lv.mt_joinS (Lv.pe_strS (l := []) (by decide +kernel)) (pa_cons (pe_lc (own := [("k", 7)]) (g := (gName 7)) (tt := tYes) (by rfl) nd (pi_range1 (by rfl) T.z_range (pa_cons (pv 2) pa_nil)) (blkOk_by (own := [("k", 7)]) (N := N_law_row_1) (sc := defScope s_law_row_1) (by decide +kernel)) (fun _ _ _ _ _ => (pg_name (i := 7) nd rfl (by first | exact Or.inl rfl | exact Or.inr rfl))) (fun _ _ _ _ _ => pts_nil) (fun _ _ _ _ _ => (pe_ix ix_list (pv 1) (pe_call G_law_draw_1 (hr.mono (by decide)) (by rfl) T.a_law_draw_1 T.F_law_draw_1.kp T.b_law_draw_1 .nil pass0 (pa_cons (pv 0) (pa_cons (pe_callB call_len_seq (by rfl) T.z_len (by decide +kernel) (pa_cons (pv 1) pa_nil)) pa_nil))) (fun _ _ => rfl)))) pa_nil)))))))
theorem ok_law_size_1 (T : Txt K mg) : FnOk P w K mg base CX0 2 T.f_law_size_1 T.fd_law_size_1 ["hand", "k", "most"] (sp_law_size_1 K) := by
  have nd := sc_law_size_1.nd
  have G_law_draw_1 := ok_law_draw_1 (P := P) (w := w) (base := base) T
  refine T.F_law_size_1.ok sc_law_size_1 (fun vs H Q E h => ?_) (fun cdv A outer s H vs Q E hr h => ⟨t_law_size_1 K, ?_, pure_law_size_1 vs H Q E h⟩)
  · unfold sp_law_size_1 at h
    repeat (first | (obtain ⟨rfl, _⟩ := h; rfl) | (obtain ⟨_, h⟩ := h))
  · unfold t_law_size_1
    exact (pss_cons (ps_if (PW.pt (pw_and (pt_cmpR Lv.op_eqI (pv 1) pe_int (nomark _)) (pw_and1 (pt_cmpR Lv.op_eqI (pe_call G_law_draw_1 (hr.mono (by decide)) (by rfl) T.a_law_draw_1 T.F_law_draw_1.kp T.b_law_draw_1 .nil pass0 (pa_cons (pv 0) (pa_cons pe_int pa_nil))) pe_int (nomark _))))) (pss_cons (ps_set (i := 3) nd rfl (by first | exact Or.inl rfl | exact Or.inr rfl) (pe_call G_law_draw_1 (hr.mono (by decide)) (by rfl) T.a_law_draw_1 T.F_law_draw_1.kp T.b_law_draw_1 .nil pass0 (pa_cons (pv 0) (pa_cons pe_int pa_nil)))) (pss_one (ps_ret (pe_ix ix_list (pe_lst (pa_cons pe_int (pa_cons (pv 3) pa_nil))) (pe_call G_law_draw_1 (hr.mono (by decide)) (by rfl) T.a_law_draw_1 T.F_law_draw_1.kp T.b_law_draw_1 .nil pass0 (pa_cons (pv 0) (pa_cons pe_int pa_nil))) (fun _ _ => rfl))))) pss_nil) (pss_cons (ps_set (i := 4) nd rfl (by first | exact Or.inl rfl | exact Or.inr rfl) (pe_call G_law_draw_1 (hr.mono (by decide)) (by rfl) T.a_law_draw_1 T.F_law_draw_1.kp T.b_law_draw_1 .nil pass0 (pa_cons (pv 0) (pa_cons pe_int pa_nil)))) (pss_one (ps_ret (pe_call G_law_draw_1 (hr.mono (by decide)) (by rfl) T.a_law_draw_1 T.F_law_draw_1.kp T.b_law_draw_1 .nil pass0 (pa_cons (pv 0) (pa_cons (pe_ix ix_list (pe_lst (pa_cons pe_int (pa_cons pe_int (pa_cons (pe_op op_add (pv 2) pe_int) pa_nil)))) (pv 4) (fun _ _ => rfl)) pa_nil)))))))
theorem ok_law_other_1 (T : Txt K mg) : FnOk P w K mg base CX0 3 T.f_law_other_1 T.fd_law_other_1 ["hand", "pool", "row", "k"] (sp_law_other_1 K) := by
  have nd := sc_law_other_1.nd
  have G_law_draw_1 := ok_law_draw_1 (P := P) (w := w) (base := base) T
  have G_law_row_1 := ok_law_row_1 (P := P) (w := w) (base := base) T
  have G_law_size_1 := ok_law_size_1 (P := P) (w := w) (base := base) T
  refine T.F_law_other_1.ok sc_law_other_1 (fun vs H Q E h => ?_) (fun cdv A outer s H vs Q E hr h => ⟨t_law_other_1 K, ?_, pure_law_other_1 vs H Q E h⟩)
  · unfold sp_law_other_1 at h
    repeat (first | (obtain ⟨rfl, _⟩ := h; rfl) | (obtain ⟨_, h⟩ := h))
  · unfold t_law_other_1
    exact (pss_cons (ps_set (i := 4) nd rfl (by first | exact Or.inl rfl | exact Or.inr rfl) (pe_op op_add pe_int (pe_call G_law_draw_1 (hr.mono (by decide)) (by rfl) T.a_law_draw_1 T.F_law_draw_1.kp T.b_law_draw_1 .nil pass0 (pa_cons (pv 0) (pa_cons pe_int pa_nil))))) (pss_cons (ps_set (i := 5) nd rfl (by first | exact Or.inl rfl | exact Or.inr rfl) (pe_bm PySem.F.plainAttrs_str PySem.F.slot_str_join PySem.F.type_str_join Lv.mt_joinS (Lv.pe_strS (l := []) (by decide +kernel)) (pa_cons (pe_lc (own := [("letter", 7)]) (g := (gName 7)) (tt := (tTest (tOp Lv.rLt (tCall (sp_law_draw_1 K) [] E0 (tCons (tVar 0) (tCons (tC (.int 10)) tNil))) (tVar 4)))) (by rfl) nd (pi_str (pv 2)) (blkOk_by (own := [("letter", 7)]) (N := N_law_other_1) (sc := defScope s_law_other_1) (by decide +kernel)) (fun _ _ _ _ _ => (pg_name (i := 7) nd rfl (by first | exact Or.inl rfl | exact Or.inr rfl))) (fun _ _ _ _ _ => (pts_one (pt_cmpR op_lt (pe_call G_law_draw_1 (hr.mono (by decide)) (by rfl) T.a_law_draw_1 T.F_law_draw_1.kp T.b_law_draw_1 .nil pass0 (pa_cons (pv 0) (pa_cons pe_int pa_nil))) (pv 4) (nomark _)))) (fun _ _ _ _ _ => (pv 7))) pa_nil))) (pss_cons (ps_set (i := 6) nd rfl (by first | exact Or.inl rfl | exact Or.inr rfl) (pe_call G_law_draw_1 (hr.mono (by decide)) (by rfl) T.a_law_draw_1 T.F_law_draw_1.kp T.b_law_draw_1 .nil pass0 (pa_cons (pv 0) (pa_cons (pe_op op_add (pe_callB Lv.call_lenT (by rfl) T.z_len (by decide +kernel) (pa_cons (pv 5) pa_nil)) pe_int) pa_nil)))) (pss_cons (ps_set (i := 7) nd rfl (by first | exact Or.inl rfl | exact Or.inr rfl) (pe_ix Lv.ix_S (Lv.pe_strS (l := [97, 98, 99, 100, 101, 102, 103, 104, 105, 106, 107, 108, 109, 110, 111, 112, 113, 114, 115, 116, 117, 118, 119, 120, 121, 122]) (by decide +kernel)) (pe_call G_law_draw_1 (hr.mono (by decide)) (by rfl) T.a_law_draw_1 T.F_law_draw_1.kp T.b_law_draw_1 .nil pass0 (pa_cons (pv 0) (pa_cons pe_int pa_nil))) (fun _ _ => rfl))) (pss_cons (ps_set (i := 8) nd rfl (by first | exact Or.inl rfl | exact Or.inr rfl) (pe_call G_law_row_1 (hr.mono (by decide)) (by rfl) T.a_law_row_1 T.F_law_row_1.kp T.b_law_row_1 .nil pass0 (pa_cons (pv 0) (pa_cons (pv 1) (pa_cons (pe_call G_law_size_1 (hr.mono (by decide)) (by rfl) T.a_law_size_1 T.F_law_size_1.kp T.b_law_size_1 .nil pass0 (pa_cons (pv 0) (pa_cons (pv 3) (pa_cons pe_int pa_nil)))) pa_nil))))) (pss_cons (ps_set (i := 9) nd rfl (by first | exact Or.inl rfl | exact Or.inr rfl) (pe_lst (pa_cons (pv 5) (pa_cons (pv 5) (pa_cons (pe_op Lv.op_addS (pe_op Lv.op_addS (pe_slice Lv.sl_S (pv 5) po_none (po_some (pv 6))) (pv 7)) (pe_slice Lv.sl_S (pv 5) (po_some (pe_op op_add (pv 6) pe_int)) po_none)) (pa_cons (pe_op Lv.op_addS (pe_op Lv.op_addS (pe_slice Lv.sl_S (pv 5) po_none (po_some (pv 6))) (pv 7)) (pe_slice Lv.sl_S (pv 5) (po_some (pv 6)) po_none)) (pa_cons (pv 2) (pa_cons (pv 8) pa_nil)))))))) (pss_one (ps_ret (pe_slice Lv.sl_S (pe_ix ix_list (pv 9) (pe_call G_law_draw_1 (hr.mono (by decide)) (by rfl) T.a_law_draw_1 T.F_law_draw_1.kp T.b_law_draw_1 .nil pass0 (pa_cons (pv 0) (pa_cons pe_int pa_nil))) (fun _ _ => rfl)) po_none (po_some pe_int))))))))))
theorem ok_law_whole_0 (T : Txt K mg) : FnOk P w K mg base CX0 1 T.f_law_whole_0 T.fd_law_whole_0 ["found", "due"] (sp_law_whole_0 K) := by
  have nd := sc_law_whole_0.nd
  refine T.F_law_whole_0.ok sc_law_whole_0 (fun vs H Q E h => ?_) (fun cdv A outer s H vs Q E hr h => ⟨t_law_whole_0 K, ?_, pure_law_whole_0 vs H Q E h⟩)
  · unfold sp_law_whole_0 at h
    repeat (first | (obtain ⟨rfl, _⟩ := h; rfl) | (obtain ⟨_, h⟩ := h))
  · unfold t_law_whole_0
    exact (pss_one (ps_ret (pe_and (pe_callB call_isi (by rfl) T.z_isinstance (by decide +kernel) (pa_cons (pv 0) (pa_cons (pe_bltn (v := .ty "int") (u := .type "int") (by rfl) T.z_int (by decide +kernel) rfl) pa_nil))) (pe_and (pe_not (pe_callB call_isi (by rfl) T.z_isinstance (by decide +kernel) (pa_cons (pv 0) (pa_cons (pe_bltn (v := .ty "bool") (u := .type "bool") (by rfl) T.z_bool (by decide +kernel) rfl) pa_nil)))) (pe_one (pe_cmpR Lv.op_eqI (pv 0) (pv 1) (nomark _)))))))
theorem ok_law_ways_0 (T : Txt K mg) : FnOk P w K mg base CX0 1 T.f_law_ways_0 T.fd_law_ways_0 ["row", "other"] (sp_law_ways_0 K) := by
  have nd := sc_law_ways_0.nd
  refine T.F_law_ways_0.ok sc_law_ways_0 (fun vs H Q E h => ?_) (fun cdv A outer s H vs Q E hr h => ⟨t_law_ways_0 K, ?_, pure_law_ways_0 vs H Q E h⟩)
  · unfold sp_law_ways_0 at h
    repeat (first | (obtain ⟨rfl, _⟩ := h; rfl) | (obtain ⟨_, h⟩ := h))
  · unfold t_law_ways_0
    exact (pss_cons (ps_set (i := 2) nd rfl (by first | exact Or.inl rfl | exact Or.inr rfl) (pe_lst (pa_cons (pe_op op_cat (pe_lst (pa_cons pe_int pa_nil)) (pe_op op_rep (pe_lst (pa_cons pe_int pa_nil)) (pe_callB Lv.call_lenT (by rfl) T.z_len (by decide +kernel) (pa_cons (pv 1) pa_nil)))) pa_nil))) (pss_cons (ps_for PassesOwn.never (by rfl) (pi_str (pv 0)) (pg_name (i := 3) nd rfl (by first | exact Or.inl rfl | exact Or.inr rfl)) (pss_cons (ps_set (i := 4) nd rfl (by first | exact Or.inl rfl | exact Or.inr rfl) (pe_ix ix_list (pv 2) (pe_un un_neg pe_int) (fun _ _ => rfl))) (pss_cons (ps_set (i := 5) nd rfl (by first | exact Or.inl rfl | exact Or.inr rfl) (pe_callTy call_list_of (by rfl) T.z_list (by decide +kernel) (pa_cons (pv 4) pa_nil))) (pss_cons (ps_for PassesOwn.never (by rfl) (Lv.pi_enumS (by rfl) T.z_enumerate (pa_cons (pv 1) pa_nil)) (pg_tup (by rfl) (pgs_cons (pg_name (i := 6) nd rfl (by first | exact Or.inl rfl | exact Or.inr rfl)) (pgs_cons (pg_name (i := 7) nd rfl (by first | exact Or.inl rfl | exact Or.inr rfl)) pgs_nil))) (pss_one (ps_if (pt_cmpR Lv.op_eqS (pv 7) (pv 3) (nomark _)) (pss_one (ps_asg (pe_op op_add (pe_ix ix_list (pv 5) (pe_op op_add (pv 6) pe_int) (fun _ _ => rfl)) (pe_ix ix_list (pv 4) (pv 6) (fun _ _ => rfl))) (pg_sub (pv 5) (pe_op op_add (pv 6) pe_int) set_list))) pss_nil))) (pss_one (ps_expr (pe_bm PySem.F.plainAttrs_list PySem.F.slot_list_append PySem.F.type_list_append mt_append (pv 2) (pa_cons (pv 5) pa_nil)))))))) (pss_one (ps_ret (pv 2)))))
theorem ok_law_k21 (T : Txt K mg) : FnOk P w K mg base CX0 4 T.f_law_k21 T.fd_law_k21 ["script"] (sp_law_k21 K) := by
  have nd := sc_law_k21.nd
  have G_many_ways_0 := ok_many_ways_0 (P := P) (w := w) (base := base) T
  have G_law_hand_1 := ok_law_hand_1 (P := P) (w := w) (base := base) T
  have G_law_cells_0 := ok_law_cells_0 (P := P) (w := w) (base := base) T
  have G_law_pool_0 := ok_law_pool_0 (P := P) (w := w) (base := base) T
  have G_law_row_1 := ok_law_row_1 (P := P) (w := w) (base := base) T
  have G_law_size_1 := ok_law_size_1 (P := P) (w := w) (base := base) T
  have G_law_other_1 := ok_law_other_1 (P := P) (w := w) (base := base) T
  have G_law_whole_0 := ok_law_whole_0 (P := P) (w := w) (base := base) T
  have G_law_ways_0 := ok_law_ways_0 (P := P) (w := w) (base := base) T
  refine T.F_law_k21.ok sc_law_k21 (fun vs H Q E h => ?_) (fun cdv A outer s H vs Q E hr h => ⟨t_law_k21 K, ?_, pure_law_k21 vs H Q E h⟩)
  · unfold sp_law_k21 at h
    repeat (first | (obtain ⟨rfl, _⟩ := h; rfl) | (obtain ⟨_, h⟩ := h))
  · unfold t_law_k21
    exact (pss_cons (ps_for PassesOwn.never (by rfl) (pi_list (pe_call G_law_cells_0 (hr.mono (by decide)) (by rfl) T.a_law_cells_0 T.F_law_cells_0.kp T.b_law_cells_0 .nil pass0 (pa_cons (pv 0) (pa_cons pe_int pa_nil)))) (pg_tup (by rfl) (pgs_cons (pg_name (i := 1) nd rfl (by first | exact Or.inl rfl | exact Or.inr rfl)) (pgs_cons (pg_name (i := 2) nd rfl (by first | exact Or.inl rfl | exact Or.inr rfl)) pgs_nil))) (pss_cons (ps_set (i := 3) nd rfl (by first | exact Or.inl rfl | exact Or.inr rfl) (pe_call G_law_hand_1 (hr.mono (by decide)) (by rfl) T.a_law_hand_1 T.F_law_hand_1.kp T.b_law_hand_1 .nil pass0 (pa_cons (pv 2) (pa_cons (pv 1) pa_nil)))) (pss_cons (ps_set (i := 4) nd rfl (by first | exact Or.inl rfl | exact Or.inr rfl) (pe_call G_law_pool_0 (hr.mono (by decide)) (by rfl) T.a_law_pool_0 T.F_law_pool_0.kp T.b_law_pool_0 .nil pass0 (pa_cons (pv 3) pa_nil))) (pss_cons (ps_set (i := 5) nd rfl (by first | exact Or.inl rfl | exact Or.inr rfl) (pe_call G_law_row_1 (hr.mono (by decide)) (by rfl) T.a_law_row_1 T.F_law_row_1.kp T.b_law_row_1 .nil pass0 (pa_cons (pv 3) (pa_cons (pv 4) (pa_cons (pe_call G_law_size_1 (hr.mono (by decide)) (by rfl) T.a_law_size_1 T.F_law_size_1.kp T.b_law_size_1 .nil pass0 (pa_cons (pv 3) (pa_cons (pv 1) (pa_cons pe_int pa_nil)))) pa_nil))))) (pss_cons (ps_set (i := 6) nd rfl (by first | exact Or.inl rfl | exact Or.inr rfl) (pe_call G_law_other_1 (hr.mono (by decide)) (by rfl) T.a_law_other_1 T.F_law_other_1.kp T.b_law_other_1 .nil pass0 (pa_cons (pv 3) (pa_cons (pv 4) (pa_cons (pv 5) (pa_cons (pv 1) pa_nil)))))) (pss_one (ps_for PassesOwn.never (by rfl) (pi_list (pe_lst (pa_cons (pe_tup (pa_cons (pv 5) (pa_cons (pv 6) pa_nil))) (pa_cons (pe_tup (pa_cons (pv 6) (pa_cons (pv 5) pa_nil))) (pa_cons (pe_tup (pa_cons (pv 5) (pa_cons (Lv.pe_strS (l := []) (by decide +kernel)) pa_nil))) (pa_cons (pe_tup (pa_cons (pv 5) (pa_cons (Lv.pe_revS (pv 5)) pa_nil))) pa_nil)))))) (pg_tup (by rfl) (pgs_cons (pg_name (i := 7) nd rfl (by first | exact Or.inl rfl | exact Or.inr rfl)) (pgs_cons (pg_name (i := 8) nd rfl (by first | exact Or.inl rfl | exact Or.inr rfl)) pgs_nil))) (pss_cons (ps_set (i := 9) nd rfl (by first | exact Or.inl rfl | exact Or.inr rfl) (pe_ix ix_list (pe_ix ix_list (pe_call G_law_ways_0 (hr.mono (by decide)) (by rfl) T.a_law_ways_0 T.F_law_ways_0.kp T.b_law_ways_0 .nil pass0 (pa_cons (pv 7) (pa_cons (pv 8) pa_nil))) (pe_un un_neg pe_int) (fun _ _ => rfl)) (pe_un un_neg pe_int) (fun _ _ => rfl))) (pss_one (ps_for PassesOwn.never (by rfl) (pi_range1 (by rfl) T.z_range (pa_cons pe_int pa_nil)) (pg_name (i := 10) nd rfl (by first | exact Or.inl rfl | exact Or.inr rfl)) (pss_one (ps_if (pt_not (pt_val (pe_call G_law_whole_0 (hr.mono (by decide)) (by rfl) T.a_law_whole_0 T.F_law_whole_0.kp T.b_law_whole_0 .nil pass0 (pa_cons (pe_call G_many_ways_0 (hr.mono (by decide)) (by rfl) T.a_many_ways_0 T.F_many_ways_0.kp T.b_many_ways_0 .nil pass0 (pa_cons (pv 7) (pa_cons (pv 8) pa_nil))) (pa_cons (pv 9) pa_nil))))) (pss_one (ps_ret pe_bl)) pss_nil)))))))))))) (pss_one (ps_ret (pe_and (pe_cmpR Lv.op_eqI (pe_call G_many_ways_0 (hr.mono (by decide)) (by rfl) T.a_many_ways_0 T.F_many_ways_0.kp T.b_many_ways_0 .nil pass0 (pa_cons (Lv.pe_strS (l := [97, 97, 97, 97]) (by decide +kernel)) (pa_cons (Lv.pe_strS (l := [97, 97]) (by decide +kernel)) pa_nil))) pe_int (nomark _)) (pe_and (pe_cmpR Lv.op_eqI (pe_call G_many_ways_0 (hr.mono (by decide)) (by rfl) T.a_many_ways_0 T.F_many_ways_0.kp T.b_many_ways_0 .nil pass0 (pa_cons (Lv.pe_strS (l := []) (by decide +kernel)) (pa_cons (Lv.pe_strS (l := []) (by decide +kernel)) pa_nil))) pe_int (nomark _)) (pe_one (pe_cmpR Lv.op_eqI (pe_call G_many_ways_0 (hr.mono (by decide)) (by rfl) T.a_many_ways_0 T.F_many_ways_0.kp T.b_many_ways_0 .nil pass0 (pa_cons (Lv.pe_strS (l := []) (by decide +kernel)) (pa_cons (Lv.pe_strS (l := [97]) (by decide +kernel)) pa_nil))) pe_int (nomark _))))))))
end
theorem all_mk {l : PySem.W.OpenLaw} {w : World} {K : PySem.W.Frag} {h : Heap} {mg : Str → Option Value} {fa : Addr} (X : K.In h) (G : h.Ns mainGlobals mg) (hfa : mg "law" = some (.ref fa))
    {f0 : Addr} {od0 an0 : Option Addr} {sl0 : Array (Option Value)} {oc0 kV0 dc0 pm0 cd0 ct0 : Value}
    (a0 : PySem.W.nsIn K mainGlobals "ways_from" = some (some (.ref f0))) (l0 : K.lookup f0 = some ⟨oc0, od0, .func (PySem.W.fnOf "ways_from" "ways_from" (defArgs s_ways_from_0) (defBody s_ways_from_0) (defScope s_ways_from_0) .none kV0 dc0 pm0 an0 cd0 ct0), sl0⟩) (c0 : PySem.W.codeIn K cd0 "ways_from" = true) (k0 : PySem.W.keepIn K (.ref f0) = true)
    {f1 : Addr} {od1 an1 : Option Addr} {sl1 : Array (Option Value)} {oc1 kV1 dc1 pm1 cd1 ct1 : Value}
    (a1 : PySem.W.nsIn K mainGlobals "many_ways" = some (some (.ref f1))) (l1 : K.lookup f1 = some ⟨oc1, od1, .func (PySem.W.fnOf "many_ways" "many_ways" (defArgs s_many_ways_0) (defBody s_many_ways_0) (defScope s_many_ways_0) .none kV1 dc1 pm1 an1 cd1 ct1), sl1⟩) (c1 : PySem.W.codeIn K cd1 "many_ways" = true) (k1 : PySem.W.keepIn K (.ref f1) = true)
    {f2 : Addr} {od2 an2 : Option Addr} {sl2 : Array (Option Value)} {oc2 kV2 dc2 pm2 cd2 ct2 : Value}
    (a2 : PySem.W.nsIn K mainGlobals "_law_hand" = some (some (.ref f2))) (l2 : K.lookup f2 = some ⟨oc2, od2, .func (PySem.W.fnOf "_law_hand" "_law_hand" (defArgs s_law_hand_1) (defBody s_law_hand_1) (defScope s_law_hand_1) .none kV2 dc2 pm2 an2 cd2 ct2), sl2⟩) (c2 : PySem.W.codeIn K cd2 "_law_hand" = true) (k2 : PySem.W.keepIn K (.ref f2) = true)
    {f3 : Addr} {od3 an3 : Option Addr} {sl3 : Array (Option Value)} {oc3 kV3 dc3 pm3 cd3 ct3 : Value}
    (a3 : PySem.W.nsIn K mainGlobals "_law_cells" = some (some (.ref f3))) (l3 : K.lookup f3 = some ⟨oc3, od3, .func (PySem.W.fnOf "_law_cells" "_law_cells" (defArgs s_law_cells_0) (defBody s_law_cells_0) (defScope s_law_cells_0) .none kV3 dc3 pm3 an3 cd3 ct3), sl3⟩) (c3 : PySem.W.codeIn K cd3 "_law_cells" = true) (k3 : PySem.W.keepIn K (.ref f3) = true)
    {f4 : Addr} {od4 an4 : Option Addr} {sl4 : Array (Option Value)} {oc4 kV4 dc4 pm4 cd4 ct4 : Value}
    (a4 : PySem.W.nsIn K mainGlobals "_law_draw" = some (some (.ref f4))) (l4 : K.lookup f4 = some ⟨oc4, od4, .func (PySem.W.fnOf "_law_draw" "_law_draw" (defArgs s_law_draw_1) (defBody s_law_draw_1) (defScope s_law_draw_1) .none kV4 dc4 pm4 an4 cd4 ct4), sl4⟩) (c4 : PySem.W.codeIn K cd4 "_law_draw" = true) (k4 : PySem.W.keepIn K (.ref f4) = true)
    {f5 : Addr} {od5 an5 : Option Addr} {sl5 : Array (Option Value)} {oc5 kV5 dc5 pm5 cd5 ct5 : Value}
    (a5 : PySem.W.nsIn K mainGlobals "_law_pool" = some (some (.ref f5))) (l5 : K.lookup f5 = some ⟨oc5, od5, .func (PySem.W.fnOf "_law_pool" "_law_pool" (defArgs s_law_pool_0) (defBody s_law_pool_0) (defScope s_law_pool_0) .none kV5 dc5 pm5 an5 cd5 ct5), sl5⟩) (c5 : PySem.W.codeIn K cd5 "_law_pool" = true) (k5 : PySem.W.keepIn K (.ref f5) = true)
    {f6 : Addr} {od6 an6 : Option Addr} {sl6 : Array (Option Value)} {oc6 kV6 dc6 pm6 cd6 ct6 : Value}
    (a6 : PySem.W.nsIn K mainGlobals "_law_row" = some (some (.ref f6))) (l6 : K.lookup f6 = some ⟨oc6, od6, .func (PySem.W.fnOf "_law_row" "_law_row" (defArgs s_law_row_1) (defBody s_law_row_1) (defScope s_law_row_1) .none kV6 dc6 pm6 an6 cd6 ct6), sl6⟩) (c6 : PySem.W.codeIn K cd6 "_law_row" = true) (k6 : PySem.W.keepIn K (.ref f6) = true)
    {f7 : Addr} {od7 an7 : Option Addr} {sl7 : Array (Option Value)} {oc7 kV7 dc7 pm7 cd7 ct7 : Value}
    (a7 : PySem.W.nsIn K mainGlobals "_law_size" = some (some (.ref f7))) (l7 : K.lookup f7 = some ⟨oc7, od7, .func (PySem.W.fnOf "_law_size" "_law_size" (defArgs s_law_size_1) (defBody s_law_size_1) (defScope s_law_size_1) .none kV7 dc7 pm7 an7 cd7 ct7), sl7⟩) (c7 : PySem.W.codeIn K cd7 "_law_size" = true) (k7 : PySem.W.keepIn K (.ref f7) = true)
    {f8 : Addr} {od8 an8 : Option Addr} {sl8 : Array (Option Value)} {oc8 kV8 dc8 pm8 cd8 ct8 : Value}
    (a8 : PySem.W.nsIn K mainGlobals "_law_other" = some (some (.ref f8))) (l8 : K.lookup f8 = some ⟨oc8, od8, .func (PySem.W.fnOf "_law_other" "_law_other" (defArgs s_law_other_1) (defBody s_law_other_1) (defScope s_law_other_1) .none kV8 dc8 pm8 an8 cd8 ct8), sl8⟩) (c8 : PySem.W.codeIn K cd8 "_law_other" = true) (k8 : PySem.W.keepIn K (.ref f8) = true)
    {f9 : Addr} {od9 an9 : Option Addr} {sl9 : Array (Option Value)} {oc9 kV9 dc9 pm9 cd9 ct9 : Value}
    (a9 : PySem.W.nsIn K mainGlobals "_law_whole" = some (some (.ref f9))) (l9 : K.lookup f9 = some ⟨oc9, od9, .func (PySem.W.fnOf "_law_whole" "_law_whole" (defArgs s_law_whole_0) (defBody s_law_whole_0) (defScope s_law_whole_0) .none kV9 dc9 pm9 an9 cd9 ct9), sl9⟩) (c9 : PySem.W.codeIn K cd9 "_law_whole" = true) (k9 : PySem.W.keepIn K (.ref f9) = true)
    {f10 : Addr} {od10 an10 : Option Addr} {sl10 : Array (Option Value)} {oc10 kV10 dc10 pm10 cd10 ct10 : Value}
    (a10 : PySem.W.nsIn K mainGlobals "_law_ways" = some (some (.ref f10))) (l10 : K.lookup f10 = some ⟨oc10, od10, .func (PySem.W.fnOf "_law_ways" "_law_ways" (defArgs s_law_ways_0) (defBody s_law_ways_0) (defScope s_law_ways_0) .none kV10 dc10 pm10 an10 cd10 ct10), sl10⟩) (c10 : PySem.W.codeIn K cd10 "_law_ways" = true) (k10 : PySem.W.keepIn K (.ref f10) = true)
    {f11 : Addr} {od11 an11 : Option Addr} {sl11 : Array (Option Value)} {oc11 kV11 dc11 pm11 cd11 ct11 : Value}
    (a11 : PySem.W.nsIn K mainGlobals "law" = some (some (.ref f11))) (l11 : K.lookup f11 = some ⟨oc11, od11, .func (PySem.W.fnOf "law" "law" (defArgs s_law_k21) (defBody s_law_k21) (defScope s_law_k21) .none kV11 dc11 pm11 an11 cd11 ct11), sl11⟩) (c11 : PySem.W.codeIn K cd11 "law" = true) (k11 : PySem.W.keepIn K (.ref f11) = true)
    (z0 : PySem.W.nsIn K mainGlobals "bool" = some none)
    (z1 : PySem.W.nsIn K mainGlobals "enumerate" = some none)
    (z2 : PySem.W.nsIn K mainGlobals "int" = some none)
    (z3 : PySem.W.nsIn K mainGlobals "isinstance" = some none)
    (z4 : PySem.W.nsIn K mainGlobals "len" = some none)
    (z5 : PySem.W.nsIn K mainGlobals "list" = some none)
    (z6 : PySem.W.nsIn K mainGlobals "range" = some none) :
    ∃ fd : FuncData, (∀ (s : Shared) (v : Value), BindsTo s fd ⟨[v], []⟩ [("script", v)]) ∧ ∀ base : Heap, K.In base → base.Ns mainGlobals mg → FnOk l.prog w K mg base CX0 4 fa fd ["script"] (sp_law_k21 K) := by
  have e := hfa.symm.trans (PySem.W.mg_of X G a11)
  cases e
  have F0 := fun_mk (st := s_ways_from_0) l0 c0 k0
  have F1 := fun_mk (st := s_many_ways_0) l1 c1 k1
  have F2 := fun_mk (st := s_law_hand_1) l2 c2 k2
  have F3 := fun_mk (st := s_law_cells_0) l3 c3 k3
  have F4 := fun_mk (st := s_law_draw_1) l4 c4 k4
  have F5 := fun_mk (st := s_law_pool_0) l5 c5 k5
  have F6 := fun_mk (st := s_law_row_1) l6 c6 k6
  have F7 := fun_mk (st := s_law_size_1) l7 c7 k7
  have F8 := fun_mk (st := s_law_other_1) l8 c8 k8
  have F9 := fun_mk (st := s_law_whole_0) l9 c9 k9
  have F10 := fun_mk (st := s_law_ways_0) l10 c10 k10
  have F11 := fun_mk (st := s_law_k21) l11 c11 k11
  let T : Txt K mg := {
    f_ways_from_0 := f0,
    fd_ways_from_0 := _,
    F_ways_from_0 := F0,
    a_ways_from_0 := PySem.W.mg_of X G a0,
    b_ways_from_0 := F0.binds (ps := ["row", "other"]) fun _ _ _ _ _ _ us hl => match us, hl with | [_, _], _ => rfl,
    f_many_ways_0 := f1,
    fd_many_ways_0 := _,
    F_many_ways_0 := F1,
    a_many_ways_0 := PySem.W.mg_of X G a1,
    b_many_ways_0 := F1.binds (ps := ["row", "other"]) fun _ _ _ _ _ _ us hl => match us, hl with | [_, _], _ => rfl,
    f_law_hand_1 := f2,
    fd_law_hand_1 := _,
    F_law_hand_1 := F2,
    a_law_hand_1 := PySem.W.mg_of X G a2,
    b_law_hand_1 := F2.binds (ps := ["cell", "k"]) fun _ _ _ _ _ _ us hl => match us, hl with | [_, _], _ => rfl,
    f_law_cells_0 := f3,
    fd_law_cells_0 := _,
    F_law_cells_0 := F3,
    a_law_cells_0 := PySem.W.mg_of X G a3,
    b_law_cells_0 := F3.binds (ps := ["script", "many"]) fun _ _ _ _ _ _ us hl => match us, hl with | [_, _], _ => rfl,
    f_law_draw_1 := f4,
    fd_law_draw_1 := _,
    F_law_draw_1 := F4,
    a_law_draw_1 := PySem.W.mg_of X G a4,
    b_law_draw_1 := F4.binds (ps := ["hand", "limit"]) fun _ _ _ _ _ _ us hl => match us, hl with | [_, _], _ => rfl,
    f_law_pool_0 := f5,
    fd_law_pool_0 := _,
    F_law_pool_0 := F5,
    a_law_pool_0 := PySem.W.mg_of X G a5,
    b_law_pool_0 := F5.binds (ps := ["hand"]) fun _ _ _ _ _ _ us hl => match us, hl with | [_], _ => rfl,
    f_law_row_1 := f6,
    fd_law_row_1 := _,
    F_law_row_1 := F6,
    a_law_row_1 := PySem.W.mg_of X G a6,
    b_law_row_1 := F6.binds (ps := ["hand", "pool", "many"]) fun _ _ _ _ _ _ us hl => match us, hl with | [_, _, _], _ => rfl,
    f_law_size_1 := f7,
    fd_law_size_1 := _,
    F_law_size_1 := F7,
    a_law_size_1 := PySem.W.mg_of X G a7,
    b_law_size_1 := F7.binds (ps := ["hand", "k", "most"]) fun _ _ _ _ _ _ us hl => match us, hl with | [_, _, _], _ => rfl,
    f_law_other_1 := f8,
    fd_law_other_1 := _,
    F_law_other_1 := F8,
    a_law_other_1 := PySem.W.mg_of X G a8,
    b_law_other_1 := F8.binds (ps := ["hand", "pool", "row", "k"]) fun _ _ _ _ _ _ us hl => match us, hl with | [_, _, _, _], _ => rfl,
    f_law_whole_0 := f9,
    fd_law_whole_0 := _,
    F_law_whole_0 := F9,
    a_law_whole_0 := PySem.W.mg_of X G a9,
    b_law_whole_0 := F9.binds (ps := ["found", "due"]) fun _ _ _ _ _ _ us hl => match us, hl with | [_, _], _ => rfl,
    f_law_ways_0 := f10,
    fd_law_ways_0 := _,
    F_law_ways_0 := F10,
    a_law_ways_0 := PySem.W.mg_of X G a10,
    b_law_ways_0 := F10.binds (ps := ["row", "other"]) fun _ _ _ _ _ _ us hl => match us, hl with | [_, _], _ => rfl,
    f_law_k21 := _,
    fd_law_k21 := _,
    F_law_k21 := F11,
    z_bool := PySem.W.mg_none_of X G z0,
    z_enumerate := PySem.W.mg_none_of X G z1,
    z_int := PySem.W.mg_none_of X G z2,
    z_isinstance := PySem.W.mg_none_of X G z3,
    z_len := PySem.W.mg_none_of X G z4,
    z_list := PySem.W.mg_none_of X G z5,
    z_range := PySem.W.mg_none_of X G z6 }
  exact ⟨_, fun s v => .of_eq rfl, fun base _ _ => ok_law_k21 T⟩
end Lv
open PySem PySem.W PyProof.Rows
set_option maxHeartbeats 0 in
theorem PySem.Challenge.cw_leavings_k21_ways_counted_holds : PySem.Challenge.rw_leavings_k21_ways_counted.Holds := by
  w_on; o_law; k_head; (case hw => w_witness2)
  k_fill
  refine L2.walk_of (l := PySem.Challenge.rw_leavings_k21_ways_counted) (n := 63) (k := 4) (x := "script") (CX := fun _ => L2.CX0) (sp := fun w => Lv.sp_law_k21 _) rfl (by decide) rfl ⟨rfl, by decide, by decide⟩ (fun w h Y => PySem.W.kIn_of Y) ?F (fun _ _ a ns hl _ hS => ⟨a, ns, rfl, hS, hl, fun _ => rfl⟩) (fun _ _ _ _ _ h => h)
  case F =>
    intro w mg fa h KX G hmg
    refine' Lv.all_mk KX G hmg ?a0 ?l0 ?c0 ?k0 ?a1 ?l1 ?c1 ?k1 ?a2 ?l2 ?c2 ?k2 ?a3 ?l3 ?c3 ?k3 ?a4 ?l4 ?c4 ?k4 ?a5 ?l5 ?c5 ?k5 ?a6 ?l6 ?c6 ?k6 ?a7 ?l7 ?c7 ?k7 ?a8 ?l8 ?c8 ?k8 ?a9 ?l9 ?c9 ?k9 ?a10 ?l10 ?c10 ?k10 ?a11 ?l11 ?c11 ?k11 ?z0 ?z1 ?z2 ?z3 ?z4 ?z5 ?z6
    (case a0 => k_is); (case l0 => k_is); (case c0 => k_is); (case k0 => k_is); (case a1 => k_is); (case l1 => k_is); (case c1 => k_is); (case k1 => k_is); (case a2 => k_is); (case l2 => k_is); (case c2 => k_is); (case k2 => k_is); (case a3 => k_is); (case l3 => k_is); (case c3 => k_is); (case k3 => k_is); (case a4 => k_is); (case l4 => k_is); (case c4 => k_is); (case k4 => k_is); (case a5 => k_is); (case l5 => k_is); (case c5 => k_is); (case k5 => k_is); (case a6 => k_is); (case l6 => k_is); (case c6 => k_is); (case k6 => k_is); (case a7 => k_is); (case l7 => k_is); (case c7 => k_is); (case k7 => k_is); (case a8 => k_is); (case l8 => k_is); (case c8 => k_is); (case k8 => k_is); (case a9 => k_is); (case l9 => k_is); (case c9 => k_is); (case k9 => k_is); (case a10 => k_is); (case l10 => k_is); (case c10 => k_is); (case k10 => k_is); (case a11 => k_is); (case l11 => k_is); (case c11 => k_is); (case k11 => k_is); (case z0 => k_is); (case z1 => k_is); (case z2 => k_is); (case z3 => k_is); (case z4 => k_is); (case z5 => k_is); (case z6 => k_is)
