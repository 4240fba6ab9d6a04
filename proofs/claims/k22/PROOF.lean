import PyProof.Rows.All
import Wide.All
import OpenK.AllK
import Wide.FinOn
import HandS.ForMost
import HandS.IsInst
import HandS.StrMore
import HandS.Walk
import HandS.Style
import HandS.Codes
import HandS.Conv
import HandS.More
import HandS.Evl
import PyProof.StrBlock2
import KE.KDictZip
import HandS.ListItems
import KE.GoesEnum
import KE.GoesMore
import HandS.SetFor
import HandS.Strs
import PyProof.Rows.SortShellAny
import PyProof.StrWalks
import KE.LtSeq
import PyProof.StrLawsFirst
import HandS.Replace
import HandS.Wide
import HandS.SortInts
import PySem.Challenge.RW_leavings_k22_ways_in_order
set_option Elab.async false
set_option linter.all false
set_option maxRecDepth 100000
set_option maxHeartbeats 2000000
namespace Lv
open PySem PySem.Spec PyProof.Rows L2 SX

/-! texts as lists of codes -/
theorem pe_strS {X : Cx} {x : Str} {j : Nat} {pos : Pos} {l : List Nat} (h : x = S l) : PE X (.Constant (.str x) j pos) (tC (.str (S l))) := by
  subst h
  exact pe_str
/-- s[::-1] of a text -/
def tRevS (te : TE) : TE := fun σ H Q => te σ H fun x H1 => ∃ l : List Nat, x = .str (S l) ∧ l.length ≤ sizeLine ∧ Q (.str (S l.reverse)) H1
theorem fm_some {α β : Type} {f : α → Option β} {g : α → β} : ∀ {l : List α}, (∀ k ∈ l, f k = some (g k)) → l.filterMap f = l.map g
  | [], _ => rfl
  | a :: l, h => by
    rw [List.filterMap_cons, h a List.mem_cons_self, List.map_cons, fm_some fun k hk => h k (List.mem_cons_of_mem _ hk)]
theorem range_getD {α : Type} (l : List α) (d : α) : (List.range l.length).map (fun k => l.getD k d) = l := by
  apply List.ext_getElem
  · simp
  · intro i h1 h2
    simp [List.getD_eq_getElem?_getD, h2]
theorem idx_rev (n : Nat) : Builtin.Str.strSliceIndices none none (-1) n = (List.range n).map (fun k => n - 1 - k) := by
  unfold Builtin.Str.strSliceIndices PySem.sliceRange
  simp only [show ¬ ((-1 : Int) > 0) by decide, if_false]
  by_cases h : (n : Int) - 1 > -1
  · rw [if_pos h]
    have e : (((n : Int) - 1 - -1 - -1 - 1) / - -1).toNat = n := by
      rw [show (- -1 : Int) = 1 by decide, Int.ediv_one]; omega
    rw [e]
    refine List.map_congr_left fun k hk => ?_
    have := List.mem_range.mp hk
    omega
  · have : n = 0 := by omega
    subst this
    rfl
theorem pick_rev (l : List Nat) : (((List.range l.length).map (fun k => l.length - 1 - k)).filterMap (fun i => l.toArray[i]?)) = l.reverse := by
  rw [List.filterMap_map, fm_some (g := fun k => l.reverse.getD k 0)]
  · have := range_getD l.reverse 0
    rw [List.length_reverse] at this
    exact this
  · intro k hk
    have hk := List.mem_range.mp hk
    have h1 : l.length - 1 - k < l.length := by omega
    show l.toArray[l.length - 1 - k]? = _
    rw [List.getElem?_toArray, List.getD_eq_getElem?_getD, List.getElem?_reverse hk, List.getElem?_eq_getElem h1]
    rfl
theorem pe_revS {X : Cx} {e : Expr} {te : TE} {k : Nat} {p1 p2 p3 pos : Pos} (he : PE X e te) : PE X (.Subscript e (.Slice none none (some (.UnaryOp .USub (.Constant (.int 1) k p1) p2)) p3) pos) (tRevS te) := by
  refine ⟨fun pins s σ H Q I h => ?_⟩
  refine Subscript_ (thn (he.run pins s σ H _ I h) fun v s1 ⟨x, H1, I1, r1, q1⟩ => ?_)
  obtain ⟨l, rfl, hz, q⟩ := q1
  obtain ⟨t, rfl⟩ := r1
  have hst : PO X (some (.UnaryOp .USub (.Constant (.int 1) k p1) p2)) (tPart (tUn (rU fun i => .int (-i)) (tC (.int 1)))) := po_some (pe_un un_neg pe_int)
  refine wpAny_Slice (thn (po_none.run pins s1 σ H1 (fun o H2 => o = none ∧ H2 = H1) I1 ⟨rfl, rfl⟩) fun vl s2 ⟨lo, H2, I2, pl, el, e2⟩ => ?_)
  subst el e2
  refine thn (po_none.run pins s2 σ H2 (fun o H3 => o = none ∧ H3 = H2) I2 ⟨rfl, rfl⟩) fun vu s3 ⟨u, H3, I3, pu, eu, e3⟩ => ?_
  subst eu e3
  refine thn (hst.run pins s3 σ H3 (fun o H4 => o = some (-1) ∧ H4 = H3) I3 ⟨1, rfl, -1, rfl, rfl, rfl⟩) fun vs s4 ⟨o, H4, I4, ps, eo, e4⟩ => ?_
  subst eo e4
  have I5 : Inv X pins σ H4 { s4 with heap := s4.heap.push { cls := .type "slice", data := .fields #[vl, vu, vs] } } := I4.kept (t' := s4.toks) fun b ob q => Heap.get?_push_of_some _ q
  obtain ⟨a1, rfl, e1⟩ := IsPart.raw pl
  obtain ⟨a2, rfl, e2⟩ := IsPart.raw pu
  obtain ⟨a3, rfl, e3⟩ := IsPart.raw ps
  show wpAny (model X.prog X.w) X.A (subscriptTail e (.Slice none none (some (.UnaryOp .USub (.Constant (.int 1) k p1) p2)) p3) (.str (S l) t) (.ref s4.heap.objs.size)) (EP X pins σ Q) X.xe { s4 with heap := s4.heap.push { cls := .type "slice", data := .fields #[partValue a1, partValue a2, partValue a3] } }
  refine tail_any (ops := [.str (S l) t, .ref s4.heap.objs.size]) (typeIs_str _ _ _) (F.slot_str_getitem.lookup) ?_ (by with_unfolding_all rfl)
  have e3' : (a3.map (·.1)).getD 1 = -1 := by rw [e3]; rfl
  refine wpAny_getItem_str_slice (l := a1) (u := a2) (st := a3) ⟨_, Heap.get?_push_size _ rfl, rfl, rfl⟩ (by rw [e3']; decide) ?_
  unfold sliceMade
  rw [if_neg (by rw [e3']; simp)]
  have ep : ((slicePicked (S l) a1 a2 a3).filterMap ((S l).cps[·]?)) = l.reverse := by
    unfold slicePicked
    rw [e3', e1, e2, S_len, idx_rev]
    exact pick_rev l
  rw [ep]
  refine ⟨?_, .str (S l.reverse), H4, I5.tok _, ⟨_, rfl⟩, q⟩
  show (S l.reverse).length ≤ sizeLine
  rw [S_len, List.length_reverse]
  exact hz
theorem foldl_app {α : Type} (n : Nat) (l : List α) : ∀ acc : Array α, ((List.replicate n l.toArray).foldl (· ++ ·) acc).toList = acc.toList ++ (List.replicate n l).flatten := by
  induction n with
  | zero => intro acc; simp
  | succ n ih =>
    intro acc
    rw [List.replicate_succ, List.foldl_cons, ih, List.replicate_succ, List.flatten_cons]
    simp
theorem mul_S (l : List Nat) (n : Int) : Txt.mul (S l) n = S (List.replicate n.toNat l).flatten := by
  unfold Txt.mul
  by_cases h : n < 1
  · rw [if_pos h, show n.toNat = 0 by omega]
    rfl
  · rw [if_neg h]
    by_cases h2 : (n == 1 || (S l).length == 0) = true
    · rw [if_pos h2]
      rw [Bool.or_eq_true] at h2
      rcases h2 with h2 | h2
      · have := eq_of_beq h2
        subst this
        simp
      · rw [S_len] at h2
        have : l = [] := List.length_eq_zero_iff.mp (eq_of_beq h2)
        subst this
        simp
    · rw [if_neg h2]
      refine TL.ext_tl ?_
      show ((List.replicate n.toNat l.toArray).foldl (· ++ ·) #[]).toList = _
      rw [foldl_app]
      simp [TL.tl]
theorem op_mulS {X : Cx} : OpR X (binaryOp .Mult) (fun x y H Q => ∃ (l : List Nat) (n : Int), x = .str (S l) ∧ y = .int n ∧ -(2 ^ 38) < n ∧ n < 2 ^ 38 ∧ l.length * n.toNat ≤ sizeLine ∧ Q (.str (S (List.replicate n.toNat l).flatten)) H) := by
  intro pins s σ H x y v u Q I rx ry h
  obtain ⟨l, n, rfl, rfl, h0, h1, hz, q⟩ := h
  obtain ⟨t, rfl⟩ := rx
  obtain ⟨t', rfl⟩ := ry
  refine SB.mul ⟨?_, ?_, ?_⟩ fun t2 k => ?_
  · rw [decide_eq_false (show ¬ n < -(2 ^ 63 : Int) by omega), decide_eq_false (show ¬ n ≥ (2 ^ 63 : Int) by omega)]; rfl
  · intro h2 h3 h4
    rw [S_len] at h4
    have h5 : (l.length : Int) ≤ 16777216 := by
      have : l.length * 1 ≤ l.length * n.toNat := Nat.mul_le_mul_left _ (by omega)
      have : sizeLine = 16777216 := by decide
      omega
    have h6 : (2 ^ 63 - 1 : Int) / n ≥ 16777216 := by
      have := Int.le_ediv_of_mul_le (show 0 < n by omega) (show 16777216 * n ≤ 2 ^ 63 - 1 by omega)
      exact this
    omega
  · intro _ _
    unfold Builtin.Str.tooLong
    rw [S_len]
    exact decide_eq_false (by omega)
  · rw [mul_S]
    exact ⟨.str _, H, I.tok _, ⟨_, rfl⟩, q⟩
end Lv

set_option Elab.async false
set_option linter.all false
set_option maxRecDepth 100000
set_option maxHeartbeats 2000000
namespace Lv
open PySem PySem.Spec PyProof.Rows L2 SX
/-! list(enumerate(list)) -/
theorem en_no_len : typeLookup (.type "enumerate") "__len__" = pure none := by rw [typeLookup_type, builtinLookup_eq_fast]; kernel_rfl
theorem en_no_hint : typeLookup (.type "enumerate") "__length_hint__" = pure none := by rw [typeLookup_type, builtinLookup_eq_fast]; kernel_rfl
def EnSt (h : Heap) (e it l S : Addr) (i : Nat) (items : Array Value) : Prop :=
  h.IsListIter it l i ∧ h.IsList l items ∧ ((∃ old, IsEnum h e it i old) ∨ ∃ old T f oT, IsEnumHeld h e it i old T f ∧ h.get? T = some oT ∧ T ≠ e ∧ T ≠ it ∧ T ≠ S)
structure EnG (items : Array Value) (lo : Addr) (h : Heap) (ts : List Addr) : Prop where
  rise : ts.Pairwise (· < ·)
  above : ∀ a ∈ ts, lo < a
  pairs : ∀ (j : Nat) (a : Addr), ts[j]? = some a → ∃ t x, items[j]? = some x ∧ h.get? a = some { cls := .type "tuple", data := .seq #[.int j t, x] }
theorem EnG.there {items : Array Value} {lo : Addr} {h : Heap} {ts : List Addr} (g : EnG items lo h ts) {a : Addr} (ha : a ∈ ts) : a < h.objs.size := by
  obtain ⟨j, hj⟩ := List.mem_iff_getElem?.mp ha
  obtain ⟨_, _, _, e⟩ := g.pairs j a hj
  exact Heap.lt_size e
theorem EnSt.keep {h h' : Heap} {e it l S : Addr} {i : Nat} {items : Array Value} (x : EnSt h e it l S i items) (hk : ∀ b o, b ≠ S → h.get? b = some o → h'.get? b = some o) (he : e ≠ S) (hi : it ≠ S) (hl : l ≠ S) : EnSt h' e it l S i items := by
  obtain ⟨a, b, c⟩ := x
  refine ⟨a.at fun o y => hk _ o hi y, b.at fun o y => hk _ o hl y, ?_⟩
  rcases c with ⟨old, c⟩ | ⟨old, T, f, oT, c, c1, c2, c3, c4⟩
  · exact .inl ⟨old, hk _ _ he c⟩
  · exact .inr ⟨old, T, f, oT, hk _ _ he c, hk _ _ c4 c1, c2, c3, c4⟩
section
variable {prog : Program} {w : World} {A : Around} {s : Shared} {R : Result → Shared → Prop} {E : Value → Shared → Prop} {e it l S : Addr} {items : Array Value}
theorem en_item {i : Nat} {x : Value} {Q : Option Value → Shared → Prop} (hst : EnSt s.heap e it l S i items) (hei : e ≠ it) (hle : l ≠ e) (hli : l ≠ it) (hS : S < s.heap.objs.size) (hx : items[i]? = some x)
    (hQ : ∀ h', EnSt h' e it l S (i + 1) items → h'.get? s.heap.objs.size = some { cls := .type "tuple", data := .seq #[.int i s.toks, x] } → h'.objs.size = s.heap.objs.size + 1 →
      (∀ b o, b ≠ e → b ≠ it → s.heap.get? b = some o → h'.get? b = some o) → Q (some (.ref s.heap.objs.size)) { s with heap := h', toks := s.toks + 1 }) :
    wpAny (model prog w) A (pyNext (.ref e)) Q E s := by
  obtain ⟨hit, hl, he⟩ := hst
  have ec : ((i + 1 : Nat) : Int) = (i : Int) + 1 := by omega
  have nit : s.heap.objs.size ≠ it := let ⟨_, x, _⟩ := hit; Nat.ne_of_gt (Heap.lt_size x)
  rcases he with ⟨old, he⟩ | ⟨old, T, f, oT, he, hT, r1, r2, r3⟩
  · refine wpAny_pyNext_enum_item he hit hl hx hei fun h' ho hit' hT hsz hk => ?_
    exact hQ h' ⟨hit', hl.at fun o x => hk l o hle hli x, .inr ⟨_, s.heap.objs.size, false, _, (by rw [ec]; exact ho), hT, Nat.ne_of_gt (Heap.lt_size he), nit, Nat.ne_of_gt hS⟩⟩ hT hsz hk
  · refine wpAny_pyNext_enum_item_held he hT r1 r2 hit hl hx hei fun h' ho hit' hT' hsz hk => ?_
    exact hQ h' ⟨hit', hl.at fun o x => hk l o hle hli x, .inr ⟨old, T, true, oT, (by rw [ec]; exact ho), hk _ _ r1 r2 hT, r1, r2, r3⟩⟩ hT' hsz hk
theorem en_done {i : Nat} {Q : Option Value → Shared → Prop} (hh : A.handled = none) (hst : EnSt s.heap e it l S i items) (hx : items[i]? = none)
    (hQ : ∀ h', Heap.ExtBut it s.heap h' → Q none { s with heap := h' }) : wpAny (model prog w) A (pyNext (.ref e)) Q E s := by
  obtain ⟨hit, hl, he⟩ := hst
  rcases he with ⟨old, he⟩ | ⟨old, T, f, oT, he, hT, r1, r2, r3⟩
  · exact wpAny_pyNext_enum_end hh he hit hl hx hQ
  · exact wpAny_pyNext_enum_end_held hh he hit hl hx hQ
theorem en_loop (hh : A.handled = none) (hei : e ≠ it) (hle : l ≠ e) (hli : l ≠ it) (hSe : e < S) (hSi : it < S) (hSl : l ≠ S) (hn : items.size ≤ sizeLine) (res : Value) {h₁ : Heap}
    (hR : ∀ h' tk acc c ts, (∀ b o, b ≠ S → b ≠ e → b ≠ it → h₁.get? b = some o → h'.get? b = some o) → h'.get? S = some { cls := .type "list", dict := none, data := .seq acc c, slots := #[] } → ts.length = items.size → EnG items S h' ts →
      acc.toList = ts.map Value.ref → R (.ok (.ret res)) { s with heap := h', toks := tk }) :
    ∀ (k i : Nat) (h : Heap) (tk c : Nat) (acc : Array Value) (ts : List Addr), items.size - i = k → i ≤ items.size → EnSt h e it l S i items → (∀ b o, b ≠ S → b ≠ e → b ≠ it → h₁.get? b = some o → h.get? b = some o) →
      h.get? S = some { cls := .type "list", dict := none, data := .seq acc c, slots := #[] } → acc.toList = ts.map Value.ref → ts.length = i → EnG items S h ts → S < h.objs.size →
      codeAny (model prog w) A (.builtin "list.extend.loop" ⟨[.ref S, .ref e, res], []⟩) R { s with heap := h, toks := tk } := by
  have nSe : S ≠ e := Nat.ne_of_gt hSe
  have nSi : S ≠ it := Nat.ne_of_gt hSi
  intro k
  induction k with
  | zero =>
    intro i h tk c acc ts hk hi hst hkeep hS hacc hal hG hIs
    have hin : i = items.size := by omega
    refine codeAny_builtin PySem.F.entry_extend_loop ?_
    rw [Around.under_plainId PySem.F.plain_extend_loop _]
    show wpAny _ A.in1 (pyNext (.ref e) >>= _) _ _ _
    refine wpAny_bind (en_done (s := { s with heap := h, toks := tk }) (A := A.in1) hh hst (Array.getElem?_eq_none (by omega)) fun h' he => ?_)
    refine wpAny_pure (hR h' tk acc c ts (fun b o h1 h2 h3 e => he b o h3 (hkeep b o h1 h2 h3 e)) (he S _ nSi hS) (by omega) ⟨hG.rise, hG.above, fun j a hj => ?_⟩ hacc)
    obtain ⟨t, x, e1, e3⟩ := hG.pairs j a hj
    exact ⟨t, x, e1, he a _ (Nat.ne_of_gt (Nat.lt_trans hSi (hG.above a (List.mem_of_getElem? hj)))) e3⟩
  | succ k ih =>
    intro i h tk c acc ts hk hi hst hkeep hS hacc hal hG hIs
    have hlt : i < items.size := by omega
    refine codeAny_builtin PySem.F.entry_extend_loop ?_
    rw [Around.under_plainId PySem.F.plain_extend_loop _]
    show wpAny _ A.in1 (pyNext (.ref e) >>= _) _ _ _
    refine wpAny_bind (en_item (s := { s with heap := h, toks := tk }) (A := A.in1) (x := items[i]) hst hei hle hli hIs (Array.getElem?_eq_getElem hlt) fun h' hst' hT hsz hk' => ?_)
    replace hT : h'.get? h.objs.size = some { cls := .type "tuple", data := .seq #[.int i tk, items[i]] } := hT
    replace hsz : h'.objs.size = h.objs.size + 1 := hsz
    replace hk' : ∀ b o, b ≠ e → b ≠ it → h.get? b = some o → h'.get? b = some o := hk'
    have hS' := hk' S _ nSe nSi hS
    have nSn : h.objs.size ≠ S := Nat.ne_of_gt hIs
    have hasz : acc.size = i := by rw [← hal, ← List.length_map (f := Value.ref), ← hacc, Array.length_toList]
    show wpAny _ A.in1 (updateSeq S (·.push (.ref h.objs.size)) >>= _) _ _ _
    refine wpAny_bind ?_
    have oth : ∀ b o, b ≠ S → h'.get? b = some o → (h'.update S (Obj.mapSeq (·.push (Value.ref h.objs.size)))).get? b = some o := fun b o hb e => (Heap.get?_update_other _ _ (Ne.symm hb)).trans e
    refine wpAny_updateSeq hS' rfl (wpAny_pure ⟨plainId_quiet PySem.F.plain_extend_loop _, ?_⟩) (by rw [hasz]; omega) (by show (acc.push _).size ≤ sizeLine + 1; rw [Array.size_push, hasz]; omega)
    refine ih (i + 1) (h'.update S (Obj.mapSeq (·.push (Value.ref h.objs.size)))) (tk + 1) _ (acc.push (.ref h.objs.size)) (ts ++ [h.objs.size]) (by omega) hlt (hst'.keep oth nSe.symm nSi.symm hSl) (fun b o h1 h2 h3 e1 => oth b o h1 (hk' b o h2 h3 (hkeep b o h1 h2 h3 e1))) (Heap.get?_update_self _ hS' rfl) ?_ ?_ ?_ ?_
    · rw [Array.toList_push, hacc, List.map_append]; rfl
    · rw [List.length_append, hal]; rfl
    · refine ⟨?_, ?_, ?_⟩
      · rw [List.pairwise_append]
        refine ⟨hG.rise, by simp, fun a ha b hb => ?_⟩
        rw [List.mem_singleton.mp hb]
        exact hG.there ha
      · intro a ha
        rcases List.mem_append.mp ha with ha | ha
        · exact hG.above a ha
        · rw [List.mem_singleton.mp ha]; exact hIs
      · intro j a hj
        by_cases hjl : j < ts.length
        · rw [List.getElem?_append_left hjl] at hj
          obtain ⟨t, x, e1, e3⟩ := hG.pairs j a hj
          have am := hG.above a (List.mem_of_getElem? hj)
          exact ⟨t, x, e1, oth a _ (Nat.ne_of_gt am) (hk' a _ (Nat.ne_of_gt (Nat.lt_trans hSe am)) (Nat.ne_of_gt (Nat.lt_trans hSi am)) e3)⟩
        · rw [List.getElem?_append_right (by omega)] at hj
          have hj0 : j - ts.length = 0 := by
            rcases Nat.eq_zero_or_pos (j - ts.length) with z | z
            · exact z
            · rw [List.getElem?_eq_none (by simp; omega)] at hj; cases hj
          rw [hj0] at hj
          have ea : h.objs.size = a := Option.some.inj hj
          have ej : j = i := by omega
          subst ej
          rw [← ea]
          exact ⟨tk, items[j], Array.getElem?_eq_getElem hlt, oth _ _ nSn hT⟩
    · have : (h'.update S (Obj.mapSeq (·.push (Value.ref h.objs.size)))).objs.size = h'.objs.size := by simp [Heap.update]
      rw [this, hsz]; exact Nat.lt_succ_of_lt hIs
theorem en_extend (hh : A.handled = none) (hei : e ≠ it) (hle : l ≠ e) (hli : l ≠ it) (hSe : e < S) (hSi : it < S) (hSl : l ≠ S) (hn : items.size ≤ sizeLine) (res : Value) (c₀ : Nat)
    (he : IsEnum s.heap e it 0 .none) (hit : s.heap.IsListIter it l 0) (hl : s.heap.IsList l items) (hS : s.heap.get? S = some { cls := .type "list", data := .seq #[] c₀ })
    (hR : ∀ h' tk acc c ts, (∀ b o, b ≠ S → b ≠ e → b ≠ it → s.heap.get? b = some o → h'.get? b = some o) → h'.get? S = some { cls := .type "list", dict := none, data := .seq acc c, slots := #[] } → ts.length = items.size → EnG items S h' ts →
      acc.toList = ts.map Value.ref → R (.ok (.ret res)) { s with heap := h', toks := tk }) :
    wpAny (model prog w) A.in1 (Builtin.List.listExtendWith (.ref S) (.ref e) res)
      (fun fin s' => match fin with | .done f => R (.ok f) s' | .again c' => c'.quiet = true ∧ codeAny (model prog w) A c' R s') (fun e s' => R (.error e) s') s := by
  have nSe : S ≠ e := Nat.ne_of_gt hSe
  have hTy : s.TypeIs (.ref e) "enumerate" := ⟨_, he, rfl⟩
  have hst : EnSt s.heap e it l S 0 items := ⟨hit, hl, .inl ⟨_, he⟩⟩
  unfold Builtin.List.listExtendWith
  refine wpAny_bind (wpAny_typeOf hTy ?_)
  have h1 : Builtin.List.listSameRef (.ref S) (.ref e) = false := by simp [Builtin.List.listSameRef, nSe]
  have h2 : (Value.type "enumerate" == Value.type "list") = false := by decide
  have h3 : (Value.type "enumerate" == Value.type "tuple") = false := by decide
  simp only [h1, h2, h3, Bool.or_false, Bool.false_eq_true, if_false]
  refine wpAny_bind (wpAny_pyIter_enum he ?_)
  refine wpAny_bind (wpAny_holding ?_)
  unfold Builtin.List.listLengthHint
  refine wpAny_bind (wpAny_specialOf hTy en_no_len ?_)
  show wpAny _ A.in1 (specialOf (Value.ref e) (Str.ofString "__length_hint__") >>= _) _ _ _
  refine wpAny_bind (wpAny_specialOf hTy en_no_hint ?_)
  refine wpAny_pure ?_
  show wpAny _ A.in1 (rule "list.extend.makes-room" >>= fun _ => Builtin.List.listTouch (.ref S) >>= fun _ =>
    again (.builtin "list.extend.loop" ⟨[.ref S, .ref e, res], []⟩)) _ _ _
  refine wpAny_bind (wpAny_rule ?_)
  refine wpAny_bind ?_
  show wpAny _ A.in1 (updateSeq S (·.push .none) >>= fun _ => updateSeq S (·.pop)) _ _ _
  refine wpAny_bind (wpAny_updateSeq hS rfl ?_)
  have hS₂ := Heap.get?_update_self (Obj.mapSeq (·.push Value.none)) hS rfl
  refine wpAny_updateSeq (hz := by seq_fits) hS₂ rfl ?_
  have hS₃ := Heap.get?_update_self (Obj.mapSeq (·.pop)) hS₂ rfl
  have oth : ∀ b o, b ≠ S → s.heap.get? b = some o → ((s.heap.update S (Obj.mapSeq (·.push Value.none))).update S (Obj.mapSeq (·.pop))).get? b = some o :=
    fun b o hb e => (Heap.get?_update_other _ _ (Ne.symm hb)).trans ((Heap.get?_update_other _ _ (Ne.symm hb)).trans e)
  have sz : ((s.heap.update S (Obj.mapSeq (·.push Value.none))).update S (Obj.mapSeq (·.pop))).objs.size = s.heap.objs.size := by simp [Heap.update]
  refine wpAny_pure ⟨plainId_quiet PySem.F.plain_extend_loop _, en_loop (s := s) hh hei hle hli hSe hSi hSl hn res (h₁ := s.heap) hR _ 0 _ s.toks _ _ [] rfl (Nat.zero_le _) (hst.keep oth nSe.symm (Nat.ne_of_lt hSi) hSl) (fun b o h1 _ _ e => oth b o h1 e) hS₃ rfl rfl ⟨by simp, by simp, by simp⟩ ?_⟩
  rw [sz]
  exact Heap.lt_size hS
theorem en_init (hh : A.handled = none) (hei : e ≠ it) (hle : l ≠ e) (hli : l ≠ it) (hSe : e < S) (hSi : it < S) (hSl : l ≠ S) (hn : items.size ≤ sizeLine)
    (he : IsEnum s.heap e it 0 .none) (hit : s.heap.IsListIter it l 0) (hl : s.heap.IsList l items) (hS : s.heap.get? S = some { cls := .type "list", data := .seq #[] })
    (hR : ∀ h' tk acc c ts, (∀ b o, b ≠ S → b ≠ e → b ≠ it → s.heap.get? b = some o → h'.get? b = some o) → h'.get? S = some { cls := .type "list", dict := none, data := .seq acc c, slots := #[] } → ts.length = items.size → EnG items S h' ts →
      acc.toList = ts.map Value.ref → R (.ok (.ret .none)) { s with heap := h', toks := tk }) :
    wpAny (model prog w) A.in1 (Builtin.«list.__init__» ⟨[.ref S, .ref e], []⟩)
      (fun fin s' => match fin with | .done f => R (.ok f) s' | .again c' => c'.quiet = true ∧ codeAny (model prog w) A c' R s') (fun e s' => R (.error e) s') s := by
  show wpAny _ _ (do let old ← Builtin.List.listItems (.ref S); Builtin.List.listUpdate (.ref S) (fun _ => #[]); letGo old.toList.reverse; Builtin.List.listExtendWith (.ref S) (.ref e) .none) _ _ s
  refine wpAny_bind ?_
  unfold Builtin.List.listItems
  refine wpAny_bind (wpAny_seqItems hS rfl (wpAny_pure ?_))
  show wpAny _ _ (updateSeq S (fun _ => #[]) >>= fun _ => letGo (#[] : Array Value).toList.reverse >>= fun _ => Builtin.List.listExtendWith (.ref S) (.ref e) .none) _ _ s
  refine wpAny_bind (wpAny_updateSeq hS rfl ?_)
  have hS₂ := Heap.get?_update_self (Obj.mapSeq (fun _ => (#[] : Array Value))) hS rfl
  have oth : ∀ b o, b ≠ S → s.heap.get? b = some o → (s.heap.update S (Obj.mapSeq (fun _ => (#[] : Array Value)))).get? b = some o :=
    fun b o hb e => (Heap.get?_update_other _ _ (Ne.symm hb)).trans e
  refine wpAny_bind (wpAny_letGo ?_)
  refine en_extend hh hei hle hli hSe hSi hSl hn .none _ (oth _ _ (Nat.ne_of_lt hSe) he) (hit.at fun o x => oth _ o (Nat.ne_of_lt hSi) x) (hl.at fun o x => oth _ o hSl x) hS₂ fun h' tk acc c ts hk hS' h1 h2 h3 => ?_
  exact hR h' tk acc c ts (fun b o a1 a2 a3 x => hk b o a1 a2 a3 (oth b o a1 x)) hS' h1 h2 h3
theorem call_list_enum {Q : Value → Shared → Prop} (hh : A.handled = none) (hei : e ≠ it) (hle : l ≠ e) (hli : l ≠ it) (hn : items.size ≤ sizeLine)
    (he : IsEnum s.heap e it 0 .none) (hit : s.heap.IsListIter it l 0) (hl : s.heap.IsList l items)
    (hQ : ∀ h' tk acc c ts, (∀ b o, b ≠ e → b ≠ it → s.heap.get? b = some o → h'.get? b = some o) → h'.get? s.heap.objs.size = some { cls := .type "list", dict := none, data := .seq acc c, slots := #[] } → ts.length = items.size → EnG items s.heap.objs.size h' ts →
      acc.toList = ts.map Value.ref → Q (.ref s.heap.objs.size) { s with heap := h', toks := tk }) :
    wpAny (model prog w) A (call (.type "list") [.ref e]) Q E s := by
  refine callType_codes (Q₁ := fun obj s₁ => obj = .ref s.heap.objs.size ∧ s₁ = { s with heap := s.heap.push { cls := .type "list", data := .seq #[] } }) F.called_list (F.typeCall_list_1 _) F.entry_list_init
    (code_list_new _ ⟨rfl, rfl⟩) fun obj s₁ h₁ => ?_
  obtain ⟨rfl, rfl⟩ := h₁
  have hS : (s.heap.push { cls := .type "list", data := .seq #[] }).get? s.heap.objs.size = some { cls := .type "list", data := .seq #[] } := Heap.get?_push_size _ rfl
  have kp : ∀ b o, s.heap.get? b = some o → (s.heap.push { cls := .type "list", data := .seq #[] }).get? b = some o := fun b o x => Heap.get?_push_of_some _ x
  have li : it < s.heap.objs.size := by obtain ⟨_, x, _⟩ := hit; exact Heap.lt_size x
  have ll : l < s.heap.objs.size := by obtain ⟨_, x, _⟩ := hl; exact Heap.lt_size x
  refine ⟨⟨_, hS, rfl⟩, F.args_list_init_2 _ _, en_init (A := A.in1) (S := s.heap.objs.size) hh hei hle hli (Heap.lt_size he) li (Nat.ne_of_lt ll) hn (kp _ _ he) (hit.at fun o x => kp _ o x) (hl.at fun o x => kp _ o x) hS fun h' tk acc c ts hk hS' h1 h2 h3 => ?_⟩
  exact ⟨rfl, hQ h' tk acc c ts (fun b o a2 a3 x => hk b o (Nat.ne_of_lt (Heap.lt_size x)) a2 a3 (kp b o x)) hS' h1 h2 h3⟩
end
/-- the tuples tracked at their addresses, numbered from k on -/
def putE : Hp → List Addr → Nat → List V → Hp
  | H, a :: as, k, x :: xs => putE (upd H a (.tup [.int (k : Nat), x])) as (k + 1) xs
  | H, _, _, _ => H
theorem putE_off {b : Addr} : ∀ (as : List Addr) (k : Nat) (xs : List V) (H : Hp), b ∉ as → putE H as k xs b = H b
  | [], _, _, _, _ => rfl
  | _ :: _, _, [], _, _ => rfl
  | a :: as, k, x :: xs, H, h => by
    show putE (upd H a (.tup [.int (k : Nat), x])) as (k + 1) xs b = H b
    rw [putE_off as (k + 1) xs _ (fun z => h (List.mem_cons_of_mem _ z)), upd_ne (fun z => h (by rw [z]; exact List.mem_cons_self))]
theorem putE_at : ∀ (as : List Addr) (k : Nat) (xs : List V) (H : Hp), as.length = xs.length → as.Nodup → ∀ (j : Nat) (a : Addr) (x : V), as[j]? = some a → xs[j]? = some x → putE H as k xs a = some (.tup [.int ((k + j : Nat) : Int), x])
  | [], _, [], _, _, _ => by simp
  | [], _, _ :: _, _, h, _ => by cases h
  | _ :: _, _, [], _, h, _ => by cases h
  | a :: as, k, x :: xs, H, h, hn => by
    have hn' := List.nodup_cons.mp hn
    intro j a' x' ha hx
    show putE (upd H a (.tup [.int (k : Nat), x])) as (k + 1) xs a' = _
    cases j with
    | zero =>
      have e1 : a = a' := Option.some.inj ha
      have e2 : x = x' := Option.some.inj hx
      subst e1 e2
      rw [putE_off as _ xs _ hn'.1, upd_same]
      rfl
    | succ j =>
      have ih := putE_at as (k + 1) xs (upd H a (.tup [.int (k : Nat), x])) (Nat.succ.inj h) hn'.2 j a' x' ha hx
      rw [ih]
      have : k + 1 + j = k + (j + 1) := by omega
      rw [this]
def rListEn (K : PySem.W.Frag) : V → Hp → VK → Prop := fun v H Q => ∃ (a : Addr) (xs : List V), v = .ref a ∧ SqL K H a xs ∧
  ∀ (H' : Hp) (p : Addr) (ts : List Addr), Same H H' → H p = none → ts.length = xs.length → H' p = some (.lst (ts.map V.ref)) → (∀ (j : Nat) (t : Addr) (x : V), ts[j]? = some t → xs[j]? = some x → H' t = some (.tup [.int (j : Int), x])) → Q (.ref p) H'
def tListEn (K : PySem.W.Frag) (te : TE) : TE := fun σ H Q => te σ H fun x H1 => rListEn K x H1 Q
section
variable {X : Cx} {e : Expr} {te : TE} {p p2 pos pos2 : Pos}
theorem pe_listEn (hc : X.calm = true) (he : PE X e te) (hg : Gl X "list") (hm : X.mg "list" = none) (hg2 : Gl X "enumerate") (hm2 : X.mg "enumerate" = none)
    (hs : starEach [.Call (.Name "enumerate" p2) [e] [] pos2] X.env = (false, eval (.Call (.Name "enumerate" p2) [e] [] pos2) X.env) :: starEach [] X.env := by rfl)
    (hs2 : starEach [e] X.env = (false, eval e X.env) :: starEach [] X.env := by rfl) :
    PE X (.Call (.Name "list" p) [.Call (.Name "enumerate" p2) [e] [] pos2] [] pos) (tListEn X.K te) := by
  refine ⟨fun pins s σ H Q I hq => ?_⟩
  refine wpAny_Call_Name_kw (ld_blt I hg hm (by decide +kernel : bootBuiltins "list" = some (.type "list")) ?_)
  refine PyProof.Rows.callWith_type1 ?_ hs rfl
  rw [hs]
  show wpAny _ _ (spliced ((false, eval (.Call (.Name "enumerate" p2) [e] [] pos2) X.env) :: backTo pos (starEach [] X.env))) _ _ s
  refine Calls.spliced_cons ?_
  refine wpAny_Call_Name_kw (ld_blt I hg2 hm2 (by decide +kernel : bootBuiltins "enumerate" = some (.type "enumerate")) ?_)
  refine PyProof.Rows.callWith_type1 ?_ hs2 rfl
  rw [hs2]
  show wpAny _ _ (spliced ((false, eval e X.env) :: backTo pos2 (starEach [] X.env))) _ _ s
  refine Calls.spliced_cons (thn (he.run pins s σ H _ I hq) fun u s1 ⟨x, H1, I1, rx, q1⟩ => ?_)
  obtain ⟨a, xs, rfl, hL, q⟩ := q1
  obtain rfl : u = Value.ref a := rx
  obtain ⟨its, r, ht, hz⟩ := I1.list hL
  refine Calls.spliced_nil ?_
  refine call_enumerate_list ht.isList fun h' hE hI hsz hk => ?_
  refine Calls.spliced_nil ?_
  have I2 : Inv X pins σ H1 { s1 with heap := h' } := I1.kept (t' := s1.toks) hk
  have hL2 : h'.IsList a its.toArray := ht.isList.at fun o y => hk _ o y
  have la : a < s1.heap.objs.size := by obtain ⟨_, y, _⟩ := ht.isList; exact Heap.lt_size y
  have hlen := r.length
  refine call_list_enum (s := { s1 with heap := h' }) (A := X.A) (I1.ok.hd hc) (Nat.succ_ne_self _) (Nat.ne_of_lt (Nat.lt_succ_of_lt la)) (Nat.ne_of_lt la) (by rw [List.size_toArray]; omega) hE hI hL2 fun h2 tk acc c ts hk2 hS h1 hG hacc => ?_
  replace hk2 : ∀ b o, b ≠ s1.heap.objs.size + 1 → b ≠ s1.heap.objs.size → h'.get? b = some o → h2.get? b = some o := hk2
  replace hG : EnG its.toArray h'.objs.size h2 ts := hG
  replace hS : h2.get? h'.objs.size = some { cls := .type "list", dict := none, data := .seq acc c, slots := #[] } := hS
  show EP X pins σ Q (.ref h'.objs.size) { s1 with heap := h2, toks := tk }
  have hk3 : ∀ b o, s1.heap.get? b = some o → h2.get? b = some o := fun b o y => hk2 b o (Nat.ne_of_lt (Nat.lt_succ_of_lt (Heap.lt_size y))) (Nat.ne_of_lt (Heap.lt_size y)) (hk b o y)
  have lowS : s1.heap.objs.size ≤ h'.objs.size := by rw [hsz]; exact Nat.le_add_right _ _
  rw [List.size_toArray] at h1
  have hSn : h'.objs.size ∉ ts := fun z => Nat.lt_irrefl _ (hG.above _ z)
  have nd : ts.Nodup := List.Pairwise.imp (fun {a b} (h : a < b) => Nat.ne_of_lt h) hG.rise
  have new : ∀ t ∈ ts, H1 t = none := fun t ht => I1.hok.fresh (Nat.le_trans lowS (Nat.le_of_lt (hG.above t ht)))
  have newS : H1 h'.objs.size = none := I1.hok.fresh lowS
  have hl : ts.length = xs.length := by omega
  have atP := putE_at ts 0 xs (upd H1 h'.objs.size (.lst (ts.map V.ref))) hl nd
  have off : ∀ b, b ∉ ts → b ≠ h'.objs.size → putE (upd H1 h'.objs.size (.lst (ts.map V.ref))) ts 0 xs b = H1 b := fun b h1 h2 => by rw [putE_off ts 0 xs _ h1, upd_ne h2]
  have low : ∀ b o, s1.heap.get? b = some o → b ∉ ts ∧ b ≠ h'.objs.size := fun b o e => ⟨fun z => absurd (Heap.lt_size e) (Nat.not_lt.mpr (Nat.le_trans lowS (Nat.le_of_lt (hG.above b z)))), Nat.ne_of_lt (Nat.lt_of_lt_of_le (Heap.lt_size e) lowS)⟩
  have kp : ∀ b u, H1 b = some u → (putE (upd H1 h'.objs.size (.lst (ts.map V.ref))) ts 0 xs) b = some u := fun b u e => by
    rw [off b (fun z => by rw [new b z] at e; cases e) (fun z => by rw [z, newS] at e; cases e)]
    exact e
  have eS : putE (upd H1 h'.objs.size (.lst (ts.map V.ref))) ts 0 xs h'.objs.size = some (.lst (ts.map V.ref)) := by rw [putE_off ts 0 xs _ hSn, upd_same]
  refine ⟨.ref h'.objs.size, putE (upd H1 h'.objs.size (.lst (ts.map V.ref))) ts 0 xs, ?_, rfl, q _ _ ts kp newS hl eS fun j t x e1 e2 => by rw [atP j t x e1 e2, Nat.zero_add]⟩
  refine I1.call' (ch := []) rfl ⟨fun b o q _ _ _ => hk3 b o q, fun b o q _ _ _ => ⟨o.slots, hk3 b o q⟩, fun b o q n _ => ?_, fun b o q _ => ⟨o, hk3 b o q⟩, fun b xs q => kp b _ q, fun b o u q => kp b _ q, fun b ps q => ⟨#[], by rw [kp b _ q]; simp⟩⟩ (fun b u q => ?_) I1.bare fun b z => by simp at z
  · obtain ⟨z1, z2⟩ := low b o q
    rw [off b z1 z2]
    exact n
  · by_cases hb : b ∈ ts
    · obtain ⟨j, hj⟩ := List.mem_iff_getElem?.mp hb
      obtain ⟨t, x, f1, f2⟩ := hG.pairs j b hj
      rw [List.getElem?_toArray] at f1
      have hjl : j < xs.length := by
        have := (List.getElem?_eq_some_iff.mp hj).1
        omega
      have ex : xs[j]? = some xs[j] := List.getElem?_eq_getElem hjl
      obtain ⟨x', g1, g2⟩ := r.get ex
      rw [f1] at g1
      cases g1
      rw [atP j b _ hj ex, Nat.zero_add] at q
      cases q
      exact ⟨by show 2 ≤ sizeLine; decide, [.int j t, x], .cons ⟨t, rfl⟩ (.cons g2 .nil), ⟨_, f2, rfl, _, rfl⟩⟩
    · by_cases hb2 : b = h'.objs.size
      · rw [hb2] at q ⊢
        rw [eS] at q
        cases q
        refine ⟨by rw [List.length_map]; omega, acc.toList, c, by rw [hacc]; exact LiI.vals_refs ts, ?_⟩
        rw [Array.toArray_toList]
        exact hS
      · rw [off b hb hb2] at q
        exact (I1.hok b u q).stay (fun d v _ y => hk3 d v y) (fun d y => kp d _ y) fun d xs y => kp d _ y
end
end Lv

set_option Elab.async false
set_option linter.all false
set_option maxRecDepth 100000
set_option maxHeartbeats 2000000
namespace Lv
open PySem PySem.Spec PyProof.Rows L2 SX
/-! for i, c in enumerate(text) -/
/-- turn i: a new tuple whose items are told by Y -/
def ItT (n : Nat) (Y : Nat → List V → Prop) : It :=
  ⟨fun i _ => i < n, fun i H v H' => ∃ T xs, v = .ref T ∧ H T = none ∧ H' = upd H T (.tup xs) ∧ Y i xs, fun i _ => n ≤ i⟩
theorem turn_walksT {P : Program} {w : World} {K : PySem.W.Frag} {elts : List Expr} {kk : Nat} {tpos : Pos} {I : Addr} {fp wr : List Addr} {n : Nat} {Pt : Nat → Array Value → Prop} {St : Nat → Heap → Prop} {Mid : Nat → Addr → Heap → Prop} {Y : Nat → List V → Prop}
    (W : ∀ A : Around, A.handled = none → WalksT P w A I fp wr n Pt St Mid) (hI : I ∈ fp) (hobj : ∀ i h, St i h → ∀ b ∈ fp, ∃ o, h.get? b = some o ∧ ∀ v, o.data ≠ .cell v)
    (hY : ∀ i vals, i < n → Pt i vals → ∃ xs, Vals xs vals.toList ∧ xs.length ≤ sizeLine ∧ Y i xs) (hself : ∀ (A : Around) (i : Nat) (s : Shared) (Q : Value → Shared → Prop) (E : Value → Shared → Prop), St i s.heap → Q (.ref I) s → wpAny (model P w) A (pyIter (.ref I)) Q E s) :
    Turn P w K (.Tuple elts kk tpos) (ItT n Y) fp I (fun i h => St i h ∧ i ≤ n) where
  mem := hI
  obj := fun i h st b hb => hobj i h st.1 b hb
  keep := fun i h h' st k => ⟨(W {} rfl).frame i h h' st.1 k, st.2⟩
  item := by
    intro X hP hw hK hc i pins s σ H E I1 hf st hg
    subst hP hw hK
    have WA := W X.A (I1.ok.hd hc)
    refine WA.item i s _ _ hg st.1 fun T vals h' tk hp hT hTup hm hk => ?_
    refine ⟨_, rfl, WA.go elts kk tpos i T { s with heap := h', toks := tk } _ _ hm fun h2 st2 hk2 => ?_⟩
    replace hk2 : ∀ b o, b ∉ wr → h'.get? b = some o → h2.get? b = some o := hk2
    obtain ⟨xs, rv, hz, y⟩ := hY i vals hg hp
    have hTup2 : h2.IsTuple T vals := hTup.at fun o q => hk2 T o (WA.apart i T h' hm) q
    have new : ObjOk X.prog X.w (upd H T (.tup xs)) h2 T (.tup xs) := by
      refine ⟨hz, vals.toList, rv, ?_⟩
      rw [Array.toArray_toList]
      exact hTup2
    have I2 : Inv X pins σ (upd H T (.tup xs)) { s with heap := h2, toks := tk } :=
      I1.turnedNew (ch := fp) (fun b ob hb q => hk2 b ob (fun z => hb (WA.sub b z)) (hk b ob (fun z => hb (WA.sub b z)) q)) hf hT new
    refine ⟨.ref T, _, I2, rfl, ⟨T, xs, rfl, I1.hok.fresh hT, rfl, y⟩, ⟨st2, hg⟩, fun b hb => ?_⟩
    obtain ⟨o, ho, _⟩ := hobj i s.heap st.1 b hb
    rw [upd_ne (Nat.ne_of_lt (Nat.lt_of_lt_of_le (Heap.lt_size ho) hT))]
    exact (hf b hb).1
  done := by
    intro X hP hw hK hc i pins s σ H E I1 hf st hg
    subst hP hw hK
    have hin : i = n := Nat.le_antisymm st.2 hg
    subst hin
    have WA := W X.A (I1.ok.hd hc)
    refine WA.done s _ _ st.1 fun h' tk hk => ⟨rfl, ?_⟩
    have off : ∀ b o, H b = some o → b ∉ fp := fun b o q z => by rw [(hf b z).1] at q; cases q
    have hk' : ∀ b o, b ∉ fp → s.heap.get? b = some o → h'.get? b = some o := fun b o hb q => hk b o (fun z => hb (WA.sub b z)) q
    refine I1.call' (ch := fp) rfl ⟨fun b o q _ _ z => hk' b o z q, fun b o q _ _ z => ⟨o.slots, hk' b o z q⟩, fun b o q n _ => n, fun b o q z => ⟨o, hk' b o z q⟩, fun b xs q => q, fun b o u q => q, fun b ps q => ⟨#[], by rw [q]; simp⟩⟩ (fun b u q => ?_) I1.bare fun b z => ?_
    · refine (I1.hok b u q).stay (fun c v hc y => hk' c v ?_ y) (fun d y => y) fun d xs y => y
      rcases hc with rfl | hc
      · exact off _ _ q
      · exact off _ _ hc
    · obtain ⟨f0, f1, f2, f3, f4, f5⟩ := hf b z
      exact ⟨f3, f1, f4, f5⟩
  self := fun A i s Q E st h => hself A i s Q E st.1 h
/-- enumerate(text) -/
def iEnumS (ta : TA) : TI := fun σ H R => ta σ H fun vs H1 => ∃ l : List Nat, vs = [.str (S l)] ∧ R (ItT l.length fun i xs => ∃ c, l[i]? = some c ∧ xs = [.int (i : Nat), .str (S [c])]) H1
theorem pi_enumS {X : Cx} {e : Expr} {ta : TA} {p pos tpos : Pos} {elts : List Expr} {kk : Nat} (hg : Gl X "enumerate") (hm : X.mg "enumerate" = none) (ha : PA X [e] ta) (hs : starEach [e] X.env = [(false, eval e X.env)] := by rfl) :
    PI X (.Tuple elts kk tpos) (.Call (.Name "enumerate" p) [e] [] pos) (iEnumS ta) := by
  refine ⟨fun pins s σ H R I h => ?_⟩
  refine Call_ (ld_blt I hg hm boot_enumerate (PyProof.Rows.callWith_type1 (thn (ha.run pos pins s σ H _ I h) fun us s1 ⟨vs, H1, I1, r1, q1⟩ => ?_) hs rfl))
  obtain ⟨l, rfl, q⟩ := q1
  cases r1 with
  | cons r rr =>
    cases rr
    obtain ⟨t, rfl⟩ := r
    refine call_enumerate_str fun h' he hit hsz hk => wpAny_pyIter_enum he ?_
    have I2 : Inv X pins σ H1 { s1 with heap := h' } := I1.kept (t' := s1.toks) hk
    have hne : s1.heap.objs.size + 1 ≠ s1.heap.objs.size := Nat.succ_ne_self _
    have hef : s1.heap.objs.size + 1 ∉ [s1.heap.objs.size] := fun z => hne (List.mem_singleton.mp z)
    have T := turn_walksT (P := X.prog) (w := X.w) (K := X.K) (elts := elts) (kk := kk) (tpos := tpos) (n := (S l).cps.size) (Y := fun i xs => ∃ c, l[i]? = some c ∧ xs = [.int (i : Nat), .str (S [c])])
      (fun A hA => WalksT.enumFrom 0 (Draws.text (A := A.in1) hA s1.heap.objs.size (S l) t) (s1.heap.objs.size + 1) hne hef List.mem_cons_self) List.mem_cons_self ?_ ?_ ?_
    · have e2 : (S l).cps.size = l.length := by simp
      rw [e2] at T
      refine ⟨s1.heap.objs.size + 1, _, _, _, H1, rfl, I2, T, ⟨⟨⟨.none, by simpa using he⟩, hit⟩, Nat.zero_le _⟩, fun b hb => ?_, q⟩
      have e' : b = s1.heap.objs.size + 1 ∨ b = s1.heap.objs.size := by simpa using hb
      have hle : s1.heap.objs.size ≤ b := by
        rcases e' with z | z
        · rw [z]; exact Nat.le_add_right _ _
        · rw [z]; exact Nat.le_refl _
      exact I1.fpOk hle (I1.hok.fresh hle)
    · intro i h st b hb
      obtain ⟨⟨old, he⟩, ho⟩ := st
      have e' : b = s1.heap.objs.size + 1 ∨ b = s1.heap.objs.size := by simpa using hb
      rcases e' with z | z
      · rw [z]; exact ⟨_, he, fun v q => nomatch q⟩
      · obtain ⟨o, ho, hc, hd⟩ := ho
        rw [z]; exact ⟨o, ho, fun v q => by rw [hd] at q; cases q⟩
    · rintro i vals hi ⟨tt, x, ⟨c, u, hc, rfl⟩, rfl⟩
      refine ⟨[.int (i : Nat), .str (S [c])], .cons ⟨tt, by rw [Int.zero_add]⟩ (.cons ⟨u, rfl⟩ .nil), by show 2 ≤ sizeLine; decide, c, by simpa using hc, rfl⟩
    · intro A i s Q E st hq
      obtain ⟨⟨old, he⟩, _⟩ := st
      exact wpAny_pyIter_enum he hq
theorem walk_enumS {n : Nat} {Y : Nat → List V → Prop} : Walk (ItT n Y) n (fun _ => True) (fun i H v H' => ∃ T xs, v = .ref T ∧ H T = none ∧ H' = upd H T (.tup xs) ∧ Y i xs) :=
  ⟨fun _ _ hi _ => hi, fun _ _ => Nat.le_refl _, fun _ _ _ _ _ _ y => y⟩
/-- xs[i] read for xs[i] += e -/
theorem get_list {X : Cx} : PGet X (rIxL X.K) := by
  intro pins s σ H x y v u Q I rx ry h
  obtain ⟨p, xs, i, z, rfl, rfl, hq, he, q⟩ := h
  cases rx
  obtain ⟨t, rfl⟩ := ry
  obtain ⟨its, r, pl, hz⟩ := I.list hq
  obtain ⟨j, h1, h2, h3, h4, h5⟩ := atI_get he
  obtain ⟨w, ew, rw'⟩ := r.get h2
  have hl := r.length
  have hn := line63
  have fin : EP X pins σ Q w s := ⟨z, H, I, rw', q⟩
  by_cases h0 : 0 ≤ i
  · have hj : i.toNat = j := by
      rw [seqIndex_of h0 h5] at h1
      exact Option.some.inj h1
    exact wpAny_getItem_list pl.isList h0 (by omega) (by rw [hj]; simpa using ew) fin
  · have hj : (i + (its.toArray.size : Int)).toNat = j := by
      rw [seqIndex_neg (by omega) h4] at h1
      rw [List.size_toArray, ← hl]
      exact Option.some.inj h1
    exact wpAny_getItem_list_neg pl.isList (by omega) (by rw [List.size_toArray] <;> omega) (by omega) (by rw [hj]; simpa using ew) fin
end Lv

set_option Elab.async false
set_option linter.all false
set_option maxRecDepth 100000
set_option maxHeartbeats 2000000
namespace Lv
open PySem PySem.Spec PyProof.Rows L2 SX
/-! ints -/
abbrev rAdd : R2 := rI0 fun i j => .int (i + j)
abbrev rSub : R2 := rI0 fun i j => .int (i - j)
abbrev rMul : R2 := rI CMul fun i j => .int (i * j)
abbrev rDiv : R2 := rI CDiv fun i j => .int (i / j)
abbrev rMod : R2 := rI (fun _ j => 0 < j) fun i j => .int (i % j)
abbrev rPow : R2 := rI CPow fun i j => .int (i ^ j.toNat)
abbrev rLt : R2 := rI0 fun i j => .bl (decide (i < j))
abbrev rLe : R2 := rI0 fun i j => .bl (decide (i ≤ j))
abbrev rGt : R2 := rI0 fun i j => .bl (decide (j < i))
abbrev rGe : R2 := rI0 fun i j => .bl (decide (j ≤ i))
abbrev rEqI : R2 := rI0 fun i j => .bl (decide (i = j))
abbrev rNeI : R2 := rI0 fun i j => .bl (!decide (i = j))
abbrev rNeg : V → Hp → VK → Prop := rU fun i => .int (-i)
section
variable {X : Cx}
theorem op_eqI : OpR X (compareOp .Eq) rEqI := by
  intro pins s σ H x y v u Q I rx ry h
  obtain ⟨i, j, rfl, rfl, q⟩ := h
  refine op_eq pins s σ H _ _ v u Q I rx ry ⟨rfl, ?_⟩
  rw [show decide (V.int i = V.int j) = decide (i = j) by simp]
  exact q
theorem op_neI : OpR X (compareOp .NotEq) rNeI := by
  intro pins s σ H x y v u Q I rx ry h
  obtain ⟨i, j, rfl, rfl, q⟩ := h
  refine op_ne pins s σ H _ _ v u Q I rx ry ⟨rfl, ?_⟩
  rw [show decide (V.int i = V.int j) = decide (i = j) by simp]
  exact q
/-! texts -/
def r2S (g : List Nat → List Nat → V) : R2 := fun x y H Q => ∃ a b : List Nat, x = .str (S a) ∧ y = .str (S b) ∧ Q (g a b) H
def rAddS : R2 := fun x y H Q => ∃ a b : List Nat, x = .str (S a) ∧ y = .str (S b) ∧ a.length + b.length ≤ sizeLine ∧ Q (.str (S (a ++ b))) H
abbrev rEqS : R2 := r2S fun a b => .bl (decide (a = b))
abbrev rNeS : R2 := r2S fun a b => .bl (!decide (a = b))
abbrev rLtS : R2 := r2S fun a b => .bl (decide (a < b))
abbrev rLeS : R2 := r2S fun a b => .bl (!decide (b < a))
abbrev rGtS : R2 := r2S fun a b => .bl (decide (b < a))
abbrev rGeS : R2 := r2S fun a b => .bl (!decide (a < b))
def rMulS : R2 := fun x y H Q => ∃ (l : List Nat) (n : Int), x = .str (S l) ∧ y = .int n ∧ -(2 ^ 38) < n ∧ n < 2 ^ 38 ∧ l.length * n.toNat ≤ sizeLine ∧ Q (.str (S (List.replicate n.toNat l).flatten)) H
theorem op_mulS1 : OpR X (binaryOp .Mult) rMulS := op_mulS
theorem op_addS : OpR X (binaryOp .Add) rAddS := by
  intro pins s σ H x y v u Q I rx ry h
  obtain ⟨a, b, rfl, rfl, hz, q⟩ := h
  refine op_add_str pins s σ H _ _ v u Q I rx ry ⟨_, _, rfl, rfl, ?_, ?_⟩
  · rw [S_len, S_len]; exact hz
  · rw [S_cat]; exact q
theorem dec_S (a b : List Nat) : decide (V.str (S a) = V.str (S b)) = decide (a = b) := by
  by_cases h : a = b
  · subst h; simp
  · have : ¬ (V.str (S a) = V.str (S b)) := fun z => h (S_inj (V.str.inj z))
    rw [decide_eq_false h, decide_eq_false this]
theorem op_eqS : OpR X (compareOp .Eq) rEqS := by
  intro pins s σ H x y v u Q I rx ry h
  obtain ⟨a, b, rfl, rfl, q⟩ := h
  refine op_eq pins s σ H _ _ v u Q I rx ry ⟨rfl, ?_⟩
  rw [dec_S]
  exact q
theorem op_neS : OpR X (compareOp .NotEq) rNeS := by
  intro pins s σ H x y v u Q I rx ry h
  obtain ⟨a, b, rfl, rfl, q⟩ := h
  refine op_ne pins s σ H _ _ v u Q I rx ry ⟨rfl, ?_⟩
  rw [dec_S]
  exact q
theorem op_ltS : OpR X (compareOp .Lt) rLtS := by
  intro pins s σ H x y v u Q I rx ry h
  obtain ⟨a, b, rfl, rfl, q⟩ := h
  exact op_lt_str pins s σ H _ _ v u Q I rx ry ⟨_, _, rfl, rfl, q⟩
theorem op_leS : OpR X (compareOp .LtE) rLeS := by
  intro pins s σ H x y v u Q I rx ry h
  obtain ⟨a, b, rfl, rfl, q⟩ := h
  exact op_le_str pins s σ H _ _ v u Q I rx ry ⟨_, _, rfl, rfl, q⟩
theorem op_gtS : OpR X (compareOp .Gt) rGtS := by
  intro pins s σ H x y v u Q I rx ry h
  obtain ⟨a, b, rfl, rfl, q⟩ := h
  exact op_gt_str pins s σ H _ _ v u Q I rx ry ⟨_, _, rfl, rfl, q⟩
theorem op_geS : OpR X (compareOp .GtE) rGeS := by
  intro pins s σ H x y v u Q I rx ry h
  obtain ⟨a, b, rfl, rfl, q⟩ := h
  exact op_ge_str pins s σ H _ _ v u Q I rx ry ⟨_, _, rfl, rfl, q⟩
/-- one sign in a text -/
def rIn1 (neg : Bool) : R2 := fun x y H Q => ∃ (c : Nat) (l : List Nat), x = .str (S [c]) ∧ y = .str (S l) ∧ Q (.bl (if neg then !decide (c ∈ l) else decide (c ∈ l))) H
theorem op_in1 : OpR X (compareOp .In) (rIn1 false) := by
  intro pins s σ H x y v u Q I rx ry h
  obtain ⟨a, b, rfl, rfl, q⟩ := h
  exact op_in_sign pins s σ H _ _ v u Q I rx ry ⟨_, _, rfl, rfl, q⟩
theorem op_notIn1 : OpR X (compareOp .NotIn) (rIn1 true) := by
  intro pins s σ H x y v u Q I rx ry h
  obtain ⟨a, b, rfl, rfl, q⟩ := h
  exact op_notIn_sign pins s σ H _ _ v u Q I rx ry ⟨_, _, rfl, rfl, q⟩
def rIxT1 : R2 := fun x y H Q => ∃ (l : List Nat) (i : Int) (c : Nat), x = .str (S l) ∧ y = .int i ∧ l.length ≤ sizeLine ∧ atI l i = some c ∧ Q (.str (S [c])) H
theorem ix_S : IxR X rIxT1 := by
  intro value slice pins s σ H x y v u Q I rx ry h hs
  obtain ⟨l, i, c, rfl, rfl, hz, he, q⟩ := h
  exact ix_str value slice pins s σ H _ _ v u Q I rx ry ⟨_, _, c, rfl, rfl, by rw [S_len]; exact hz, he, q⟩ hs
def cutL {α : Type} (l : List α) (lo hi : Option Int) : List α := (l.drop (HT.sIx l.length 0 lo)).take (HT.sIx l.length l.length hi - HT.sIx l.length 0 lo)
def rSlS1 : V → Option Int → Option Int → Hp → VK → Prop := fun x lo hi H Q => ∃ l : List Nat, x = .str (S l) ∧ l.length ≤ sizeLine ∧ Q (.str (S (cutL l lo hi))) H
theorem sl_S : SlR X rSlS1 := by
  intro pins s σ H x v vl vu lo hi sl Q I rx hs pl pu h
  obtain ⟨l, rfl, hz, q⟩ := h
  refine sl_str pins s σ H _ v vl vu lo hi sl Q I rx hs pl pu ⟨_, rfl, by rw [S_len]; exact hz, ?_⟩
  have : cutS (S l) lo hi = S (cutL l lo hi) := by
    unfold cutS cutL
    rw [S_len]
  rw [this]
  exact q
def rLenT : List V → Hp → VK → Prop := fun xs H Q => ∃ l : List Nat, xs = [.str (S l)] ∧ l.length ≤ sizeLine ∧ Q (.int (l.length : Nat)) H
theorem call_lenT : CallR X (.builtin "len") rLenT := by
  intro pins s σ H xs us Q I r h
  obtain ⟨l, rfl, hz, q⟩ := h
  refine call_len_str pins s σ H _ us Q I r ⟨_, rfl, by rw [S_len]; exact hz, ?_⟩
  rw [S_len]
  exact q
abbrev rLenL (K : PySem.W.Frag) : List V → Hp → VK → Prop := fun xs H Q => ∃ p ys, xs = [.ref p] ∧ (SqL K H p ys ∨ SqT K H p ys) ∧ Q (.int ys.length) H
abbrev rListOf (K : PySem.W.Frag) : List V → Hp → VK → Prop := fun xs H Q => ∃ p ys, xs = [.ref p] ∧ (SqL K H p ys ∨ SqT K H p ys) ∧ ∀ l, H l = none → Q (.ref l) (upd H l (.lst ys))
/-- the least place from i on that has c -/
def nextP (l : List Nat) (i c : Nat) : Option Nat := ((l.drop i).idxOf? c).map (· + i)
def findI (l : List Nat) (i c : Nat) : Int := match nextP l i c with | some k => (k : Int) | none => -1
theorem idxOf?_some {l : List Nat} {c k : Nat} : l.idxOf? c = some k ↔ l[k]? = some c ∧ ∀ j, j < k → l[j]? ≠ some c := by
  induction l generalizing k with
  | nil => simp
  | cons a l ih =>
    rw [List.idxOf?_cons]
    by_cases h : (a == c) = true
    · rw [if_pos h]
      have e := eq_of_beq h
      subst e
      constructor
      · intro z
        have := Option.some.inj z
        subst this
        exact ⟨rfl, fun j hj => absurd hj (Nat.not_lt_zero _)⟩
      · rintro ⟨z1, z2⟩
        cases k with
        | zero => rfl
        | succ k => exact absurd rfl (z2 0 (Nat.succ_pos _))
    · rw [if_neg h]
      have hne : a ≠ c := fun e => h (beq_iff_eq.mpr e)
      cases k with
      | zero =>
        constructor
        · intro z
          cases e : l.idxOf? c with
          | none => rw [e] at z; cases z
          | some j => rw [e] at z; cases z
        · rintro ⟨z1, _⟩
          exact absurd (Option.some.inj z1) hne
      | succ k =>
        have : (Option.map (fun x => x + 1) (l.idxOf? c) = some (k + 1)) ↔ l.idxOf? c = some k := by
          cases e : l.idxOf? c with
          | none => simp
          | some j => simp
        rw [this, ih]
        constructor
        · rintro ⟨z1, z2⟩
          refine ⟨z1, fun j hj => ?_⟩
          cases j with
          | zero => exact fun z => hne (Option.some.inj z)
          | succ j => exact z2 j (by omega)
        · rintro ⟨z1, z2⟩
          exact ⟨z1, fun j hj => z2 (j + 1) (by omega)⟩
theorem idxOf?_none {l : List Nat} {c : Nat} : l.idxOf? c = none ↔ ∀ j : Nat, l[j]? ≠ some c := by
  constructor
  · intro h j hj
    have hm := List.mem_of_getElem? hj
    cases e : l.idxOf? c with
    | some k => rw [e] at h; cases h
    | none =>
      rw [List.idxOf?_eq_none_iff] at e
      exact e hm
  · intro h
    rw [List.idxOf?_eq_none_iff]
    intro hm
    obtain ⟨j, hj⟩ := List.mem_iff_getElem?.mp hm
    exact h j hj
theorem nextP_some {l : List Nat} {i c k : Nat} : nextP l i c = some k ↔ i ≤ k ∧ l[k]? = some c ∧ ∀ j, i ≤ j → j < k → l[j]? ≠ some c := by
  unfold nextP
  constructor
  · intro h
    cases e : (l.drop i).idxOf? c with
    | none => rw [e] at h; cases h
    | some m =>
      rw [e] at h
      have hk : m + i = k := Option.some.inj h
      obtain ⟨h1, h2⟩ := idxOf?_some.mp e
      rw [List.getElem?_drop] at h1
      refine ⟨by omega, ?_, fun j hj hjk => ?_⟩
      · rw [← hk, Nat.add_comm m i]; exact h1
      · have := h2 (j - i) (by omega)
        rw [List.getElem?_drop, show i + (j - i) = j by omega] at this
        exact this
  · rintro ⟨h1, h2, h3⟩
    have e : (l.drop i).idxOf? c = some (k - i) := by
      rw [idxOf?_some]
      refine ⟨?_, fun j hj => ?_⟩
      · rw [List.getElem?_drop, show i + (k - i) = k by omega]; exact h2
      · rw [List.getElem?_drop]; exact h3 (i + j) (by omega) (by omega)
    rw [e]
    show some (k - i + i) = some k
    rw [show k - i + i = k by omega]
theorem nextP_none {l : List Nat} {i c : Nat} : nextP l i c = none ↔ ∀ j, i ≤ j → l[j]? ≠ some c := by
  unfold nextP
  rw [Option.map_eq_none_iff, idxOf?_none]
  constructor
  · intro h j hj
    have := h (j - i)
    rw [List.getElem?_drop, show i + (j - i) = j by omega] at this
    exact this
  · intro h j
    rw [List.getElem?_drop]
    exact h (i + j) (by omega)
theorem find3_S (l : List Nat) (c i : Nat) (hi : i ≤ l.length) : Txt.find3 (S l) (S [c]) (i : Int) = findI l i c := by
  have e0 : fromIndex (S l).length (i : Int) = i := by
    rw [S_len]
    unfold fromIndex
    rw [if_neg (by omega)]
    omega
  have gd : ∀ (v x : Nat), v < l.length → ((S l).cps.getD v 0 = x ↔ l[v]? = some x) := fun v x hv => by
    have : (S l).cps.getD v 0 = l.getD v 0 := by simp
    rw [this, List.getD_eq_getElem?_getD, List.getElem?_eq_getElem hv]
    simp
  unfold findI
  rcases StrLaws.find3_spec (S l) c (i : Int) with ⟨h1, h2⟩ | ⟨k, h1, h2, h3, h4, h5⟩
  · rw [e0, S_len] at h2
    have : nextP l i c = none := nextP_none.mpr fun j hj z => by
      have hjl : j < l.length := (List.getElem?_eq_some_iff.mp z).1
      exact h2 j hj hjl ((gd j c hjl).mpr z)
    rw [this]
    exact h1
  · rw [e0] at h2 h5
    rw [S_len] at h3
    have : nextP l i c = some k := nextP_some.mpr ⟨h2, (gd k c h3).mp h4, fun j hj hjk z => h5 j hj hjk ((gd j c (by omega)).mpr z)⟩
    rw [this]
    exact h1
def rFind (x : V) (xs : List V) (H : Hp) (Q : VK) : Prop := ∃ (l : List Nat) (c i : Nat), x = .str (S l) ∧ xs = [.str (S [c]), .int (i : Int)] ∧ i ≤ l.length ∧ Q (.int (findI l i c)) H
theorem mt_findS : MtR X "str.find" rFind := by
  intro pins s σ H x xs v us Q I rx r h
  obtain ⟨l, c, i, rfl, rfl, hi, q⟩ := h
  refine mt_find3 pins s σ H _ _ v us Q I rx r ⟨_, _, _, rfl, rfl, ?_⟩
  have : Txt.find3 (S l) (S [c]) (i : Int) = findI l i c := find3_S l c i hi
  rw [this]
  exact q
def rJoin (K : PySem.W.Frag) : V → List V → Hp → VK → Prop := fun x xs H Q => ∃ (p : Addr) (a : List Nat) (ys : List (List Nat)), x = .str (S a) ∧ xs = [.ref p] ∧ SqL K H p (ys.map fun l => .str (S l)) ∧ (ys.map List.length).sum + ys.length * a.length ≤ 16777216 ∧ Q (.str (S (TL.joinL a ys))) H
theorem mt_joinS : MtR X "str.join" (rJoin X.K) := by
  intro pins s σ H x xs v us Q I rx r h
  obtain ⟨p, a, ys, rfl, rfl, hL, hz, q⟩ := h
  refine mt_join pins s σ H _ _ v us Q I rx r ⟨_, p, ys.map S, rfl, rfl, .inl ?_, ?_, ?_⟩
  · rw [List.map_map]; exact hL
  · rw [lens, List.length_map, S_len]; exact hz
  · rw [join_S]; exact q
end
end Lv

set_option Elab.async false
set_option linter.all false
set_option maxRecDepth 100000
set_option maxHeartbeats 2000000
namespace Lv
open PySem PySem.Spec PyProof.Rows L2 SX
/-! steps of a reading -/
section
variable {K : PySem.W.Frag} {D : Ends} {σ : L2.St} {H : Hp} {Q : VK} {t u : TS} {te ta tb tc : TE} {tt tu : TT} {targs tr : TA} {i : Nat} {v x y : V} {g : TG} {ti : TIp}
theorem i_seq (h : t { D with nx := u D } σ H) : tSeq t u D σ H := h
theorem i_next (h : D.nx σ H) : tNext D σ H := h
theorem i_set (h : te σ H fun x H1 => D.nx (σ.set i (some x)) H1) : tAsg te (gName i) D σ H := h
theorem i_asg (h : te σ H fun x H1 => g x σ H1 D.nx) : tAsg te g D σ H := h
theorem i_drop (h : te σ H fun _ H1 => D.nx σ H1) : tDrop te D σ H := h
theorem i_ret (h : te σ H D.rt) : tRet te D σ H := h
theorem i_if (h : tt σ H fun b H1 => if b = true then t D σ H1 else u D σ H1) : tIfS tt t u D σ H := h
theorem i_brk (h : D.bk σ H) : tBreak D σ H := h
theorem i_cont (h : D.ct σ H) : tCont D σ H := h
theorem i_aug (hx : σ[i]? = some (some x)) (h : te σ H fun y H1 => ti x y H1 fun z H2 => D.nx (σ.set i (some z)) H2) : tAug i te ti D σ H := ⟨x, hx, h⟩
theorem i_ipI {f : Int → Int → Int} {a b : Int} (h : Q (.int (f a b)) H) : ipI f (.int a) (.int b) H Q := ⟨a, b, rfl, rfl, h⟩
theorem i_var (hv : σ[i]? = some (some v)) (h : Q v H) : tVar i σ H Q := ⟨v, hv, h⟩
theorem i_c (h : Q v H) : tC v σ H Q := h
theorem i_op {r : R2} (h : ta σ H fun x H1 => tb σ H1 fun y H2 => r x y H2 Q) : tOp r ta tb σ H Q := h
theorem i_un {r : V → Hp → VK → Prop} (h : ta σ H fun x H1 => r x H1 Q) : tUn r ta σ H Q := h
theorem i_cb {r : List V → Hp → VK → Prop} (h : targs σ H fun vs H1 => r vs H1 Q) : tCB r targs σ H Q := h
theorem i_call {sp : Sp} {dvs : List V} {E : XK} (h : targs σ H fun vs H1 => sp (vs ++ dvs) H1 Q E) : tCall sp dvs E targs σ H Q := h
theorem i_nil {QA : List V → Hp → Prop} (h : QA [] H) : tNil σ H QA := h
theorem i_cons {QA : List V → Hp → Prop} (h : ta σ H fun x H1 => tr σ H1 fun xs H2 => QA (x :: xs) H2) : tCons ta tr σ H QA := h
theorem i_lst (h : targs σ H fun xs H1 => xs.length ≤ sizeLine ∧ ∀ p, H1 p = none → Q (.ref p) (upd H1 p (.lst xs))) : tLst targs σ H Q := h
theorem i_tup (h : targs σ H fun xs H1 => xs.length ≤ sizeLine ∧ ∀ p, H1 p = none → Q (.ref p) (upd H1 p (.tup xs))) : tTup targs σ H Q := h
theorem i_bm {T : String} {r : V → List V → Hp → VK → Prop} (h : te σ H fun x H1 => tyV K T x H1 ∧ targs σ H1 fun xs H2 => r x xs H2 Q) : tBM K T r te targs σ H Q := h
theorem i_bm0 {T : String} {r : V → List V → Hp → VK → Prop} (h : te σ H fun x H1 => tyV K T x H1 ∧ r x [] H1 Q) : tBM0 K T r te σ H Q := h
theorem i_tyS {z : Str} {P : Prop} (h : P) : tyV K "str" (.str z) H ∧ P := ⟨rfl, h⟩
theorem i_sl {r : V → Option Int → Option Int → Hp → VK → Prop} {tl th : TO} (h : te σ H fun x H1 => tl σ H1 fun l H2 => th σ H2 fun u H3 => r x l u H3 Q) : tSl r te tl th σ H Q := h
theorem i_noPart {QO : Option Int → Hp → Prop} (h : QO none H) : tNoPart σ H QO := h
theorem i_part {QO : Option Int → Hp → Prop} (h : te σ H fun x H1 => ∃ i, x = .int i ∧ QO (some i) H1) : tPart te σ H QO := h
theorem i_exI {P : Int → Prop} {n : Int} (h : P n) : ∃ i, V.int n = .int i ∧ P i := ⟨n, rfl, h⟩
theorem i_bl {b : Bool} {P : Bool → Prop} (h : P b) : ∃ k, V.bl b = .bl k ∧ P k := ⟨b, rfl, h⟩
theorem i_test {QB : Bool → Hp → Prop} (h : te σ H fun x H' => ∃ k, x = .bl k ∧ QB k H') : tTest te σ H QB := h
theorem i_tB {QB : Bool → Hp → Prop} (h : te σ H fun x H' => ∃ k, x = .bl k ∧ QB k H') : tB te σ H QB := h
theorem i_not {QB : Bool → Hp → Prop} (h : tt σ H fun c H1 => QB (!c) H1) : tNot tt σ H QB := h
theorem i_and {QB : Bool → Hp → Prop} (h : tt σ H fun c H1 => if c = true then tu σ H1 QB else QB false H1) : tAnd tt tu σ H QB := h
theorem i_or {QB : Bool → Hp → Prop} (h : tt σ H fun c H1 => if c = true then QB true H1 else tu σ H1 QB) : tOr tt tu σ H QB := h
theorem i_andV (h : ta σ H fun x H1 => ∃ c, x = .bl c ∧ if c = true then tb σ H1 Q else Q (.bl false) H1) : tAndV ta tb σ H Q := h
theorem i_orV (h : ta σ H fun x H1 => ∃ c, x = .bl c ∧ if c = true then Q (.bl true) H1 else tb σ H1 Q) : tOrV ta tb σ H Q := h
theorem i_notV (h : ta σ H fun x H1 => ∃ c, x = .bl c ∧ Q (.bl (!c)) H1) : tNotV ta σ H Q := h
theorem i_ifE (h : tt σ H fun c H1 => if c = true then ta σ H1 Q else tb σ H1 Q) : tIf tt ta tb σ H Q := h
theorem i_rI0 {f : Int → Int → V} {a b : Int} (h : Q (f a b) H) : rI0 f (.int a) (.int b) H Q := ⟨a, b, rfl, rfl, h⟩
theorem i_rI {C : Int → Int → Prop} {f : Int → Int → V} {a b : Int} (hc : C a b) (h : Q (f a b) H) : rI C f (.int a) (.int b) H Q := ⟨a, b, rfl, rfl, hc, h⟩
theorem i_rU {f : Int → V} {a : Int} (h : Q (f a) H) : rU f (.int a) H Q := ⟨a, rfl, h⟩
theorem i_r2S {f : List Nat → List Nat → V} {a b : List Nat} (h : Q (f a b) H) : r2S f (.str (S a)) (.str (S b)) H Q := ⟨a, b, rfl, rfl, h⟩
theorem i_in1 {c : Nat} {l : List Nat} (h : Q (.bl (decide (c ∈ l))) H) : rIn1 false (.str (S [c])) (.str (S l)) H Q := ⟨c, l, rfl, rfl, h⟩
theorem i_notIn1 {c : Nat} {l : List Nat} (h : Q (.bl (!decide (c ∈ l))) H) : rIn1 true (.str (S [c])) (.str (S l)) H Q := ⟨c, l, rfl, rfl, h⟩
theorem i_addS {a b : List Nat} (hz : a.length + b.length ≤ sizeLine) (h : Q (.str (S (a ++ b))) H) : rAddS (.str (S a)) (.str (S b)) H Q := ⟨a, b, rfl, rfl, hz, h⟩
theorem i_mulS {l : List Nat} {n : Int} (h0 : -(2 ^ 38) < n) (h1 : n < 2 ^ 38) (hz : l.length * n.toNat ≤ sizeLine) (h : Q (.str (S (List.replicate n.toNat l).flatten)) H) : rMulS (.str (S l)) (.int n) H Q := ⟨l, n, rfl, rfl, h0, h1, hz, h⟩
theorem i_ixS {l : List Nat} {n : Int} {c : Nat} (hz : l.length ≤ sizeLine) (hc : atI l n = some c) (h : Q (.str (S [c])) H) : rIxT1 (.str (S l)) (.int n) H Q := ⟨l, n, c, rfl, rfl, hz, hc, h⟩
theorem i_slS {l : List Nat} {lo hi : Option Int} (hz : l.length ≤ sizeLine) (h : Q (.str (S (cutL l lo hi))) H) : rSlS1 (.str (S l)) lo hi H Q := ⟨l, rfl, hz, h⟩
theorem i_revS {R : List Nat → Prop} {l : List Nat} (hz : l.length ≤ sizeLine) (h : R l) : (∃ l' : List Nat, V.str (S l) = .str (S l') ∧ l'.length ≤ sizeLine ∧ R l') := ⟨l, rfl, hz, h⟩
theorem i_tRevS (h : te σ H fun x H1 => ∃ l : List Nat, x = .str (S l) ∧ l.length ≤ sizeLine ∧ Q (.str (S l.reverse)) H1) : tRevS te σ H Q := h
theorem i_lenT {l : List Nat} (hz : l.length ≤ sizeLine) (h : Q (.int (l.length : Nat)) H) : rLenT [.str (S l)] H Q := ⟨l, rfl, hz, h⟩
theorem i_find {l : List Nat} {c j : Nat} (hj : j ≤ l.length) (h : Q (.int (findI l j c)) H) : rFind (.str (S l)) [.str (S [c]), .int (j : Int)] H Q := ⟨l, c, j, rfl, rfl, hj, h⟩
theorem i_ixL {p : Addr} {xs : List V} {n : Int} (hp : SqL K H p xs) (hn : atI xs n = some v) (h : Q v H) : rIxL K (.ref p) (.int n) H Q := ⟨p, xs, n, v, rfl, rfl, hp, hn, h⟩
theorem i_ixU {p : Addr} {xs : List V} {n : Int} (hp : SqT K H p xs) (hn : atI xs n = some v) (h : Q v H) : rIxT K (.ref p) (.int n) H Q := ⟨p, xs, n, v, rfl, rfl, hp, hn, h⟩
end
theorem if_dec {p : Prop} [Decidable p] {A B : Prop} (h1 : p → A) (h2 : ¬ p → B) : if decide p = true then A else B := by
  by_cases h : p
  · rw [decide_eq_true h, if_pos rfl]; exact h1 h
  · rw [decide_eq_false h, if_neg Bool.false_ne_true]; exact h2 h
theorem if_ndec {p : Prop} [Decidable p] {A B : Prop} (h1 : ¬ p → A) (h2 : p → B) : if (!decide p) = true then A else B := by
  by_cases h : p
  · rw [decide_eq_true h]; exact iteF (h2 h)
  · rw [decide_eq_false h]; exact iteT (h1 h)
theorem if_yes {p : Prop} [Decidable p] {A B : Prop} (hp : p) (h1 : A) : if decide p = true then A else B := by
  rw [decide_eq_true hp, if_pos rfl]; exact h1
theorem if_no {p : Prop} [Decidable p] {A B : Prop} (hp : ¬ p) (h1 : B) : if decide p = true then A else B := by
  rw [decide_eq_false hp, if_neg Bool.false_ne_true]; exact h1
theorem le_line {n : Nat} (h : n ≤ 1000000) : n ≤ sizeLine := Nat.le_trans h (by decide)
theorem lt_line {n : Nat} (h : n ≤ 1000000) : n < sizeLine := Nat.lt_of_le_of_lt h (by decide)
/-! heaps -/
/-- all but what stands at h is as it was -/
def But (h : Addr) (H H' : Hp) : Prop := ∀ b o, b ≠ h → H b = some o → H' b = some o
theorem But.refl (h : Addr) (H : Hp) : But h H H := fun _ _ _ q => q
theorem But.trans {h : Addr} {H H1 H2 : Hp} (a : But h H H1) (b : But h H1 H2) : But h H H2 := fun c o n q => b c o n (a c o n q)
theorem _root_.L2.Same.but {h : Addr} {H H' : Hp} (a : Same H H') : But h H H' := fun c o _ q => a c o q
theorem But.same {h : Addr} {H H' : Hp} (a : But h H H') (n : H h = none) : Same H H' := fun c o q => a c o (ne_of_none q n) q
theorem But.upd {h : Addr} {H : Hp} {o : HO} : But h H (L2.upd H h o) := fun c o' n q => by rw [upd_ne n]; exact q
theorem same_new {H : Hp} {p : Addr} {o : HO} (n : H p = none) : Same H (upd H p o) := fun c o' q => by rw [upd_ne (ne_of_none q n)]; exact q
theorem But.seq {K : PySem.W.Frag} {h : Addr} {H H' : Hp} {a : Addr} {xs : List V} (e : But h H H') (n : a ≠ h) (q : SqL K H a xs) : SqL K H' a xs := by
  rcases q with (q | ⟨o, q⟩) | q
  · exact .inl (.inl (e _ _ n q))
  · exact .inl (.inr ⟨o, e _ _ n q⟩)
  · exact .inr q
theorem _root_.L2.Same.tup {K : PySem.W.Frag} {H H' : Hp} {a : Addr} {xs : List V} (e : Same H H') (q : SqT K H a xs) : SqT K H' a xs := by
  rcases q with (q | ⟨o, q⟩) | q
  · exact .inl (.inl (e _ _ q))
  · exact .inl (.inr ⟨o, e _ _ q⟩)
  · exact .inr q
theorem SqL.of1 {K : PySem.W.Frag} {H : Hp} {a : Addr} {xs : List V} (h : H a = some (.lst xs)) : SqL K H a xs := .inl (.inl h)
theorem SqT.of1 {K : PySem.W.Frag} {H : Hp} {a : Addr} {xs : List V} (h : H a = some (.tup xs)) : SqT K H a xs := .inl (.inl h)
/-- the hand: two whole numbers -/
def Hd (H : Hp) (h : Addr) : Prop := ∃ d m : Int, H h = some (.lst [.int d, .int m]) ∧ 0 ≤ d ∧ 0 ≤ m ∧ m < 2147483648
theorem Hd.same {H H' : Hp} {h : Addr} (e : Same H H') (x : Hd H h) : Hd H' h := by
  obtain ⟨d, m, a, b⟩ := x
  exact ⟨d, m, e _ _ a, b⟩

/-! int(truth), truths, lists of ints compared -/
def rIntB : List V → Hp → VK → Prop := fun xs H Q => ∃ k : Bool, xs = [.bl k] ∧ Q (.int (if k = true then 1 else 0)) H
theorem call_intB {X : Cx} : CallR X (.type "int") rIntB := by
  intro pins s σ H xs us Q I r h
  exact call_int1 pins s σ H xs us Q I r (.inr h)
theorem i_intB {H : Hp} {Q : VK} {k : Bool} (h : Q (.int (if k = true then 1 else 0)) H) : rIntB [.bl k] H Q := ⟨k, rfl, h⟩
def r2B (g : Bool → Bool → Bool) : R2 := fun x y H Q => ∃ a b : Bool, x = .bl a ∧ y = .bl b ∧ Q (.bl (g a b)) H
abbrev rEqB : R2 := r2B fun a b => decide (a = b)
abbrev rNeB : R2 := r2B fun a b => !decide (a = b)
theorem i_r2B {g : Bool → Bool → Bool} {a b : Bool} {H : Hp} {Q : VK} (h : Q (.bl (g a b)) H) : r2B g (.bl a) (.bl b) H Q := ⟨a, b, rfl, rfl, h⟩
section
variable {X : Cx}
theorem op_eqB : OpR X (compareOp .Eq) rEqB := by
  intro pins s σ H x y v u Q I rx ry h
  obtain ⟨i, j, rfl, rfl, q⟩ := h
  refine op_eq pins s σ H _ _ v u Q I rx ry ⟨rfl, ?_⟩
  rw [show decide (V.bl i = V.bl j) = decide (i = j) by simp]
  exact q
theorem op_neB : OpR X (compareOp .NotEq) rNeB := by
  intro pins s σ H x y v u Q I rx ry h
  obtain ⟨i, j, rfl, rfl, q⟩ := h
  refine op_ne pins s σ H _ _ v u Q I rx ry ⟨rfl, ?_⟩
  rw [show decide (V.bl i = V.bl j) = decide (i = j) by simp]
  exact q
theorem op_isB : OpR X (compareOp .Is) rEqB := by
  intro pins s σ H x y v u Q I rx ry h
  obtain ⟨i, j, rfl, rfl, q⟩ := h
  exact op_isBl pins s σ H _ _ v u Q I rx ry ⟨_, _, rfl, rfl, q⟩
theorem op_isNotB : OpR X (compareOp .IsNot) rNeB := by
  intro pins s σ H x y v u Q I rx ry h
  obtain ⟨i, j, rfl, rfl, q⟩ := h
  exact op_notBl pins s σ H _ _ v u Q I rx ry ⟨_, _, rfl, rfl, q⟩
theorem dp_ints {K : PySem.W.Frag} {H : Hp} : ∀ ns : List Int, DpAll K H (ns.map V.int) (ns.map PyData.int)
  | [] => .nil
  | n :: ns => .cons (.int n) (dp_ints ns)
theorem lay_ints : ∀ ns : List Int, PyData.canLayAll0 (ns.map PyData.int) = true
  | [] => by simp [PyData.canLayAll0]
  | n :: ns => by simp [PyData.canLayAll0, PyData.canLay0, lay_ints ns]
theorem depth_ints : ∀ ns : List Int, PyData.depthAll (ns.map PyData.int) = 0
  | [] => by simp [PyData.depthAll]
  | n :: ns => by simp [PyData.depthAll, PyData.depth, depth_ints ns]
theorem shaped_ints (ns : List Int) : SeqAt.shaped (.list (ns.map PyData.int)) = true := by
  unfold SeqAt.shaped
  rw [PyData.canLay0, lay_ints, PyData.depth, depth_ints]
  rfl
theorem eqv_ints : ∀ ns ms : List Int, PyData.eqvAll (ns.map PyData.int) (ms.map PyData.int) = decide (ns = ms)
  | [], [] => by simp [PyData.eqvAll]
  | [], _ :: _ => by simp [PyData.eqvAll]
  | _ :: _, [] => by simp [PyData.eqvAll]
  | n :: ns, m :: ms => by
    simp only [List.map_cons, PyData.eqvAll, PyData.eqv, eqv_ints ns ms, List.cons.injEq]
    by_cases h : n = m
    · subst h; simp
    · simp [h]
def r2L (K : PySem.W.Frag) (g : List Int → List Int → Bool) : R2 := fun x y H Q => ∃ (p q : Addr) (ns ms : List Int), x = .ref p ∧ y = .ref q ∧ SqL K H p (ns.map V.int) ∧ SqL K H q (ms.map V.int) ∧ Q (.bl (g ns ms)) H
abbrev rEqL (K : PySem.W.Frag) : R2 := r2L K fun a b => decide (a = b)
abbrev rNeL (K : PySem.W.Frag) : R2 := r2L K fun a b => !decide (a = b)
theorem op_eqL (hu : X.A.units + 64 < cLine) : OpR X (compareOp .Eq) (rEqL X.K) := by
  intro pins s σ H x y v u Q I rx ry h
  obtain ⟨p, q, ns, ms, rfl, rfl, h1, h2, k⟩ := h
  refine op_eqD hu pins s σ H _ _ v u Q I rx ry ⟨_, _, .lst h1 (dp_ints ns), .lst h2 (dp_ints ms), shaped_ints ns, shaped_ints ms, ?_⟩
  rw [PyData.eqv, eqv_ints]
  exact k
theorem op_neL (hu : X.A.units + 64 < cLine) : OpR X (compareOp .NotEq) (rNeL X.K) := by
  intro pins s σ H x y v u Q I rx ry h
  obtain ⟨p, q, ns, ms, rfl, rfl, h1, h2, k⟩ := h
  refine op_neD hu pins s σ H _ _ v u Q I rx ry ⟨_, _, .lst h1 (dp_ints ns), .lst h2 (dp_ints ms), shaped_ints ns, shaped_ints ms, ?_⟩
  rw [PyData.eqv, eqv_ints]
  exact k
end
theorem i_r2L {K : PySem.W.Frag} {g : List Int → List Int → Bool} {p q : Addr} {ns ms : List Int} {H : Hp} {Q : VK} (h1 : SqL K H p (ns.map V.int)) (h2 : SqL K H q (ms.map V.int)) (h : Q (.bl (g ns ms)) H) : r2L K g (.ref p) (.ref q) H Q := ⟨p, q, ns, ms, rfl, rfl, h1, h2, h⟩
section
variable {K : PySem.W.Frag} {H : Hp} {Q : VK}
theorem i_isi_int_int {n : Int} (q : Q (.bl true) H) : rIsi K [.int n, .ty "int"] H Q := ⟨_, _, _, _, true, rfl, .ty _, .base (.int n), kit_ty (by decide +kernel), q⟩
theorem i_isi_int_bool {n : Int} (q : Q (.bl false) H) : rIsi K [.int n, .ty "bool"] H Q := ⟨_, _, _, _, false, rfl, .ty _, .base (.int n), kit_ty (by decide +kernel), q⟩
theorem i_isi_bl_bool {b : Bool} (q : Q (.bl true) H) : rIsi K [.bl b, .ty "bool"] H Q := ⟨_, _, _, _, true, rfl, .ty _, .base (.bl b), kit_ty (by decide +kernel), q⟩
end
section
variable {K : PySem.W.Frag} {σ : L2.St} {H : Hp} {v : V} {R : L2.St → Hp → Prop} {t : TG} {u : TGs}
theorem i_gSub {to ti : TE} {ts : TSet} (h : to σ H fun o H1 => ti σ H1 fun i H2 => ts o i v H2 fun H3 => R σ H3) : gSub to ti ts v σ H R := h
theorem i_setL {p : Addr} {xs : List V} {n : Int} {j : Nat} {P : Hp → Prop} (hp : H p = some (.lst xs)) (hj : ixN xs.length n = some j) (h : P (upd H p (.lst (xs.set j v)))) : rSetL (.ref p) (.int n) v H P := ⟨p, xs, n, j, rfl, rfl, hp, hj, h⟩
theorem i_gName {i : Nat} (h : R (σ.set i (some v)) H) : gName i v σ H R := h
theorem i_gTup {a : Addr} {xs : List V} {n : Nat} (ha : SqT K H a xs) (hn : xs.length = n) (h : u xs σ H R) : gTup K n u (.ref a) σ H R := ⟨a, xs, rfl, ha, hn, h⟩
theorem i_gCons {r : List V} (h : t v σ H fun σ' H' => u r σ' H' R) : gCons t u (v :: r) σ H R := ⟨v, r, rfl, h⟩
theorem i_gNil (h : R σ H) : gNil [] σ H R := ⟨rfl, h⟩
theorem i_par {i j : Nat} {ta : TA} {D : Ends} (h : ta σ H fun vs H1 => ∃ v w, vs = [v, w] ∧ D.nx ((σ.set i (some v)).set j (some w)) H1) : tPar i j ta D σ H := h
end
theorem i_app {l : Addr} {xs : List V} {y : V} {H : Hp} {Q : VK} (hl : H l = some (.lst xs)) (hz : xs.length < sizeLine) (h : Q .non (upd H l (.lst (xs ++ [y])))) : rAppend (.ref l) [y] H Q := ⟨l, xs, y, rfl, rfl, hl, hz, h⟩
theorem i_tyL {K : PySem.W.Frag} {H : Hp} {l : Addr} {xs : List V} {P : Prop} (hl : SqL K H l xs) (h : P) : tyV K "list" (.ref l) H ∧ P := ⟨.inl ⟨rfl, xs, hl⟩, h⟩
theorem i_cat {l b : Addr} {xs zs : List V} {H : Hp} {Q : VK} (h1 : H l = some (.lst xs)) (h2 : H b = some (.lst zs)) (hz : xs.length + zs.length ≤ sizeLine) (h : ∀ p, H p = none → Q (.ref p) (upd H p (.lst (xs ++ zs)))) : rCat (.ref l) (.ref b) H Q := ⟨l, b, xs, zs, rfl, rfl, h1, h2, hz, h⟩
theorem i_rep {l : Addr} {k : Int} {xs : List V} {H : Hp} {Q : VK} (h1 : H l = some (.lst xs)) (k0 : -(2 ^ 63) ≤ k) (k1 : k < 2 ^ 63) (hz : xs.length * k.toNat ≤ sizeLine) (h : ∀ p, H p = none → Q (.ref p) (upd H p (.lst (List.replicate k.toNat xs).flatten))) : rRep (.ref l) (.int k) H Q := ⟨l, k, xs, rfl, rfl, h1, k0, k1, hz, h⟩
theorem i_slL {K : PySem.W.Frag} {a : Addr} {xs : List V} {lo hi : Option Int} {H : Hp} {Q : VK} (h1 : SqL K H a xs) (h : ∀ p, H p = none → Q (.ref p) (upd H p (.lst (cutV xs lo hi)))) : rSlL K (.ref a) lo hi H Q := ⟨a, xs, rfl, h1, h⟩
theorem i_lenL {K : PySem.W.Frag} {a : Addr} {xs : List V} {H : Hp} {Q : VK} (h1 : SqL K H a xs) (h : Q (.int (xs.length : Nat)) H) : rLenL K [.ref a] H Q := ⟨a, xs, rfl, .inl h1, h⟩
theorem i_listOf {K : PySem.W.Frag} {a : Addr} {xs : List V} {H : Hp} {Q : VK} (h1 : SqL K H a xs) (h : ∀ l, H l = none → Q (.ref l) (upd H l (.lst xs))) : rListOf K [.ref a] H Q := ⟨a, xs, rfl, .inl h1, h⟩
theorem i_sum {K : PySem.W.Frag} {a : Addr} {ns : List Int} {H : Hp} {Q : VK} (h1 : SqL K H a (ns.map V.int)) (h : Q (.int ns.sum) H) : rSum K [.ref a] H Q := ⟨a, ns, rfl, h1, h⟩
theorem i_join {K : PySem.W.Frag} {p : Addr} {a : List Nat} {ys : List (List Nat)} {H : Hp} {Q : VK} (h1 : SqL K H p (ys.map fun l => .str (S l))) (hz : (ys.map List.length).sum + ys.length * a.length ≤ 16777216) (h : Q (.str (S (TL.joinL a ys))) H) : rJoin K (.str (S a)) [.ref p] H Q := ⟨p, a, ys, rfl, rfl, h1, hz, h⟩
theorem i_listEn {K : PySem.W.Frag} {te : TE} {σ : L2.St} {H : Hp} {Q : VK} (h : te σ H fun x H1 => rListEn K x H1 Q) : tListEn K te σ H Q := h
theorem i_rng1 {ta : TA} {σ : L2.St} {H : Hp} {R : It → Hp → Prop} (h : ta σ H fun vs H1 => ∃ j : Int, vs = [.int j] ∧ -(2 ^ 62) ≤ j ∧ j < 2 ^ 62 ∧ R (Itr 0 j.toNat) H1) : iRng1 ta σ H R := h
theorem i_rng1x {n : Int} {H : Hp} {R : It → Hp → Prop} (h0 : -(2 ^ 62) ≤ n) (h1 : n < 2 ^ 62) (h : R (Itr 0 n.toNat) H) : ∃ j : Int, [V.int n] = [.int j] ∧ -(2 ^ 62) ≤ j ∧ j < 2 ^ 62 ∧ R (Itr 0 j.toNat) H := ⟨n, rfl, h0, h1, h⟩
theorem cutV_map {α : Type} (f : α → V) (l : List α) (lo hi : Option Int) : cutV (l.map f) lo hi = (cutL l lo hi).map f := by
  unfold cutV cutL
  rw [List.length_map, List.map_take, List.map_drop]
theorem cutL_length {α : Type} (l : List α) (lo hi : Option Int) : (cutL l lo hi).length ≤ l.length := by
  unfold cutL
  rw [List.length_take, List.length_drop]
  omega
theorem cutL_to {α : Type} (l : List α) (n : Nat) : cutL l none (some (n : Int)) = l.take n := by
  unfold cutL
  rw [HT.sIx_nat, HT.sIx_none, List.drop_zero, Nat.sub_zero]
  by_cases h : n ≤ l.length
  · rw [Nat.min_eq_left h]
  · rw [Nat.min_eq_right (by omega), List.take_of_length_le (Nat.le_refl _), List.take_of_length_le (by omega)]
theorem cutL_from {α : Type} (l : List α) (n : Nat) : cutL l (some (n : Int)) none = l.drop n := by
  unfold cutL
  rw [HT.sIx_nat, HT.sIx_none]
  by_cases h : n ≤ l.length
  · rw [Nat.min_eq_left h, List.take_of_length_le (by rw [List.length_drop]; exact Nat.le_refl _)]
  · rw [Nat.min_eq_right (by omega), List.drop_of_length_le (Nat.le_refl _), List.drop_of_length_le (by omega), List.take_nil]
end Lv

set_option Elab.async false
set_option linter.all false
set_option maxRecDepth 100000
set_option maxHeartbeats 2000000
namespace Lv
open PySem PySem.Spec PyProof.Rows L2 SX
/-! more of heaps -/
theorem But.updN {h D : Addr} {H1 H : Hp} {o : HO} (e : But h H1 H) (n : H1 D = none) : But h H1 (L2.upd H D o) := fun b u nb q => by
  rw [upd_ne (ne_of_none q n)]
  exact e b u nb q
theorem But.at {h : Addr} {H1 H : Hp} {b : Addr} {o : HO} (e : But h H1 H) (q : H1 b = some o) (n : b ≠ h) : H b = some o := e b o n q
theorem _root_.L2.Same.updN {D : Addr} {H1 H : Hp} {o : HO} (e : Same H1 H) (n : H1 D = none) : Same H1 (L2.upd H D o) := fun b u q => by
  rw [upd_ne (ne_of_none q n)]
  exact e b u q
theorem Hd.updN {h D : Addr} {H : Hp} {o : HO} (x : Hd H h) (n : h ≠ D) : Hd (L2.upd H D o) h := by
  obtain ⟨d, m, a, b⟩ := x
  exact ⟨d, m, by rw [upd_ne n]; exact a, b⟩
theorem Hd.ne {h D : Addr} {H : Hp} (x : Hd H h) (n : H D = none) : h ≠ D := by
  obtain ⟨d, m, a, b⟩ := x
  exact ne_of_none a n
theorem Hd.is {h : Addr} {H : Hp} (x : Hd H h) : ∃ o, H h = some o := by
  obtain ⟨d, m, a, b⟩ := x
  exact ⟨_, a⟩
/-! picks -/
theorem atI_lt {α : Type} {xs : List α} {r : Int} (h0 : 0 ≤ r) (h1 : r < xs.length) : ∃ v, v ∈ xs ∧ atI xs r = some v := by
  have hl : r.toNat < xs.length := by omega
  refine ⟨xs[r.toNat], List.getElem_mem hl, ?_⟩
  have e := atI_nat (xs := xs) (j := r.toNat) (v := xs[r.toNat]) (List.getElem?_eq_getElem hl)
  rw [show ((r.toNat : Nat) : Int) = r by omega] at e
  exact e
theorem i_pick {K : PySem.W.Frag} {p : Addr} {xs : List V} {r : Int} {H : Hp} {Q : VK} (hp : SqL K H p xs) (h0 : 0 ≤ r) (h1 : r < xs.length) (h : ∀ v, v ∈ xs → Q v H) : rIxL K (.ref p) (.int r) H Q := by
  obtain ⟨v, hv, e⟩ := atI_lt h0 h1
  exact i_ixL hp e (h v hv)
theorem i_pickI {K : PySem.W.Frag} {p : Addr} {ns : List Int} {r : Int} {H : Hp} {Q : VK} (lo hi : Int) (hp : SqL K H p (ns.map V.int)) (h0 : 0 ≤ r) (h1 : r < ns.length) (hall : ∀ m ∈ ns, lo ≤ m ∧ m ≤ hi) (h : ∀ m, lo ≤ m → m ≤ hi → Q (.int m) H) : rIxL K (.ref p) (.int r) H Q := by
  refine i_pick hp h0 (by rw [List.length_map]; exact h1) fun v hv => ?_
  obtain ⟨m, hm, rfl⟩ := List.mem_map.mp hv
  exact h m (hall m hm).1 (hall m hm).2
/-- one sign -/
abbrev vc (c : Nat) : V := .str (S [c])
/-- all signs are small letters -/
def Low (l : List Nat) : Prop := ∀ c ∈ l, 97 ≤ c ∧ c ≤ 122
theorem i_pickC {K : PySem.W.Frag} {p : Addr} {cs : List Nat} {r : Int} {H : Hp} {Q : VK} (hp : SqL K H p (cs.map vc)) (h0 : 0 ≤ r) (h1 : r < cs.length) (h : ∀ c, c ∈ cs → Q (.str (S [c])) H) : rIxL K (.ref p) (.int r) H Q := by
  refine i_pick hp h0 (by rw [List.length_map]; exact h1) fun v hv => ?_
  obtain ⟨m, hm, rfl⟩ := List.mem_map.mp hv
  exact h m hm
theorem i_pickS {l : List Nat} {r : Int} {H : Hp} {Q : VK} (hz : l.length ≤ 1000000) (h0 : 0 ≤ r) (h1 : r < l.length) (h : ∀ c, c ∈ l → Q (.str (S [c])) H) : rIxT1 (.str (S l)) (.int r) H Q := by
  obtain ⟨v, hv, e⟩ := atI_lt h0 h1
  exact i_ixS (le_line hz) e (h v hv)
abbrev abc : List Nat := [97, 98, 99, 100, 101, 102, 103, 104, 105, 106, 107, 108, 109, 110, 111, 112, 113, 114, 115, 116, 117, 118, 119, 120, 121, 122]
theorem low_abc : Low abc := by unfold Low; decide
theorem Low.app {a b : List Nat} (h1 : Low a) (h2 : Low b) : Low (a ++ b) := fun c hc => by
  rcases List.mem_append.mp hc with h | h
  · exact h1 c h
  · exact h2 c h
theorem Low.one {c : Nat} (h : 97 ≤ c ∧ c ≤ 122) : Low [c] := fun d hd => by
  rw [List.mem_singleton.mp hd]; exact h
theorem Low.sub {a b : List Nat} (h1 : Low a) (h2 : ∀ c ∈ b, c ∈ a) : Low b := fun c hc => h1 c (h2 c hc)
theorem Low.nil : Low [] := fun c hc => nomatch hc
theorem Low.rev {a : List Nat} (h1 : Low a) : Low a.reverse := h1.sub fun c hc => List.mem_reverse.mp hc
theorem Low.cut {a : List Nat} {lo hi : Option Int} (h1 : Low a) : Low (cutL a lo hi) := h1.sub fun c hc => List.mem_of_mem_drop (List.mem_of_mem_take hc)
/-! comprehensions -/
/-- the list grown so far at D is acc, and Iv holds of it -/
def Pa (D : Addr) (Iv : Nat → List V → Hp → Prop) (i : Nat) (H : Hp) : Prop := ∃ acc : List V, acc.length ≤ i ∧ H D = some (.lst acc) ∧ Iv i acc H
theorem lc_acc {J : It} {n : Nat} {G : Hp → Prop} {Y : Nat → Hp → V → Hp → Prop} (w : Walk J n G Y) {g : TG} {tt : TT} {te : TE} {vs : List Nat} {σ : L2.St} {H1 : Hp} {D : Addr} {Qd : Hp → Prop} (Iv : Nat → List V → Hp → Prop)
    (h0 : Iv 0 [] (upd H1 D (.lst []))) (hG : ∀ i acc H, i ≤ n → H D = some (.lst acc) → Iv i acc H → G H)
    (hs : ∀ i acc x H H', i < n → acc.length ≤ i → H D = some (.lst acc) → Iv i acc H → Y i H x H' → g x (wipe σ vs) H' fun σ2 H2 => wipe σ2 vs = wipe σ vs ∧ tt σ2 H2 fun b H3 =>
      if b = true then te σ2 H3 fun y H4 => ∃ acc, H4 D = some (.lst acc) ∧ acc.length < sizeLine ∧ Pa D Iv (i + 1) (upd H4 D (.lst (acc ++ [y]))) else Pa D Iv (i + 1) H3)
    (hd : ∀ acc H, acc.length ≤ n → H D = some (.lst acc) → Iv n acc H → Qd H) :
    ∃ W : Nat → Nat → Hp → Prop, (∃ m, W 0 m (upd H1 D (.lst []))) ∧ ∀ i m H, W i m H →
      (J.stop i H ∧ Qd H) ∨ (J.go i H ∧ ∃ Nx : Hp → Prop, (∀ H', Nx H' → ∃ m', m' < m ∧ W (i + 1) m' H') ∧ ∀ x H', J.yld i H x H' → g x (wipe σ vs) H' fun σ2 H2 => wipe σ2 vs = wipe σ vs ∧ tt σ2 H2 fun b H3 =>
        if b = true then te σ2 H3 fun y H4 => ∃ acc, H4 D = some (.lst acc) ∧ acc.length < sizeLine ∧ Nx (upd H4 D (.lst (acc ++ [y]))) else Nx H3) := by
  refine lc_it w (Pa D Iv) ⟨[], Nat.le_refl _, upd_same, h0⟩ (fun i H hi ⟨acc, _, h1, h2⟩ => hG i acc H hi h1 h2) ?_ ?_
  · rintro i x H H' hi ⟨acc, hl, h1, h2⟩ y
    exact hs i acc x H H' hi hl h1 h2 y
  · rintro H ⟨acc, hl, h1, h2⟩
    exact hd acc H hl h1 h2
theorem lc_put {D : Addr} {Iv : Nat → List V → Hp → Prop} {i : Nat} {acc : List V} {y : V} {H4 : Hp} (e : H4 D = some (.lst acc)) (hl : acc.length ≤ i) (hi : i ≤ 1000000) (h : Iv (i + 1) (acc ++ [y]) (upd H4 D (.lst (acc ++ [y])))) :
    ∃ acc, H4 D = some (.lst acc) ∧ acc.length < sizeLine ∧ Pa D Iv (i + 1) (upd H4 D (.lst (acc ++ [y]))) :=
  ⟨acc, e, lt_line (by omega), acc ++ [y], by simp; omega, upd_same, h⟩
theorem lc_skip {D : Addr} {Iv : Nat → List V → Hp → Prop} {i : Nat} {acc : List V} {H3 : Hp} (e : H3 D = some (.lst acc)) (hl : acc.length ≤ i) (h : Iv (i + 1) acc H3) : Pa D Iv (i + 1) H3 := ⟨acc, by omega, e, h⟩
/-- [e for x in range(n)] -/
theorem i_lcR {n : Int} {g : TG} {tt : TT} {te : TE} {vs : List Nat} {σ : L2.St} {H : Hp} {Q : VK} (h0 : 0 ≤ n) (h1 : n ≤ 1000000) (h : ∀ D, H D = none → ∃ W : Nat → Nat → Hp → Prop, (∃ m, W 0 m (upd H D (.lst []))) ∧ ∀ i m H, W i m H →
      ((Itr 0 n.toNat).stop i H ∧ Q (.ref D) H) ∨ ((Itr 0 n.toNat).go i H ∧ ∃ Nx : Hp → Prop, (∀ H', Nx H' → ∃ m', m' < m ∧ W (i + 1) m' H') ∧ ∀ x H', (Itr 0 n.toNat).yld i H x H' → g x (wipe σ vs) H' fun σ2 H2 => wipe σ2 vs = wipe σ vs ∧ tt σ2 H2 fun b H3 =>
        if b = true then te σ2 H3 fun y H4 => ∃ acc, H4 D = some (.lst acc) ∧ acc.length < sizeLine ∧ Nx (upd H4 D (.lst (acc ++ [y]))) else Nx H3)) :
    ∃ j : Int, [V.int n] = [.int j] ∧ -(2 ^ 62) ≤ j ∧ j < 2 ^ 62 ∧ ∀ D, H D = none → ∃ W : Nat → Nat → Hp → Prop, (∃ m, W 0 m (upd H D (.lst []))) ∧ ∀ i m H, W i m H →
      ((Itr 0 j.toNat).stop i H ∧ Q (.ref D) H) ∨ ((Itr 0 j.toNat).go i H ∧ ∃ Nx : Hp → Prop, (∀ H', Nx H' → ∃ m', m' < m ∧ W (i + 1) m' H') ∧ ∀ x H', (Itr 0 j.toNat).yld i H x H' → g x (wipe σ vs) H' fun σ2 H2 => wipe σ2 vs = wipe σ vs ∧ tt σ2 H2 fun b H3 =>
        if b = true then te σ2 H3 fun y H4 => ∃ acc, H4 D = some (.lst acc) ∧ acc.length < sizeLine ∧ Nx (upd H4 D (.lst (acc ++ [y]))) else Nx H3) := ⟨n, rfl, by omega, by omega, h⟩
theorem i_tYes {σ : L2.St} {H : Hp} {QB : Bool → Hp → Prop} (h : QB true H) : tYes σ H QB := h
theorem i_lc {wi : TI} {g : TG} {tt : TT} {te : TE} {vs : List Nat} {σ : L2.St} {H : Hp} {Q : VK} (h : wi σ H fun J H1 => ∀ D, H1 D = none → ∃ W : Nat → Nat → Hp → Prop, (∃ m, W 0 m (upd H1 D (.lst []))) ∧ ∀ i m H, W i m H →
  (J.stop i H ∧ Q (.ref D) H) ∨ (J.go i H ∧ ∃ Nx : Hp → Prop, (∀ H', Nx H' → ∃ m', m' < m ∧ W (i + 1) m' H') ∧ ∀ x H', J.yld i H x H' → g x (wipe σ vs) H' fun σ2 H2 => wipe σ2 vs = wipe σ vs ∧ tt σ2 H2 fun b H3 =>
    if b = true then te σ2 H3 fun y H4 => ∃ acc, H4 D = some (.lst acc) ∧ acc.length < sizeLine ∧ Nx (upd H4 D (.lst (acc ++ [y]))) else Nx H3)) : tLc wi g tt te vs σ H Q := h
/-- [c for c in text] -/
theorem i_str {te : TE} {σ : L2.St} {H : Hp} {R : It → Hp → Prop} (h : te σ H fun v H1 => ∃ x, v = .str x ∧ R (Its x) H1) : iStr te σ H R := h
theorem i_strx {l : List Nat} {H : Hp} {R : It → Hp → Prop} (h : R (Its (S l)) H) : ∃ x, V.str (S l) = .str x ∧ R (Its x) H := ⟨_, rfl, h⟩
theorem walk_S {l : List Nat} : Walk (Its (S l)) l.length (fun _ => True) (fun i H v H' => H' = H ∧ ∃ c, l[i]? = some c ∧ v = .str (S [c])) := by
  have := walk_str (z := S l)
  have e : (S l).cps.size = l.length := by simp
  rw [e] at this
  refine this.mono (fun _ h => h) fun i H x H' _ _ y => ?_
  obtain ⟨y1, c, y2, y3⟩ := y
  exact ⟨y1, c, by simpa using y2, y3⟩
theorem i_list {K : PySem.W.Frag} {te : TE} {σ : L2.St} {H : Hp} {R : It → Hp → Prop} (h : te σ H fun x H1 => ∃ a, x = .ref a ∧ (∃ xs, SqL K H1 a xs) ∧ R (Itl K a) H1) : iList K te σ H R := h
theorem i_listx {K : PySem.W.Frag} {a : Addr} {xs : List V} {H : Hp} {R : It → Hp → Prop} (h1 : SqL K H a xs) (h : R (Itl K a) H) : ∃ b, V.ref a = .ref b ∧ (∃ xs, SqL K H b xs) ∧ R (Itl K b) H := ⟨a, rfl, ⟨xs, h1⟩, h⟩
theorem i_for {wi : TI} {g : TG} {tb : TS} {D : Ends} {σ : L2.St} {H : Hp} (h : wi σ H fun J H1 => ∃ W : Nat → Nat → L2.St → Hp → Prop, (∃ m, W 0 m σ H1) ∧ ∀ i m σ H, W i m σ H →
  (J.stop i H ∧ D.nx σ H) ∨ (J.go i H ∧ ∃ N : L2.St → Hp → Prop, (∀ σ' H', N σ' H' → ∃ m', m' < m ∧ W (i + 1) m' σ' H') ∧ ∀ x H', J.yld i H x H' → g x σ H' fun σ2 H2 => tb { D with nx := N, ct := N, bk := D.nx } σ2 H2)) : tFor wi g tb D σ H := h
theorem joinL_nil : ∀ ys : List (List Nat), TL.joinL [] ys = ys.flatten
  | [] => rfl
  | [p] => by simp [TL.joinL]
  | p :: q :: r => by
    have := joinL_nil (q :: r)
    simp only [TL.joinL, this, List.nil_append]
    simp
/-- a test by what it tells: M -/
theorem if_cut {tt : TT} {t u : TS} {D : Ends} {σ : L2.St} {H : Hp} (M : Bool → Hp → Prop) (h : ∀ Q' : Bool → Hp → Prop, (∀ b H1, M b H1 → Q' b H1) → tt σ H Q') (h1 : ∀ H1, M true H1 → t D σ H1) (h2 : ∀ H1, M false H1 → u D σ H1) : tIfS tt t u D σ H := by
  refine h _ fun b H1 m => ?_
  cases b with
  | true => exact iteT (h1 H1 m)
  | false => exact iteF (h2 H1 m)
theorem iteNF {A B : Prop} (h : A) : if (!false) = true then A else B := h
theorem iteNT {A B : Prop} (h : B) : if (!true) = true then A else B := h
theorem small_none {h : Addr} {H H1 : Hp} {D : Addr} (b : But h H H1) (n : D ≠ h) (e : H1 D = none) : H D = none := by
  cases q : H D with
  | none => rfl
  | some o => rw [b D o n q] at e; cases e
end Lv

set_option Elab.async false
set_option linter.all false
set_option maxRecDepth 100000
set_option maxHeartbeats 2000000
namespace Lv
open PySem PySem.Spec PyProof.Rows L2 SX
/-! loops: an invariant, its start, (what stands still,) a turn, the end -/
def ForJ (J : It) (g : TG) (tb : TS) (D : Ends) (σ : L2.St) (H : Hp) : Prop := ∃ W : Nat → Nat → L2.St → Hp → Prop, (∃ m, W 0 m σ H) ∧ ∀ i m σ H, W i m σ H →
  (J.stop i H ∧ D.nx σ H) ∨ (J.go i H ∧ ∃ N : L2.St → Hp → Prop, (∀ σ' H', N σ' H' → ∃ m', m' < m ∧ W (i + 1) m' σ' H') ∧ ∀ x H', J.yld i H x H' → g x σ H' fun σ2 H2 => tb { D with nx := N, ct := N, bk := D.nx } σ2 H2)
def LcJ (J : It) (g : TG) (tt : TT) (te : TE) (vs : List Nat) (σ : L2.St) (H1 : Hp) (Q : VK) : Prop := ∀ D, H1 D = none → ∃ W : Nat → Nat → Hp → Prop, (∃ m, W 0 m (upd H1 D (.lst []))) ∧ ∀ i m H, W i m H →
  (J.stop i H ∧ Q (.ref D) H) ∨ (J.go i H ∧ ∃ Nx : Hp → Prop, (∀ H', Nx H' → ∃ m', m' < m ∧ W (i + 1) m' H') ∧ ∀ x H', J.yld i H x H' → g x (wipe σ vs) H' fun σ2 H2 => wipe σ2 vs = wipe σ vs ∧ tt σ2 H2 fun b H3 =>
    if b = true then te σ2 H3 fun y H4 => ∃ acc, H4 D = some (.lst acc) ∧ acc.length < sizeLine ∧ Nx (upd H4 D (.lst (acc ++ [y]))) else Nx H3)
def ForN (n : Nat) (Y : Nat → Hp → V → Hp → Prop) (g : TG) (tb : TS) (D : Ends) (σ : L2.St) (H : Hp) : Prop := ∃ Pv : Nat → L2.St → Hp → Prop, Pv 0 σ H ∧
  (∀ i x σ H H', i < n → Pv i σ H → Y i H x H' → g x σ H' fun σ2 H2 => tb { D with nx := Pv (i + 1), ct := Pv (i + 1), bk := D.nx } σ2 H2) ∧ ∀ σ H, Pv n σ H → D.nx σ H
def ForG (G : Hp → Prop) (n : Nat) (Y : Nat → Hp → V → Hp → Prop) (g : TG) (tb : TS) (D : Ends) (σ : L2.St) (H : Hp) : Prop := ∃ Pv : Nat → L2.St → Hp → Prop, Pv 0 σ H ∧ (∀ i σ H, i ≤ n → Pv i σ H → G H) ∧
  (∀ i x σ H H', i < n → Pv i σ H → Y i H x H' → g x σ H' fun σ2 H2 => tb { D with nx := Pv (i + 1), ct := Pv (i + 1), bk := D.nx } σ2 H2) ∧ ∀ σ H, Pv n σ H → D.nx σ H
def LcN (n : Nat) (Y : Nat → Hp → V → Hp → Prop) (g : TG) (tt : TT) (te : TE) (vs : List Nat) (σ : L2.St) (H1 : Hp) (Q : VK) : Prop := ∀ D, H1 D = none → ∃ Iv : Nat → List V → Hp → Prop, Iv 0 [] (upd H1 D (.lst [])) ∧
  (∀ i acc x H H', i < n → acc.length ≤ i → H D = some (.lst acc) → Iv i acc H → Y i H x H' → g x (wipe σ vs) H' fun σ2 H2 => wipe σ2 vs = wipe σ vs ∧ tt σ2 H2 fun b H3 =>
      if b = true then te σ2 H3 fun y H4 => ∃ acc, H4 D = some (.lst acc) ∧ acc.length < sizeLine ∧ Pa D Iv (i + 1) (upd H4 D (.lst (acc ++ [y]))) else Pa D Iv (i + 1) H3) ∧
  ∀ acc H, acc.length ≤ n → H D = some (.lst acc) → Iv n acc H → Q (.ref D) H
def LcG (G : Hp → Prop) (n : Nat) (Y : Nat → Hp → V → Hp → Prop) (g : TG) (tt : TT) (te : TE) (vs : List Nat) (σ : L2.St) (H1 : Hp) (Q : VK) : Prop := ∀ D, H1 D = none → ∃ Iv : Nat → List V → Hp → Prop, Iv 0 [] (upd H1 D (.lst [])) ∧ (∀ i acc H, i ≤ n → H D = some (.lst acc) → Iv i acc H → G H) ∧
  (∀ i acc x H H', i < n → acc.length ≤ i → H D = some (.lst acc) → Iv i acc H → Y i H x H' → g x (wipe σ vs) H' fun σ2 H2 => wipe σ2 vs = wipe σ vs ∧ tt σ2 H2 fun b H3 =>
      if b = true then te σ2 H3 fun y H4 => ∃ acc, H4 D = some (.lst acc) ∧ acc.length < sizeLine ∧ Pa D Iv (i + 1) (upd H4 D (.lst (acc ++ [y]))) else Pa D Iv (i + 1) H3) ∧
  ∀ acc H, acc.length ≤ n → H D = some (.lst acc) → Iv n acc H → Q (.ref D) H
/-! what is walked -/
abbrev YR (lo : Int) : Nat → Hp → V → Hp → Prop := fun i H x H' => H' = H ∧ x = .int (lo + (i : Int))
abbrev YC (lo c : Int) : Nat → Hp → V → Hp → Prop := fun i H x H' => H' = H ∧ x = .int (lo + (i : Int) * c)
abbrev YS (l : List Nat) : Nat → Hp → V → Hp → Prop := fun i H v H' => H' = H ∧ ∃ c, l[i]? = some c ∧ v = .str (S [c])
abbrev YL (xs : List V) : Nat → Hp → V → Hp → Prop := fun i H v H' => H' = H ∧ xs[i]? = some v
/-- a new tuple -/
abbrev YT (Y : Nat → List V → Prop) : Nat → Hp → V → Hp → Prop := fun i H v H' => ∃ T xs, v = .ref T ∧ H T = none ∧ H' = upd H T (.tup xs) ∧ Y i xs
/-- the signs of a text with their places -/
abbrev YE (l : List Nat) : Nat → List V → Prop := fun i xs => ∃ c, l[i]? = some c ∧ xs = [.int (i : Nat), .str (S [c])]
section
variable {K : PySem.W.Frag} {g : TG} {tb : TS} {D : Ends} {σ : L2.St} {H H1 : Hp} {te : TE} {tt : TT} {vs : List Nat} {Q : VK} {n : Nat} {Y : Nat → Hp → V → Hp → Prop} {J : It} {G : Hp → Prop} {wi : TI} {R : It → Hp → Prop} {ta : TA}
theorem fo (h : ∀ R' : It → Hp → Prop, R' J H1 → wi σ H R') (k : ForJ J g tb D σ H1) : tFor wi g tb D σ H := h _ k
theorem foM (M : It → Hp → Prop) (h : ∀ R' : It → Hp → Prop, (∀ J H1, M J H1 → R' J H1) → wi σ H R') (k : ∀ J H1, M J H1 → ForJ J g tb D σ H1) : tFor wi g tb D σ H := h _ k
theorem lc (h : ∀ R' : It → Hp → Prop, R' J H1 → wi σ H R') (k : LcJ J g tt te vs σ H1 Q) : tLc wi g tt te vs σ H Q := h _ k
theorem lcM (M : It → Hp → Prop) (h : ∀ R' : It → Hp → Prop, (∀ J H1, M J H1 → R' J H1) → wi σ H R') (k : ∀ J H1, M J H1 → LcJ J g tt te vs σ H1 Q) : tLc wi g tt te vs σ H Q := h _ k
theorem forN_ok (w : Walk J n (fun _ => True) Y) (h : ForN n Y g tb D σ H) : ForJ J g tb D σ H := by
  obtain ⟨Pv, h0, hs, hd⟩ := h
  exact for_it w Pv h0 (fun _ _ _ _ _ => trivial) hs hd
theorem forG_ok (w : Walk J n G Y) (h : ForG G n Y g tb D σ H) : ForJ J g tb D σ H := by
  obtain ⟨Pv, h0, hG, hs, hd⟩ := h
  exact for_it w Pv h0 hG hs hd
theorem lcN_ok (w : Walk J n (fun _ => True) Y) (h : LcN n Y g tt te vs σ H Q) : LcJ J g tt te vs σ H Q := fun D nD => by
  obtain ⟨Iv, h0, hs, hd⟩ := h D nD
  exact lc_acc w Iv h0 (fun _ _ _ _ _ _ => trivial) hs hd
theorem lcG_ok (w : Walk J n G Y) (h : LcG G n Y g tt te vs σ H Q) : LcJ J g tt te vs σ H Q := fun D nD => by
  obtain ⟨Iv, h0, hG, hs, hd⟩ := h D nD
  exact lc_acc w Iv h0 hG hs hd
theorem f_r {lo : Int} (h : ForN n (YR lo) g tb D σ H) : ForJ (Itr lo n) g tb D σ H := forN_ok walk_range h
theorem f_c {lo c : Int} (h : ForN n (YC lo c) g tb D σ H) : ForJ (Itc lo c n) g tb D σ H := forN_ok walk_rangeC h
theorem f_s {l : List Nat} (h : ForN l.length (YS l) g tb D σ H) : ForJ (Its (S l)) g tb D σ H := forN_ok walk_S h
theorem f_l {a : Addr} {xs : List V} (h : ForG (fun H => SqL K H a xs) xs.length (YL xs) g tb D σ H) : ForJ (Itl K a) g tb D σ H := forG_ok walk_list h
theorem f_u {a : Addr} {xs : List V} (h : ForG (fun H => SqT K H a xs) xs.length (YL xs) g tb D σ H) : ForJ (Itt K a) g tb D σ H := forG_ok walk_tup h
theorem f_t {Y : Nat → List V → Prop} (h : ForN n (YT Y) g tb D σ H) : ForJ (ItT n Y) g tb D σ H := forN_ok walk_enumS h
theorem f_e {a : Addr} {xs : List V} (h : ForG (fun H => SqL K H a xs) xs.length (YT fun i zs => ∃ x, xs[i]? = some x ∧ zs = [.int (i : Nat), x]) g tb D σ H) : ForJ (Ite K a) g tb D σ H := by
  refine forG_ok (walk_enum.mono (fun _ h => h) fun i H x H' hi _ y => ?_) h
  obtain ⟨T, x1, x2, rfl, h2, rfl, h4, h5⟩ := y
  cases h4
  exact ⟨T, _, rfl, h2, rfl, x2, h5, rfl⟩
theorem c_r {lo : Int} (h : LcN n (YR lo) g tt te vs σ H Q) : LcJ (Itr lo n) g tt te vs σ H Q := lcN_ok walk_range h
theorem c_c {lo c : Int} (h : LcN n (YC lo c) g tt te vs σ H Q) : LcJ (Itc lo c n) g tt te vs σ H Q := lcN_ok walk_rangeC h
theorem c_s {l : List Nat} (h : LcN l.length (YS l) g tt te vs σ H Q) : LcJ (Its (S l)) g tt te vs σ H Q := lcN_ok walk_S h
theorem c_l {a : Addr} {xs : List V} (h : LcG (fun H => SqL K H a xs) xs.length (YL xs) g tt te vs σ H Q) : LcJ (Itl K a) g tt te vs σ H Q := lcG_ok walk_list h
theorem c_u {a : Addr} {xs : List V} (h : LcG (fun H => SqT K H a xs) xs.length (YL xs) g tt te vs σ H Q) : LcJ (Itt K a) g tt te vs σ H Q := lcG_ok walk_tup h
theorem c_t {Y : Nat → List V → Prop} (h : LcN n (YT Y) g tt te vs σ H Q) : LcJ (ItT n Y) g tt te vs σ H Q := lcN_ok walk_enumS h
theorem c_e {a : Addr} {xs : List V} (h : LcG (fun H => SqL K H a xs) xs.length (YT fun i zs => ∃ x, xs[i]? = some x ∧ zs = [.int (i : Nat), x]) g tt te vs σ H Q) : LcJ (Ite K a) g tt te vs σ H Q := by
  refine lcG_ok (walk_enum.mono (fun _ h => h) fun i H x H' hi _ y => ?_) h
  obtain ⟨T, x1, x2, rfl, h2, rfl, h4, h5⟩ := y
  cases h4
  exact ⟨T, _, rfl, h2, rfl, x2, h5, rfl⟩
/-! the steps to what is walked -/
theorem i_rng2 (h : ta σ H fun vs H1 => ∃ i j : Int, vs = [.int i, .int j] ∧ (-(2 ^ 62) ≤ i ∧ i < 2 ^ 62 ∧ -(2 ^ 62) ≤ j ∧ j < 2 ^ 62) ∧ R (Itr i (j - i).toNat) H1) : iRng2 ta σ H R := h
theorem i_rng3 (h : ta σ H fun vs H1 => ∃ (i j c : Int) (n : Nat), vs = [.int i, .int j, .int c] ∧ RgC i j c n ∧ R (Itc i c n) H1) : iRng3 ta σ H R := h
theorem i_enumS (h : ta σ H fun vs H1 => ∃ l : List Nat, vs = [.str (S l)] ∧ R (ItT l.length (YE l)) H1) : iEnumS ta σ H R := h
theorem i_enumL (h : ta σ H fun vs H1 => ∃ a xs, vs = [.ref a] ∧ SqL K H1 a xs ∧ R (Ite K a) H1) : iEnum K ta σ H R := h
theorem i_tupI (h : te σ H fun x H1 => ∃ a, x = .ref a ∧ (∃ xs, SqT K H1 a xs) ∧ R (Itt K a) H1) : iTup K te σ H R := h
theorem x_r1 {z : Int} (h0 : -(2 ^ 62) ≤ z) (h1 : z < 2 ^ 62) (h : R (Itr 0 z.toNat) H) : ∃ j : Int, [V.int z] = [.int j] ∧ -(2 ^ 62) ≤ j ∧ j < 2 ^ 62 ∧ R (Itr 0 j.toNat) H := ⟨z, rfl, h0, h1, h⟩
theorem x_r2 {x y : Int} (hb : -(2 ^ 62) ≤ x ∧ x < 2 ^ 62 ∧ -(2 ^ 62) ≤ y ∧ y < 2 ^ 62) (h : R (Itr x (y - x).toNat) H) : ∃ i j : Int, [V.int x, V.int y] = [.int i, .int j] ∧ (-(2 ^ 62) ≤ i ∧ i < 2 ^ 62 ∧ -(2 ^ 62) ≤ j ∧ j < 2 ^ 62) ∧ R (Itr i (j - i).toNat) H := ⟨x, y, rfl, hb, h⟩
theorem x_dn {x y : Int} (hb : -(2 ^ 62) ≤ x ∧ x < 2 ^ 62 ∧ -(2 ^ 62) ≤ y ∧ y < 2 ^ 62) (h : R (Itc x (-1) (x - y).toNat) H) : ∃ (i j c : Int) (n : Nat), [V.int x, V.int y, V.int (-1)] = [.int i, .int j, .int c] ∧ RgC i j c n ∧ R (Itc i c n) H := ⟨x, y, -1, _, rfl, RgC.neg hb.1 hb.2.1 hb.2.2.1 hb.2.2.2, h⟩
theorem x_str {l : List Nat} (h : R (Its (S l)) H) : ∃ x, V.str (S l) = .str x ∧ R (Its x) H := ⟨_, rfl, h⟩
theorem x_list {a : Addr} {xs : List V} (hL : SqL K H a xs) (h : R (Itl K a) H) : ∃ b, V.ref a = .ref b ∧ (∃ xs, SqL K H b xs) ∧ R (Itl K b) H := ⟨a, rfl, ⟨xs, hL⟩, h⟩
theorem x_tup {a : Addr} {xs : List V} (hL : SqT K H a xs) (h : R (Itt K a) H) : ∃ b, V.ref a = .ref b ∧ (∃ xs, SqT K H b xs) ∧ R (Itt K b) H := ⟨a, rfl, ⟨xs, hL⟩, h⟩
theorem x_enumS {l : List Nat} (h : R (ItT l.length (YE l)) H) : ∃ l' : List Nat, [V.str (S l)] = [.str (S l')] ∧ R (ItT l'.length (YE l')) H := ⟨l, rfl, h⟩
theorem x_enumL {a : Addr} {xs : List V} (hL : SqL K H a xs) (h : R (Ite K a) H) : ∃ b xs, [V.ref a] = [.ref b] ∧ SqL K H b xs ∧ R (Ite K b) H := ⟨a, xs, rfl, hL, h⟩
end
theorem i_augS {to ti te : TE} {tget : V → V → Hp → VK → Prop} {tip : TIp} {tset : TSet} {D : Ends} {σ : L2.St} {H : Hp} (h : to σ H fun o H1 => ti σ H1 fun i H2 => tget o i H2 fun x H3 => te σ H3 fun y H4 => tip x y H4 fun z H5 => tset o i z H5 fun H6 => D.nx σ H6) : tAugS to ti te tget tip tset D σ H := h
theorem x_nx {t b c : L2.St → Hp → Prop} {r : VK} {σ : L2.St} {H : Hp} (h : t σ H) : ({ nx := t, rt := r, bk := b, ct := c } : Ends).nx σ H := h
theorem ix_nat {n k : Nat} (h : k < n) : ixN n (k : Int) = some k := by
  unfold ixN
  rw [if_pos (by omega), if_pos (by omega)]
  rfl
end Lv

set_option Elab.async false
set_option linter.all false
set_option maxRecDepth 100000
set_option maxHeartbeats 2000000
namespace Lv
open PySem PySem.Spec PyProof.Rows L2 SX
theorem Hd.neC {H : Hp} {h p : Addr} {cs : List Nat} (hd : Hd H h) (hp : H p = some (.lst (cs.map vc))) (c1 : 1 ≤ cs.length) : p ≠ h := by
  obtain ⟨d, m, hh, _⟩ := hd
  refine ne_of hp hh fun z => ?_
  cases cs with
  | nil => simp at c1
  | cons c r =>
    injection z with z
    injection z with z1 z2
    cases z1
theorem sum_ones {α : Type} (l : List α) (f : α → List Nat) (hf : ∀ a, (f a).length = 1) : ((l.map f).map List.length).sum = l.length := by
  induction l with
  | nil => rfl
  | cons a l ih => rw [List.map_cons, List.map_cons, List.sum_cons, ih, hf, List.length_cons, Nat.add_comm]
theorem flat_ones (l : List Nat) : (l.map fun c => [c]).flatten = l := by
  induction l with
  | nil => rfl
  | cons a l ih => rw [List.map_cons, List.flatten_cons, ih]; rfl
/-- ''.join of single signs -/
theorem i_joinC {K : PySem.W.Frag} {p : Addr} {l : List Nat} {H : Hp} {Q : VK} (h1 : SqL K H p (l.map vc)) (hz : l.length ≤ 1000000) (h : Q (.str (S l)) H) : rJoin K (.str (S [])) [.ref p] H Q := by
  refine i_join (ys := l.map fun c => [c]) (by rw [List.map_map]; exact h1) ?_ ?_
  · rw [sum_ones l _ fun _ => rfl]; simp; omega
  · rw [joinL_nil]
    rw [flat_ones]
    exact h

theorem i_pickN {K : PySem.W.Frag} {p : Addr} {ns : List Int} {r : Int} {H : Hp} {Q : VK} (hp : SqL K H p (ns.map V.int)) (h0 : 0 ≤ r) (h1 : r < ns.length) (h : ∀ m, m ∈ ns → Q (.int m) H) : rIxL K (.ref p) (.int r) H Q := by
  refine i_pick hp h0 (by rw [List.length_map]; exact h1) fun v hv => ?_
  obtain ⟨m, hm, rfl⟩ := List.mem_map.mp hv
  exact h m hm
theorem low_az : Low [97, 122] := (Low.one (by decide : 97 ≤ 97 ∧ 97 ≤ 122)).app (Low.one (by decide : 97 ≤ 122 ∧ 122 ≤ 122))
theorem i_mulB {l : List Nat} {b : Bool} {H : Hp} {Q : VK} (hz : l.length ≤ 1000000) (h : Q (.str (S (if b = true then l else []))) H) : rMulS (.str (S l)) (.int (if b = true then 1 else 0)) H Q := by
  cases b
  · exact i_mulS (by decide) (by decide) (le_line (by simp)) h
  · refine i_mulS (by decide) (by decide) (le_line (by simp; omega)) ?_
    show Q (.str (S (List.replicate (Int.toNat 1) l).flatten)) H
    have e : (List.replicate (Int.toNat 1) l).flatten = l := by simp
    rw [e]
    exact h
theorem cutL_mid {α : Type} (l : List α) (a b : Nat) : cutL l (some (a : Int)) (some (((a : Nat) : Int) + (b : Nat))) = (l.drop a).take b := by
  unfold cutL
  rw [show HT.sIx l.length 0 (some (a : Int)) = min a l.length from HT.sIx_nat l.length 0 a, show ((a : Nat) : Int) + (b : Nat) = ((a + b : Nat) : Int) from rfl, show HT.sIx l.length l.length (some ((a + b : Nat) : Int)) = min (a + b) l.length from HT.sIx_nat l.length _ (a + b)]
  by_cases z : a ≤ l.length
  · rw [Nat.min_eq_left z]
    apply List.take_eq_take_iff.mpr
    rw [List.length_drop]
    omega
  · rw [List.drop_of_length_le (by omega), List.drop_of_length_le (by omega)]
    simp
theorem i_chain {r r' : R2} {ta tb tc : TE} {σ : L2.St} {H : Hp} {Q : VK} (h : ta σ H fun x H1 => tb σ H1 fun y H2 => r x y H2 fun z H3 => ∃ k, z = .bl k ∧ (if k = true then tc σ H3 fun w' H4 => r' y w' H4 Q else Q (.bl false) H3)) : tChain r r' ta tb tc σ H Q := h
theorem lt_one {a b : Nat} : ([a] < [b]) ↔ a < b := by
  constructor
  · intro h
    cases h with
    | rel h => exact h
    | cons h => cases h
  · exact fun h => .rel h
theorem iteNNF {a b : Prop} (h : b) : if (!!false) = true then a else b := h
theorem iteNNT {a b : Prop} (h : a) : if (!!true) = true then a else b := h
def rIsN : R2 := fun x y H Q => y = .non ∧ Q (.bl (decide (x = .non))) H
def rNotN : R2 := fun x y H Q => y = .non ∧ Q (.bl (!decide (x = .non))) H
theorem op_isN1 {X : Cx} : OpR X (compareOp .Is) rIsN := op_isN
theorem op_notN1 {X : Cx} : OpR X (compareOp .IsNot) rNotN := op_notN
section
variable {H : Hp} {Q : VK} {p : Addr} {n : Int} {x : Str}
theorem i_isN_n (h : Q (.bl true) H) : rIsN .non .non H Q := ⟨rfl, h⟩
theorem i_isN_r (h : Q (.bl false) H) : rIsN (.ref p) .non H Q := ⟨rfl, h⟩
theorem i_isN_i (h : Q (.bl false) H) : rIsN (.int n) .non H Q := ⟨rfl, h⟩
theorem i_isN_s (h : Q (.bl false) H) : rIsN (.str x) .non H Q := ⟨rfl, h⟩
theorem i_notN_n (h : Q (.bl false) H) : rNotN .non .non H Q := ⟨rfl, h⟩
theorem i_notN_r (h : Q (.bl true) H) : rNotN (.ref p) .non H Q := ⟨rfl, h⟩
theorem i_notN_i (h : Q (.bl true) H) : rNotN (.int n) .non H Q := ⟨rfl, h⟩
theorem i_notN_s (h : Q (.bl true) H) : rNotN (.str x) .non H Q := ⟨rfl, h⟩
end
theorem if_val {c : Bool} {t : TE} {σ : L2.St} {H : Hp} {Q : VK} (h : ∀ Q' : VK, (∀ b, Q' (.bl b) H) → t σ H Q') (k : ∀ b, Q (.bl b) H) : if c = true then t σ H Q else Q (.bl false) H := by
  cases c
  · exact k false
  · exact h Q k
def oV : Option Int → V
  | none => .non
  | some k => .int k
def oI (o : Option Nat) : V := oV (o.map fun k => (k : Int))
theorem i_ix1 {l : List Nat} {j c : Nat} {H : Hp} {Q : VK} (hz : l.length ≤ 1000000) (hc : l[j]? = some c) (h : Q (.str (S [c])) H) : rIxT1 (.str (S l)) (.int (j : Int)) H Q := i_ixS (le_line hz) (atI_nat hc) h
/-- isinstance of a thing of a built-in type -/
theorem i_isi {K : PySem.W.Frag} {H : Hp} {Q : VK} {x : V} {T U : String} {b : Bool} (t : TyOf K H x (.type T)) (h : kitB T U = some b) (q : Q (.bl b) H) : rIsi K [x, .ty U] H Q := ⟨_, _, _, _, b, rfl, .ty _, .base t, kit_ty h, q⟩
/-- a place -/
def iv (k : Nat) : V := .int (k : Int)
theorem i_revL {K : PySem.W.Frag} {te : TE} {σ : L2.St} {H : Hp} {Q : VK} (h : te σ H fun x H1 => ∃ a xs, x = .ref a ∧ SqL K H1 a xs ∧ ∀ p, H1 p = none → Q (.ref p) (L2.upd H1 p (.lst xs.reverse))) : tRevL K te σ H Q := h
/-! lists of texts: == and != -/
section
variable {X : Cx}
abbrev vs (l : List Nat) : V := .str (S l)
theorem S_inj {l m : List Nat} : S l = S m ↔ l = m := ⟨fun h => by injection h with h; injection h, fun h => by rw [h]⟩
/-- signs that a text may hold -/
def Chr (l : List Nat) : Prop := ∀ c ∈ l, c < 1114112
theorem strOk_S {l : List Nat} (h : Chr l) : PyData.strOk (S l) = true := by
  unfold PyData.strOk
  rw [Array.all_eq_true']
  intro c hc
  exact decide_eq_true (h c (by simpa using hc))
theorem Low.chr {l : List Nat} (h : Low l) : Chr l := fun c hc => by have := h c hc; omega
theorem Chr.nil : Chr [] := fun c hc => nomatch hc
theorem Chr.one {c : Nat} (h : c < 1114112) : Chr [c] := fun d hd => by rw [List.mem_singleton.mp hd]; exact h
theorem dp_strs {K : PySem.W.Frag} {H : Hp} : ∀ ls : List (List Nat), DpAll K H (ls.map vs) (ls.map fun l => PyData.str (S l))
  | [] => .nil
  | l :: ls => .cons (.str _) (dp_strs ls)
theorem lay_strs : ∀ ls : List (List Nat), (∀ l ∈ ls, Chr l) → PyData.canLayAll0 (ls.map fun l => PyData.str (S l)) = true
  | [], _ => by simp [PyData.canLayAll0]
  | n :: ns, h => by
    simp only [List.map_cons, PyData.canLayAll0, PyData.canLay0, Bool.and_eq_true]
    exact ⟨strOk_S (h n (List.mem_cons_self ..)), lay_strs ns fun l hl => h l (List.mem_cons_of_mem _ hl)⟩
theorem depth_strs : ∀ ls : List (List Nat), PyData.depthAll (ls.map fun l => PyData.str (S l)) = 0
  | [] => by simp [PyData.depthAll]
  | n :: ns => by simp [PyData.depthAll, PyData.depth, depth_strs ns]
theorem shaped_strs {ls : List (List Nat)} (h : ∀ l ∈ ls, Chr l) : SeqAt.shaped (.list (ls.map fun l => PyData.str (S l))) = true := by
  unfold SeqAt.shaped
  rw [PyData.canLay0, lay_strs _ h, PyData.depth, depth_strs]
  rfl
theorem eqv_strs : ∀ ns ms : List (List Nat), PyData.eqvAll (ns.map fun l => PyData.str (S l)) (ms.map fun l => PyData.str (S l)) = decide (ns = ms)
  | [], [] => by simp [PyData.eqvAll]
  | [], _ :: _ => by simp [PyData.eqvAll]
  | _ :: _, [] => by simp [PyData.eqvAll]
  | n :: ns, m :: ms => by
    simp only [List.map_cons, PyData.eqvAll, PyData.eqv, eqv_strs ns ms, List.cons.injEq]
    by_cases h : n = m
    · subst h; simp
    · have : ¬ S n = S m := fun z => h (S_inj.mp z)
      simp [h, this]
def r2LS (K : PySem.W.Frag) (g : List (List Nat) → List (List Nat) → Bool) : R2 := fun x y H Q => ∃ (p q : Addr) (ns ms : List (List Nat)), x = .ref p ∧ y = .ref q ∧ SqL K H p (ns.map vs) ∧ SqL K H q (ms.map vs) ∧ (∀ l ∈ ns, Chr l) ∧ (∀ l ∈ ms, Chr l) ∧ Q (.bl (g ns ms)) H
abbrev rEqLS (K : PySem.W.Frag) : R2 := r2LS K fun a b => decide (a = b)
abbrev rNeLS (K : PySem.W.Frag) : R2 := r2LS K fun a b => !decide (a = b)
theorem op_eqLS (hu : X.A.units + 64 < cLine) : OpR X (compareOp .Eq) (rEqLS X.K) := by
  intro pins s σ H x y v u Q I rx ry h
  obtain ⟨p, q, ns, ms, rfl, rfl, h1, h2, c1, c2, k⟩ := h
  refine op_eqD hu pins s σ H _ _ v u Q I rx ry ⟨_, _, .lst h1 (dp_strs ns), .lst h2 (dp_strs ms), shaped_strs c1, shaped_strs c2, ?_⟩
  rw [PyData.eqv, eqv_strs]
  exact k
theorem op_neLS (hu : X.A.units + 64 < cLine) : OpR X (compareOp .NotEq) (rNeLS X.K) := by
  intro pins s σ H x y v u Q I rx ry h
  obtain ⟨p, q, ns, ms, rfl, rfl, h1, h2, c1, c2, k⟩ := h
  refine op_neD hu pins s σ H _ _ v u Q I rx ry ⟨_, _, .lst h1 (dp_strs ns), .lst h2 (dp_strs ms), shaped_strs c1, shaped_strs c2, ?_⟩
  rw [PyData.eqv, eqv_strs]
  exact k
/-! what is an int or None: == and != -/
def oD : Option Int → PyData
  | none => .none
  | some k => .int k
theorem oD_dp {K : PySem.W.Frag} {H : Hp} : ∀ o, Dp K H (oV o) (oD o)
  | none => .non
  | some k => .int k
theorem oD_shaped (o : Option Int) : SeqAt.shaped (oD o) = true := by cases o <;> simp [oD, SeqAt.shaped, PyData.canLay0, PyData.depth]
theorem oD_eqv (a b : Option Int) : PyData.eqv (oD a) (oD b) = decide (a = b) := by
  cases a <;> cases b <;> simp [oD, PyData.eqv, BEq.beq]
def r2O (g : Option Int → Option Int → Bool) : R2 := fun x y H Q => ∃ a b : Option Int, x = oV a ∧ y = oV b ∧ Q (.bl (g a b)) H
abbrev rEqO : R2 := r2O fun a b => decide (a = b)
abbrev rNeO : R2 := r2O fun a b => !decide (a = b)
theorem op_eqO (hu : X.A.units + 64 < cLine) : OpR X (compareOp .Eq) rEqO := by
  intro pins s σ H x y v u Q I rx ry h
  obtain ⟨a, b, rfl, rfl, k⟩ := h
  refine op_eqD hu pins s σ H _ _ v u Q I rx ry ⟨_, _, oD_dp a, oD_dp b, oD_shaped a, oD_shaped b, ?_⟩
  rw [oD_eqv]
  exact k
theorem op_neO (hu : X.A.units + 64 < cLine) : OpR X (compareOp .NotEq) rNeO := by
  intro pins s σ H x y v u Q I rx ry h
  obtain ⟨a, b, rfl, rfl, k⟩ := h
  refine op_neD hu pins s σ H _ _ v u Q I rx ry ⟨_, _, oD_dp a, oD_dp b, oD_shaped a, oD_shaped b, ?_⟩
  rw [oD_eqv]
  exact k
/-- a row that is never reached -/
def tNever : TS := fun _ _ _ => False
theorem ps_never {st : Stmt} : PS X st tNever := ⟨fun _ _ _ _ _ _ h => False.elim h⟩
end
section
variable {K : PySem.W.Frag} {H : Hp} {Q : VK}
theorem i_r2LS {g : List (List Nat) → List (List Nat) → Bool} {p q : Addr} {ns ms : List (List Nat)} (h1 : SqL K H p (ns.map vs)) (h2 : SqL K H q (ms.map vs)) (c1 : ∀ l ∈ ns, Chr l) (c2 : ∀ l ∈ ms, Chr l) (h : Q (.bl (g ns ms)) H) : r2LS K g (.ref p) (.ref q) H Q := ⟨p, q, ns, ms, rfl, rfl, h1, h2, c1, c2, h⟩
theorem i_r2O {g : Option Int → Option Int → Bool} {a b : Option Int} (h : Q (.bl (g a b)) H) : r2O g (oV a) (oV b) H Q := ⟨a, b, rfl, rfl, h⟩
theorem vc_vs (l : List Nat) : l.map vc = (l.map fun c => [c]).map vs := by rw [List.map_map]; rfl
theorem i_isi_str_str {l : List Nat} (q : Q (.bl true) H) : rIsi K [.str (S l), .ty "str"] H Q := ⟨_, _, _, _, true, rfl, .ty _, .base (.str _), kit_ty (by decide +kernel), q⟩
end
end Lv

set_option Elab.async false
set_option linter.all false
set_option maxRecDepth 100000
set_option maxHeartbeats 3200000
namespace Lv
open PySem PySem.Spec PyProof.Rows L2 SX
/-! ### sets of texts: made of a text or of a list of texts, sorted -/
def kyS (e : Int × Value) : Str := match e.2 with | .str k _ => k | _ => ⟨#[]⟩
def GdS (w : World) (e : Int × Value) : Prop := ∃ k tk, e.2 = Value.str k tk ∧ e.1 = hashStr w k
def SetT (w : World) (h : Heap) (a : Addr) (L : List Str) : Prop :=
  ∃ o es ep t, h.get? a = some o ∧ o.ExactSet ∧ o.data = .set es ep t ∧ (∀ e ∈ es.toList, GdS w e) ∧ (es.toList.map kyS).Nodup ∧ (∀ k, k ∈ L ↔ k ∈ es.toList.map kyS) ∧
    es.size ≤ L.length ∧ es.size < scanBound ∧ t.fits es.size = true ∧ Ris t.place.toList ∧ (w.params.followText "set-order" = true ∨ t.led = true)
theorem SetT.at {w : World} {h h' : Heap} {a : Addr} {L : List Str} (R : SetT w h a L) (k : ∀ o, h.get? a = some o → h'.get? a = some o) : SetT w h' a L := by
  obtain ⟨o, es, ep, t, qo, r⟩ := R
  exact ⟨o, es, ep, t, k o qo, r⟩
section
variable {P : Program} {w : World}
theorem isS (k : Str) (u : Tok) : (strKind P w).is k (.str k u) = true := by
  show (k == k) = true
  exact beq_self_eq_true k
theorem gds_elems {l : List (Int × Value)} (g : ∀ e ∈ l, GdS w e) : ElemsOf (strKind P w) l := fun e he => by
  obtain ⟨k, tk, h1, h2⟩ := g e he
  exact ⟨⟨k, by rw [h1]; exact isS k tk, h2⟩, by rw [h1] <;> rfl⟩
theorem gds_is {e : Int × Value} (g : GdS w e) (k : Str) : (strKind P w).is k e.2 = true ↔ kyS e = k := by
  obtain ⟨k0, tk, h1, _⟩ := g
  unfold kyS
  rw [h1]
  show ((k0 == k) = true) ↔ k0 = k
  exact beq_iff_eq
theorem gds_mem {l : List (Int × Value)} (g : ∀ e ∈ l, GdS w e) (k : Str) : k ∈ l.map kyS ↔ ∃ e ∈ l, (strKind P w).is k e.2 = true := by
  rw [List.mem_map]
  exact ⟨fun ⟨e, he, q⟩ => ⟨e, he, (gds_is (g e he) k).2 q⟩, fun ⟨e, he, q⟩ => ⟨e, he, (gds_is (g e he) k).1 q⟩⟩
end
section
variable {P : Program} {w : World} {A : Around} {E : Value → Shared → Prop} {s : Shared} {a : Addr} {L : List Str}
theorem setT_tail {gg : Bool → Sem Unit} (hgg : ∀ (b : Bool) (s₁ : Shared) (Q' : Unit → Shared → Prop), Q' () s₁ → wpAny (model P w) A (gg b) Q' E s₁)
    {o : Obj} {es : Array (Int × Value)} {ep : Nat} {t : SetTable} (qo : s.heap.get? a = some o) (qx : o.ExactSet) (qd : o.data = .set es ep t)
    {es1 : Array (Int × Value)} {t2 : SetTable} {L' : List Str} (g1 : ∀ e ∈ es1.toList, GdS w e) (d1 : (es1.toList.map kyS).Nodup) (m1 : ∀ k, k ∈ L' ↔ k ∈ es1.toList.map kyS) (z1 : es1.size ≤ L'.length)
    (b1 : es1.size < scanBound) (f2 : t2.fits es1.size = true) (r2 : Ris t2.place.toList) (l2 : w.params.followText "set-order" = true ∨ t2.led = true) {dummy : Bool} {R : Option Bool → Shared → Prop}
    (hR : ∀ h', Heap.SameBut a s.heap h' → SetT w h' a L' → R (some true) { s with heap := h' }) :
    wpAny (model P w) A (do
        storeSet a es1 t2
        if (!dummy && t2.tooFull) = true then do
            gg (relayAll t2 es1 (SetTable.grown es1.size)).2.2
            storeSet a (relayAll t2 es1 (SetTable.grown es1.size)).1 (relayAll t2 es1 (SetTable.grown es1.size)).2.1
            pure (some true)
          else pure (some true)) R E s := by
  refine wpAny_bind (wpAny_storeSet_of qo qd ?_ (fits_of_scanBound b1))
  have qo1 := store_at (es' := es1) (t' := t2) qo qd
  have same1 := Heap.SameBut.update s.heap a (Obj.putSet es1 t2)
  split
  · have pm := relayAll_perm t2 es1 (SetTable.grown es1.size)
    have f3 := relayAll_fits t2 es1 (SetTable.grown es1.size)
    have r3 := relayAll_ris t2 es1 (SetTable.grown es1.size)
    have l3 := relayAll_led t2 es1 (SetTable.grown es1.size)
    generalize relayAll t2 es1 (SetTable.grown es1.size) = Z at pm f3 r3 l3 ⊢
    obtain ⟨es2, t3, gave⟩ := Z
    dsimp only at pm f3 r3 l3 ⊢
    have zz : es2.size = es1.size := by rw [← Array.length_toList, pm.length_eq, Array.length_toList]
    have b2 : es2.size < scanBound := by rw [zz]; exact b1
    refine wpAny_bind (hgg _ _ _ (wpAny_bind (wpAny_storeSet_of qo1 rfl ?_ (fits_of_scanBound b2))))
    have qo2 := store_at (es' := es2) (t' := t3) qo1 rfl
    refine wpAny_pure (hR _ (same1.trans (Heap.SameBut.update _ a _)) ⟨_, es2, _, t3, qo2, qx, rfl, fun e he => g1 e (pm.mem_iff.mp he), (pm.map kyS).nodup_iff.mpr d1, fun k => (m1 k).trans (pm.map kyS).mem_iff.symm, by omega, b2, f3, r3, ?_⟩)
    exact l2.imp id fun z => by rw [l3]; exact z
  · exact wpAny_pure (hR _ same1 ⟨_, es1, _, t2, qo1, qx, rfl, g1, d1, m1, z1, b1, f2, r2, l2⟩)
theorem setT_add {k : Str} {tk : Tok} {Q : Bool → Shared → Prop} (R : SetT w s.heap a L) (room : L.length + 1 < scanBound)
    (hQ : ∀ h' b, Heap.SameBut a s.heap h' → SetT w h' a (k :: L) → Q b { s with heap := h' }) : wpAny (model P w) A (setAddHashed a (.str k tk) ((strKind P w).hash k)) Q E s := by
  obtain ⟨o, es, ep, t, qo, qx, qd, g, nd, hm, hz, hb, hf, hr, hl⟩ := R
  have isk : (strKind P w).is k (.str k tk) = true := isS k tk
  have scn : (Value.str k tk).scannable = true := rfl
  have el : ElemsOf (strKind P w) es.toList := gds_elems g
  unfold setAddHashed setAddHashedIn
  refine wpAny_holding (wpAny_bind (wpAny_setState_of qo qd hf ?_))
  dsimp only
  rw [byScan_of scn hb el]
  simp only [↓reduceIte]
  unfold setAddByScan
  refine wpAny_bind (wpAny_bind (wpAny_rule (wpAny_bind (wpAny_setScan_of isk qo qd hf el ?_))))
  cases hfi : List.findIdx? (fun e => (strKind P w).is k e.2) es.toList with
  | some j =>
    dsimp only
    obtain ⟨hj, pj, _⟩ := List.findIdx?_eq_some_iff_getElem.mp hfi
    have inL : k ∈ L := (hm k).2 ((gds_mem (P := P) (w := w) g k).2 ⟨es.toList[j], List.getElem_mem hj, pj⟩)
    refine wpAny_pure (wpAny_pure (hQ s.heap _ (Heap.SameBut.refl a s.heap) ⟨o, es, ep, t, qo, qx, qd, g, nd, fun i => ?_, by rw [List.length_cons]; omega, hb, hf, hr, hl⟩))
    rw [← hm i, List.mem_cons]
    exact ⟨fun z => z.elim (fun e => e ▸ inL) id, .inr⟩
  | none =>
    dsimp only
    have out : k ∉ es.toList.map kyS := fun z => by
      obtain ⟨e, he, q⟩ := (gds_mem (P := P) (w := w) g k).1 z
      have c := List.findIdx?_eq_none_iff.mp hfi e he
      rw [q] at c
      cases c
    have gave_ok : ∀ (b : Bool) {s₁ : Shared} {Q' : Unit → Shared → Prop}, Q' () s₁ → wpAny (model P w) A (match b with | true => rule "set.scan.the-table-gave-way" | false => pure ()) Q' E s₁ :=
      fun b s₁ Q' q => by cases b <;> first | exact wpAny_pure q | exact wpAny_rule q
    have pm := layNew_perm t es ((strKind P w).hash k) (.str k tk)
    have f1 := layNew_fits t es ((strKind P w).hash k) (.str k tk)
    have r1 := layNew_ris t es ((strKind P w).hash k) (.str k tk) hr
    have l1 := layNew_led t es ((strKind P w).hash k) (.str k tk)
    generalize layNew t es ((strKind P w).hash k) (.str k tk) = Z at pm f1 r1 l1 ⊢
    obtain ⟨es1, t1, dummy, gave⟩ := Z
    dsimp only at pm f1 r1 l1 ⊢
    rw [Array.toList_push] at pm
    have pc : es1.toList.Perm (((strKind P w).hash k, Value.str k tk) :: es.toList) := pm.trans (List.perm_append_singleton _ _)
    have pk : (es1.toList.map kyS).Perm (k :: es.toList.map kyS) := pc.map kyS
    have g1 : ∀ e ∈ es1.toList, GdS w e := fun e he => by
      rcases List.mem_cons.mp (pc.mem_iff.mp he) with z | z
      · rw [z]; exact ⟨k, tk, rfl, rfl⟩
      · exact g e z
    have d1 : (es1.toList.map kyS).Nodup := pk.nodup_iff.mpr (List.nodup_cons.mpr ⟨out, nd⟩)
    have m1 : ∀ i, i ∈ k :: L ↔ i ∈ es1.toList.map kyS := fun i => by
      rw [pk.mem_iff, List.mem_cons, List.mem_cons, hm i]
    have zz : es1.size = es.size + 1 := by rw [← Array.length_toList, pc.length_eq, List.length_cons, Array.length_toList]
    have b1 : es1.size < scanBound := by omega
    have z1 : es1.size ≤ (k :: L).length := by rw [List.length_cons]; omega
    have ld : w.params.followText "set-order" = true ∨ t1.led = true := hl.imp id fun z => by rw [l1]; exact z
    refine wpAny_bind (gave_ok _ ?_)
    split
    · refine wpAny_bind ?_
      rw [hashByValue_scannable 8 scn]
      refine wpAny_pure (setT_tail (L' := k :: L) ?_ qo qx qd g1 d1 m1 z1 b1 ?_ ?_ ?_ ?_)
      · intro b s₁ Q' q; cases b <;> first | exact wpAny_pure q | exact wpAny_rule q
      · first | (split <;> first | exact f1 | exact SetTable.fits_plain_off f1) | exact f1
      · first | (split <;> exact r1) | exact r1
      · first | (split <;> exact ld) | exact ld
      · intro h' sb r; dsimp only; exact wpAny_pure (hQ h' _ sb r)
    · refine wpAny_bind (wpAny_pure ?_)
      simp only [↓reduceIte]
      refine setT_tail (L' := k :: L) ?_ qo qx qd g1 d1 m1 z1 b1 f1 r1 ld ?_
      · intro b s₁ Q' q; cases b <;> first | exact wpAny_pure q | exact wpAny_rule q
      · intro h' sb r; dsimp only; exact wpAny_pure (hQ h' _ sb r)
/-- the loop of set.update over texts -/
theorem setT_update {I : Addr} {fp wr : List Addr} {n : Nat} {Pv : Nat → Value → Prop} {St : Nat → Heap → Prop} {R : Result → Shared → Prop}
    (W : Walks P w A.in1 I fp wr n Pv St) (D : Addr) (hD : D ∉ fp) (xs : List Str) (hn : n = xs.length) (hb : xs.length + 1 < scanBound) (hval : ∀ i v, Pv i v → ∃ k t, xs[i]? = some k ∧ v = .str k t) :
    ∀ (m i : Nat) (s : Shared), n - i = m → i ≤ n → St i s.heap → SetT w s.heap D (xs.take i).reverse →
      (∀ h' tk, (∀ b o, b ∉ D :: wr → s.heap.get? b = some o → h'.get? b = some o) → SetT w h' D xs.reverse → R (.ok (.ret .none)) { s with heap := h', toks := tk }) →
      codeAny (model P w) A (.builtin "set.update.loop" ⟨[.ref D, .ref I], []⟩) R s := by
  have hDw : D ∉ wr := fun h => hD (W.sub _ h)
  intro m
  induction m with
  | zero =>
    intro i s hm hi hst hS hR
    have hin : i = n := by omega
    subst hin
    refine codeAny_builtin F.entry_set_update_loop ?_
    rw [Around.under_plainId F.plain_set_update_loop _]
    show wpAny _ A.in1 (pyNext (.ref I) >>= _) _ _ s
    refine wpAny_bind (W.done s _ _ hst fun h' tk keep => ?_)
    show wpAny _ A.in1 (ret Value.none) _ _ _
    rw [List.take_of_length_le (by omega)] at hS
    exact wpAny_pure (hR h' tk (fun b o hb2 e => keep b o (fun z => hb2 (List.mem_cons_of_mem _ z)) e) (hS.at fun o e => keep D o hDw e))
  | succ m ih =>
    intro i s hm hi hst hS hR
    have hlt : i < n := by omega
    refine codeAny_builtin F.entry_set_update_loop ?_
    rw [Around.under_plainId F.plain_set_update_loop _]
    show wpAny _ A.in1 (pyNext (.ref I) >>= _) _ _ s
    refine wpAny_bind (W.item i s _ _ hlt hst fun v h1 tk1 hP hst1 keep1 => ?_)
    obtain ⟨z, t, hz, rfl⟩ := hval i v hP
    have hS1 : SetT w h1 D (xs.take i).reverse := hS.at fun o e => keep1 D o hDw e
    show wpAny _ A.in1 (holding [Value.str z t] (setAdd D (.str z t)) >>= _) _ _ _
    refine wpAny_bind (wpAny_holding ?_)
    unfold setAdd
    refine wpAny_holding (wpAny_bind ((strKind P w).pyHash (k := z) (isS _ _) ?_))
    refine setT_add (s := { s with heap := h1, toks := tk1 + 1 }) hS1 (by rw [List.length_reverse, List.length_take]; omega) fun h2 bb sb hS2 => ?_
    have hS3 : SetT w h2 D (xs.take (i + 1)).reverse := by
      rw [List.take_add_one, hz]
      simpa using hS2
    refine wpAny_pure ⟨plainId_quiet F.plain_set_update_loop _, ih (i + 1) _ (by omega) hlt (W.frame _ _ _ hst1 fun b hb2 o e => ?_) hS3 fun h3 tk3 keep3 hS4 => ?_⟩
    · rw [sb.2 b (fun h : b = D => hD (by rw [← h]; exact hb2))]; exact e
    · refine hR h3 tk3 (fun b o hb2 e => keep3 b o hb2 ?_) hS4
      show h2.get? b = some o
      rw [sb.2 b (fun h : b = D => hb2 (by rw [h]; exact List.mem_cons_self))]
      exact keep1 b o (fun z => hb2 (List.mem_cons_of_mem _ z)) e
/-- the new empty set -/
abbrev newSet (w : World) : Obj := { cls := .type "set", dict := none, data := .set #[] 0 (.fresh 0 0 (!w.params.followText "set-order")) }
theorem setT_new {h : Heap} (ho : h.get? a = some (newSet w)) : SetT w h a ([] : List Str) :=
  ⟨_, #[], 0, _, ho, ⟨rfl, rfl, rfl⟩, rfl, (fun e he => by simp at he), (by simp), (fun k => by simp), Nat.le_refl _, (by decide), (by rfl), List.Pairwise.nil, by
    show _ ∨ (!w.params.followText "set-order") = true
    cases w.params.followText "set-order"
    · exact .inr rfl
    · exact .inl rfl⟩
theorem sub_str_set : isSubtype (.type "str") (.type "set") = pure false := by rw [isSubtype_type]; kernel_rfl
theorem sub_str_frozenset : isSubtype (.type "str") (.type "frozenset") = pure false := by rw [isSubtype_type]; kernel_rfl
set_option maxHeartbeats 6400000 in
theorem call_setText {x : Str} {t : Tok} {xs : List Str} (hx : xs = x.cps.toList.map fun c => (⟨#[c]⟩ : Str)) {Q : Value → Shared → Prop} (hh : A.handled = none) (hb : xs.length + 1 < scanBound)
    (h : ∀ (h' : Heap) (tk : Nat), SetT w h' s.heap.objs.size xs.reverse → (∀ b o, s.heap.get? b = some o → h'.get? b = some o) → Q (.ref s.heap.objs.size) { s with heap := h', toks := tk }) :
    wpAny (model P w) A (call (.type "set") [.str x t]) Q E s := by
  obtain ⟨cc, tl, mroE⟩ := F.called_set.mro
  have madeE := F.called_set.made
  have subE := F.called_set.sub
  refine wpAny_call (codeAny_of_tree (show wpAny _ _ (callAny (.type "set") _) _ _ _ from ?_))
  refine wpAny_pure ⟨Code.quiet_builtin _ (by decide +kernel), codeAny_builtin F.entry_type_call ?_⟩
  rw [Around.under_plain (weight_type_call_type "set" [.str x t] []) rfl]
  have c1 := F.called_set.notType
  have c2 := F.called_set.canCreate
  have c3 := F.typeCall_set_1 (.str x t)
  repeat (any_goals (first | assumption | wp_step))

  refine codeAny_mono (code_set_led1 (.str x t) (E := E) (Q₁ := fun obj s₁ => obj = .ref s.heap.objs.size ∧ s₁ = { s with heap := s.heap.push (newSet w) }) ⟨rfl, rfl⟩) fun r s₁ hr => ?_
  cases r with
  | error e => exact hr
  | ok fl =>
    cases fl with
    | ret obj =>
      obtain ⟨rfl, rfl⟩ := hr
      have qS : (s.heap.push (newSet w)).get? s.heap.objs.size = some (newSet w) := Heap.get?_push_size _ rfl
      have qT : Shared.TypeIs { s with heap := s.heap.push (newSet w) } (.ref s.heap.objs.size) "set" := ⟨_, qS, rfl⟩
      have i1 := F.called_set.init.lookup
      have i2 := F.called_set.init.bind (.ref s.heap.objs.size)
      repeat (any_goals (first | assumption | wp_step))

      refine codeAny_mono (codeAny_call_builtin (R := wants (fun r s₂ => r = .none ∧ ∃ h' tk, s₂ = { s with heap := h', toks := tk } ∧ SetT w h' s.heap.objs.size xs.reverse ∧
          (∀ b o, s.heap.get? b = some o → h'.get? b = some o)) E) F.called_set.init.plain F.entry_set_init (check_set_init_1 qT ?_)) fun r₂ s₂ hr₂ => ?_
      · have hne : (Value.type "str" == Value.type "dict") = false := by decide
        have hs1 := sub_str_set
        have hs2 := sub_str_frozenset
        unfold Builtin.«set.__init__» noKeywords Builtin.Frozenset.updateFrom
        generalize hPI : pyIter = PI
        wp_walk
        subst hPI
        refine wpAny_pyIter_str fun o St hW hst => ?_
        refine wpAny_bind (wpAny_runValue ?_)
        have sz1 : (s.heap.push (newSet w)).objs.size = s.heap.objs.size + 1 := Heap.size_push ..
        refine setT_update (hW _ (by simp [hh])) s.heap.objs.size (by rw [sz1]; simp) xs (by rw [hx]; simp) hb ?_ _ 0 _ rfl (Nat.zero_le _) hst ?_ ?_
        · rintro i v ⟨c, u, hc, rfl⟩
          exact ⟨⟨#[c]⟩, u, by rw [hx, List.getElem?_map, Array.getElem?_toList, hc]; rfl, rfl⟩
        · exact setT_new (Heap.get?_push_of_some _ qS)
        · intro h' tk' keep S1
          refine wpAny_pure (show wpAny _ _ (ret Value.none) _ _ _ from wpAny_pure ⟨rfl, h', tk', rfl, S1, fun b o e => ?_⟩)
          have lt0 : b < s.heap.objs.size := Heap.lt_size e
          refine keep b o ?_ (Heap.get?_push_of_some _ (Heap.get?_push_of_some _ e))
          rw [sz1]
          simp only [List.mem_cons, List.not_mem_nil, or_false, not_or]
          exact ⟨Nat.ne_of_lt lt0, Nat.ne_of_lt (Nat.lt_succ_of_lt lt0)⟩
      · cases r₂ with
        | error e => exact hr₂
        | ok fl₂ =>
          cases fl₂ with
          | ret r =>
            obtain ⟨rfl, h', tk, rfl, S1, keep1⟩ := hr₂
            repeat (any_goals (first | assumption | wp_step))
            exact h _ _ S1 keep1
          | _ => exact hr₂.elim
    | _ => exact hr.elim
end
end Lv

set_option Elab.async false
set_option linter.all false
set_option maxRecDepth 100000
set_option maxHeartbeats 3200000
namespace Lv
open PySem PySem.Spec PyProof.Rows L2 SX
theorem strs_at : ∀ {vs : List Value} {xs : List Str}, StrsAre vs xs → ∀ {i : Nat} {v : Value}, vs[i]? = some v → ∃ k t, xs[i]? = some k ∧ v = .str k t
  | _, _, .nil, i, v, h => by simp at h
  | _, _, .cons x t r, 0, v, h => ⟨x, t, rfl, (Option.some.inj h).symm⟩
  | _, _, .cons x t r, i + 1, v, h => strs_at r (i := i) h
section
variable {P : Program} {w : World} {A : Around} {E : Value → Shared → Prop} {s : Shared} {a : Addr} {L : List Str}
set_option maxHeartbeats 6400000 in
theorem call_setList {l : Addr} {items : Array Value} {xs : List Str} (hl : s.heap.IsList l items) (hx : StrsAre items.toList xs) {Q : Value → Shared → Prop} (hh : A.handled = none) (hb : xs.length + 1 < scanBound)
    (h : ∀ (h' : Heap) (tk : Nat), SetT w h' s.heap.objs.size xs.reverse → (∀ b o, s.heap.get? b = some o → h'.get? b = some o) → Q (.ref s.heap.objs.size) { s with heap := h', toks := tk }) :
    wpAny (model P w) A (call (.type "set") [.ref l]) Q E s := by
  obtain ⟨cc, tl, mroE⟩ := F.called_set.mro
  have madeE := F.called_set.made
  have subE := F.called_set.sub
  refine wpAny_call (codeAny_of_tree (show wpAny _ _ (callAny (.type "set") _) _ _ _ from ?_))
  refine wpAny_pure ⟨Code.quiet_builtin _ (by decide +kernel), codeAny_builtin F.entry_type_call ?_⟩
  rw [Around.under_plain (weight_type_call_type "set" [.ref l] []) rfl]
  have c1 := F.called_set.notType
  have c2 := F.called_set.canCreate
  have c3 := F.typeCall_set_1 (.ref l)
  repeat (any_goals (first | assumption | wp_step))

  refine codeAny_mono (code_set_led1 (.ref l) (E := E) (Q₁ := fun obj s₁ => obj = .ref s.heap.objs.size ∧ s₁ = { s with heap := s.heap.push (newSet w) }) ⟨rfl, rfl⟩) fun r s₁ hr => ?_
  cases r with
  | error e => exact hr
  | ok fl =>
    cases fl with
    | ret obj =>
      obtain ⟨rfl, rfl⟩ := hr
      have qS : (s.heap.push (newSet w)).get? s.heap.objs.size = some (newSet w) := Heap.get?_push_size _ rfl
      have qT : Shared.TypeIs { s with heap := s.heap.push (newSet w) } (.ref s.heap.objs.size) "set" := ⟨_, qS, rfl⟩
      have i1 := F.called_set.init.lookup
      have i2 := F.called_set.init.bind (.ref s.heap.objs.size)
      repeat (any_goals (first | assumption | wp_step))

      refine codeAny_mono (codeAny_call_builtin (R := wants (fun r s₂ => r = .none ∧ ∃ h' tk, s₂ = { s with heap := h', toks := tk } ∧ SetT w h' s.heap.objs.size xs.reverse ∧
          (∀ b o, s.heap.get? b = some o → h'.get? b = some o)) E) F.called_set.init.plain F.entry_set_init (check_set_init_1 qT ?_)) fun r₂ s₂ hr₂ => ?_
      · have hne : (Value.type "list" == Value.type "dict") = false := by decide
        have hs1 := F.sub_list_set
        have hs2 := F.sub_list_frozenset
        have lst1 := hl.push (newSet w)
        obtain ⟨lo, hlo, hlc, ln, hld⟩ := hl
        obtain ⟨ocls, odict, odata, oslots⟩ := lo
        simp only at hlc hld
        subst hlc; subst hld
        have hlo' : (s.heap.push (newSet w)).get? l = some { cls := .type "list", dict := odict, data := .seq items ln, slots := oslots } := Heap.get?_push_of_some _ hlo
        unfold Builtin.«set.__init__» noKeywords Builtin.Frozenset.updateFrom
        generalize hPI : pyIter = PI
        wp_walk
        subst hPI
        refine wpAny_pyIter_list lst1 ?_
        refine wpAny_bind (wpAny_runValue ?_)
        have sz1 : (s.heap.push (newSet w)).objs.size = s.heap.objs.size + 1 := Heap.size_push ..
        have ltl : l < s.heap.objs.size := Heap.lt_size hlo
        have nel : l ≠ (s.heap.push (newSet w)).objs.size := by rw [sz1]; exact Nat.ne_of_lt (Nat.lt_succ_of_lt ltl)
        have lenE : items.size = xs.length := by rw [← hx.length, Array.length_toList]
        refine setT_update (Walks.list (by simp [hh]) _ l nel items) s.heap.objs.size ?_ xs lenE hb ?_ _ 0 _ rfl (Nat.zero_le _) ⟨⟨_, Heap.get?_push_size _ rfl, rfl, rfl⟩, lst1.push _⟩ ?_ ?_
        · rw [sz1]
          simp only [List.mem_cons, List.not_mem_nil, or_false, not_or]
          exact ⟨Nat.ne_of_lt (Nat.lt_succ_self _), Nat.ne_of_gt ltl⟩
        · intro i v hv
          exact strs_at hx (by rw [Array.getElem?_toList]; exact hv)
        · exact setT_new (Heap.get?_push_of_some _ qS)
        · intro h' tk' keep S1
          refine wpAny_pure (show wpAny _ _ (ret Value.none) _ _ _ from wpAny_pure ⟨rfl, h', tk', rfl, S1, fun b o e => ?_⟩)
          have lt0 : b < s.heap.objs.size := Heap.lt_size e
          refine keep b o ?_ (Heap.get?_push_of_some _ (Heap.get?_push_of_some _ e))
          rw [sz1]
          simp only [List.mem_cons, List.not_mem_nil, or_false, not_or]
          exact ⟨Nat.ne_of_lt lt0, Nat.ne_of_lt (Nat.lt_succ_of_lt lt0)⟩
      · cases r₂ with
        | error e => exact hr₂
        | ok fl₂ =>
          cases fl₂ with
          | ret r =>
            obtain ⟨rfl, h', tk, rfl, S1, keep1⟩ := hr₂
            repeat (any_goals (first | assumption | wp_step))
            exact h _ _ S1 keep1
          | _ => exact hr₂.elim
    | _ => exact hr.elim
end
end Lv

set_option Elab.async false
set_option linter.all false
set_option maxRecDepth 100000
set_option maxHeartbeats 3200000
namespace Lv
open PySem PySem.Spec PyProof.Rows L2 SX
/-! ### sorted(set(x)), len(set(x)) of texts -/
theorem strs_of : ∀ (l : List Value), (∀ v ∈ l, ∃ k tk, v = Value.str k tk) → StrsAre l (l.map fun v => kyS (0, v))
  | [], _ => .nil
  | v :: l, h => by
    obtain ⟨k, tk, rfl⟩ := h v List.mem_cons_self
    exact .cons k tk (strs_of l fun u hu => h u (List.mem_cons_of_mem _ hu))
section
variable {P : Program} {w : World} {A : Around} {E : Value → Shared → Prop} {s : Shared} {a : Addr} {L : List Str}
theorem sorted_setT {Q : Value → Shared → Prop} (R : SetT w s.heap a L) (hh : A.handled = none)
    (hQ : ∀ s' p (out : Array Value) (c : Nat) (ys : List Str), (∀ b o, s.heap.get? b = some o → s'.heap.get? b = some o) → s'.gens = s.gens → s'.os = s.os → s.heap.objs.size ≤ p →
      s'.heap.get? p = some (seqObj "list" out c) → StrsAre out.toList ys → sortedS ys = true → ys.Nodup → (∀ k, k ∈ ys ↔ k ∈ L) → ys.length ≤ L.length → Q (.ref p) s') :
    wpAny (model P w) A (call (.builtin "sorted") [.ref a]) Q E s := by
  obtain ⟨o, es, ep, t, qo, qx, qd, g, nd, hm, hz, hb, hf, hr, hl⟩ := R
  refine Calls.call_function_entry kind_sorted plain_sorted entry_sorted (args_sorted1 _) ?_
  unfold Builtin.«sorted»
  refine wpAny_bind (m := checkCount "sorted" 1 1 _) (wpAny_pure (wpAny_bind (collect_set (A := A.in1) hh ⟨o, qo, qx.1, qd⟩ hf hb hr hl fun s1 vs k1 z1 g1 o1 pm => ?_)))
  have lenV : vs.length = es.size := by rw [pm.length_eq, List.length_map, Array.length_toList]
  have strV : StrsAre vs (vs.map fun v => kyS (0, v)) := strs_of vs fun v hv => by
    obtain ⟨e, he, q⟩ := List.mem_map.mp (pm.mem_iff.mp hv)
    obtain ⟨k, tk, h1, _⟩ := g e he
    exact ⟨k, tk, by rw [← q]; exact h1⟩
  have pk : (vs.map fun v => kyS (0, v)).Perm (es.toList.map kyS) := by
    have q := pm.map fun v => kyS (0, v)
    rw [List.map_map] at q
    exact q
  have lenL : vs.length ≤ sizeLine := by
    rw [lenV, sizeLine_eq]
    have : es.size < scanBound := hb
    unfold scanBound at this
    omega
  refine wpAny_bind (wpAny_newList ?_ lenL)
  have qL : (s1.heap.push (seqObj "list" vs.toArray 0)).get? s1.heap.objs.size = some (seqObj "list" vs.toArray 0) := Heap.get?_push_size _ rfl
  refine wpAny_bind (wpAny_holding (wpAny_call_entry slot_list_sort ⟨_, qL, rfl⟩ entry_list_sort (list_sort_treeKAny strKind_oneLt qL strV.keysOf (fun v₁ v₂ rest e => keyKind_strs (by rw [← e]; exact strV)) lenL fun st' hp hs => ⟨_, rfl, ?_⟩) (args_list_sort _)))
  obtain ⟨ys, a1, a2, a3⟩ := sorted_out_str strV hp hs
  obtain ⟨c, hc⟩ := sortedHeap_at (vs := vs) (out := (arrOf st').map (·.2)) qL
  have pn : ys.Perm (es.toList.map kyS) := a2.trans pk
  refine wpAny_pure ⟨_, rfl, hQ _ s1.heap.objs.size _ c ys (fun b u e => ?_) g1 o1 z1 hc a1 a3 (pn.nodup_iff.mpr nd) (fun k => by rw [pn.mem_iff, ← hm k]) (by rw [pn.length_eq, List.length_map, Array.length_toList]; exact hz)⟩
  have q := k1 b u e
  have lt1 := Heap.lt_size q
  show (sortedHeap (s1.heap.push (seqObj "list" vs.toArray 0)) s1.heap.objs.size vs _).get? b = some u
  rw [sortedHeap_old (Nat.ne_of_lt lt1) (by rw [size_push']; exact Nat.lt_succ_of_lt lt1)]
  exact Heap.get?_push_of_some _ q
end
theorem lt_trichotomyL : ∀ a b : List Nat, a < b ∨ a = b ∨ b < a
  | [], [] => .inr (.inl rfl)
  | [], _ :: _ => .inl .nil
  | _ :: _, [] => .inr (.inr .nil)
  | x :: a, y :: b => by
    rcases Nat.lt_trichotomy x y with h | h | h
    · exact .inl (.rel h)
    · subst h
      rcases lt_trichotomyL a b with z | z | z
      · exact .inl (.cons z)
      · exact .inr (.inl (by rw [z]))
      · exact .inr (.inr (.cons z))
    · exact .inr (.inr (.rel h))
theorem ltCps_iff : ∀ (a b : List Nat), ltCps a b = true ↔ a < b
  | [], [] => ⟨fun h => (nomatch h), fun h => (nomatch h)⟩
  | [], _ :: _ => ⟨fun _ => .nil, fun _ => rfl⟩
  | _ :: _, [] => ⟨fun h => (nomatch h), fun h => (nomatch h)⟩
  | x :: a, y :: b => by
    show (decide (x < y) || (x == y && ltCps a b)) = true ↔ _
    rw [Bool.or_eq_true, Bool.and_eq_true, decide_eq_true_iff, beq_iff_eq, ltCps_iff a b]
    constructor
    · rintro (h | ⟨h, k⟩)
      · exact .rel h
      · subst h; exact .cons k
    · intro h
      cases h with
      | rel h => exact .inl h
      | cons h => exact .inr ⟨rfl, h⟩
/-- rising texts that are unlike rise strictly -/
theorem sortedS_lt : ∀ {ys : List Str}, sortedS ys = true → ys.Nodup → (ys.map fun y => y.cps.toList).Pairwise (· < ·)
  | [], _, _ => List.Pairwise.nil
  | [x], _, _ => List.pairwise_singleton _ _
  | x :: y :: r, h, d => by
    have h2 : (!ltCps y.cps.toList x.cps.toList && risingS y r) = true := h
    rw [Bool.and_eq_true] at h2
    have ih := sortedS_lt (ys := y :: r) h2.2 (List.nodup_cons.mp d).2
    have n1 : ¬ y.cps.toList < x.cps.toList := fun z => by
      have := (ltCps_iff _ _).mpr z
      rw [this] at h2
      exact absurd h2.1 (by decide)
    have ne : x.cps.toList ≠ y.cps.toList := fun z => by
      have e : x = y := by
        cases x; cases y
        exact congrArg Str.mk (Array.toList_inj.mp z)
      exact (List.nodup_cons.mp d).1 (by rw [e]; exact List.mem_cons_self)
    have lt1 : x.cps.toList < y.cps.toList := by
      rcases lt_trichotomyL x.cps.toList y.cps.toList with z | z | z
      · exact z
      · exact absurd z ne
      · exact absurd z n1
    refine List.pairwise_cons.mpr ⟨fun z hz => ?_, ih⟩
    rcases List.mem_cons.mp hz with q | q
    · rw [q]; exact lt1
    · exact List.lt_trans lt1 ((List.pairwise_cons.mp ih).1 z q)
/-- the unlike signs of a text, rising -/
def tSortSetS (ta : TA) : TE := fun σ H Q => ta σ H fun vs H1 => ∃ l : List Nat, vs = [.str (S l)] ∧ l.length ≤ 1000 ∧ ∀ (ys : List Nat) (p : Addr), ys.Pairwise (· < ·) → (∀ c, c ∈ ys ↔ c ∈ l) → H1 p = none → Q (.ref p) (upd H1 p (.lst (ys.map vc)))
section
variable {X : Cx} {e : Expr} {ta : TA} {p1 p2 pos pos2 : Pos}
theorem pe_sortSetS (hc : X.calm = true) (hg1 : Gl X "sorted") (hm1 : X.mg "sorted" = none) (hg2 : Gl X "set") (hm2 : X.mg "set" = none) (ha : PA X [e] ta)
    (hs : starEach [e] X.env = [(false, eval e X.env)] := by rfl) (hs2 : starEach [.Call (.Name "set" p2) [e] [] pos2] X.env = [(false, eval (.Call (.Name "set" p2) [e] [] pos2) X.env)] := by rfl) :
    PE X (.Call (.Name "sorted" p1) [.Call (.Name "set" p2) [e] [] pos2] [] pos) (tSortSetS ta) := by
  refine ⟨fun pins s σ H Q I h => ?_⟩
  refine wpAny_Call_Name_kw (ld_blt I hg1 hm1 (by decide +kernel : bootBuiltins "sorted" = some (.builtin "sorted")) ?_)
  refine callWith_builtin1 ?_ hs2 rfl
  rw [hs2]
  refine Calls.spliced_cons ?_
  refine wpAny_Call_Name_kw (ld_blt I hg2 hm2 boot_set (callWith_type1 (thn (ha.run pos2 pins s σ H _ I h) fun us s1 ⟨vs, H1, I1, r1, q1⟩ => ?_) hs rfl))
  obtain ⟨l, rfl, hl, q⟩ := q1
  cases r1 with
  | cons r rr =>
    cases rr
    obtain ⟨t, rfl⟩ := r
    have hd := I1.ok.hd hc
    refine call_setText (xs := l.map fun c => (⟨#[c]⟩ : Str)) (by simp [S]) hd (by rw [List.length_map]; unfold scanBound; omega) fun h' tk R1 keep => ?_
    refine Calls.spliced_nil ?_
    refine sorted_setT (s := { s1 with heap := h', toks := tk }) R1 hd fun s' p out c ys k g o hp hq hi hs3 hn hm hle => ?_
    have one : ∀ y ∈ ys, ∃ c, c ∈ l ∧ y = S [c] := fun y hy => by
      have := (hm y).mp hy
      rw [List.mem_reverse, List.mem_map] at this
      obtain ⟨c, h1, h2⟩ := this
      exact ⟨c, h1, h2.symm⟩
    have pw := sortedS_lt hs3 hn
    have eys : ys = (ys.map fun y => y.cps.toList.headD 0).map fun c => S [c] := by
      rw [List.map_map]
      refine (List.map_id ys).symm.trans (List.map_congr_left fun y hy => ?_)
      obtain ⟨c, _, rfl⟩ := one y hy
      rfl
    generalize ezs : (ys.map fun y => y.cps.toList.headD 0) = zs at eys
    subst eys
    have pz : zs.Pairwise (· < ·) := by
      rw [List.map_map, List.pairwise_map] at pw
      exact pw.imp fun h => lt_one.mp h
    have mz : ∀ c, c ∈ zs ↔ c ∈ l := fun c => by
      have h1 := hm (S [c])
      rw [List.mem_reverse] at h1
      constructor
      · intro hc
        obtain ⟨d, h2, h3⟩ := List.mem_map.mp (h1.mp (List.mem_map.mpr ⟨c, hc, rfl⟩))
        have : d = c := by
          have h4 : S [d] = S [c] := h3
          have h5 := S_inj.mp h4
          injection h5
        rw [← this]; exact h2
      · intro hc
        obtain ⟨d, h2, h3⟩ := List.mem_map.mp (h1.mpr (List.mem_map.mpr ⟨c, hc, rfl⟩))
        have : d = c := by
          have h5 := S_inj.mp h3
          injection h5
        rw [← this]; exact h2
    have lenZ : (zs.map vc).length ≤ sizeLine := by
      rw [List.length_map]
      refine le_line ?_
      rw [List.length_map, List.length_reverse, List.length_map] at hle
      omega
    have k' : ∀ b u, s1.heap.get? b = some u → s'.heap.get? b = some u := fun b u e => k b u (keep b u e)
    have hp' : s1.heap.objs.size ≤ p := by
      obtain ⟨o1, _, _, _, qo1, _⟩ := R1
      exact Nat.le_trans (Nat.le_of_lt (Heap.lt_size qo1)) hp
    have hn1 : H1 p = none := I1.hok.fresh hp'
    have J : Inv X pins σ (upd H1 p (.lst (zs.map vc))) { s1 with heap := s'.heap, gens := s'.gens, drawn := s'.drawn, toks := s'.toks } :=
      I1.call (ch := []) (Un.laid k' hp' hn1) (I1.hok.laid k' hp' ⟨lenZ, out.toList, c, ?_, hq⟩) (by rw [g]; exact I1.bare) (fun _ z => nomatch z)
    · have es : s' = { s1 with heap := s'.heap, gens := s'.gens, drawn := s'.drawn, toks := s'.toks } := by
        cases s'
        cases o
        rfl
      rw [es]
      exact ⟨.ref p, _, J, rfl, q zs p pz mz hn1⟩
    · have := vals_of_strs hi
      rw [List.map_map] at this
      exact this
end
/-- the unlike texts of a list, rising -/
def tSortSetL (K : PySem.W.Frag) (ta : TA) : TE := fun σ H Q => ta σ H fun xs H1 => ∃ (a : Addr) (ls : List (List Nat)), xs = [.ref a] ∧ SqL K H1 a (ls.map vs) ∧ ls.length ≤ 1000 ∧ ∀ (ys : List (List Nat)) (p : Addr), ys.Pairwise (· < ·) → (∀ c, c ∈ ys ↔ c ∈ ls) → H1 p = none → Q (.ref p) (upd H1 p (.lst (ys.map vs)))
section
variable {X : Cx} {e : Expr} {ta : TA} {p1 p2 pos pos2 : Pos}
theorem pe_sortSetL (hc : X.calm = true) (hg1 : Gl X "sorted") (hm1 : X.mg "sorted" = none) (hg2 : Gl X "set") (hm2 : X.mg "set" = none) (ha : PA X [e] ta)
    (hs : starEach [e] X.env = [(false, eval e X.env)] := by rfl) (hs2 : starEach [.Call (.Name "set" p2) [e] [] pos2] X.env = [(false, eval (.Call (.Name "set" p2) [e] [] pos2) X.env)] := by rfl) :
    PE X (.Call (.Name "sorted" p1) [.Call (.Name "set" p2) [e] [] pos2] [] pos) (tSortSetL X.K ta) := by
  refine ⟨fun pins s σ H Q I h => ?_⟩
  refine wpAny_Call_Name_kw (ld_blt I hg1 hm1 (by decide +kernel : bootBuiltins "sorted" = some (.builtin "sorted")) ?_)
  refine callWith_builtin1 ?_ hs2 rfl
  rw [hs2]
  refine Calls.spliced_cons ?_
  refine wpAny_Call_Name_kw (ld_blt I hg2 hm2 boot_set (callWith_type1 (thn (ha.run pos2 pins s σ H _ I h) fun us s1 ⟨vs, H1, I1, r1, q1⟩ => ?_) hs rfl))
  obtain ⟨lp, ls, rfl, hq1, hl, q⟩ := q1
  cases r1 with
  | cons r rr =>
    cases rr
    cases r
    have hd := I1.ok.hd hc
    obtain ⟨its, rv, pt, hz0⟩ := I1.list hq1
    have st1 : StrsAre its (ls.map fun l => S l) := by
      have e : ls.map vs = (ls.map fun l => S l).map V.str := by rw [List.map_map]; rfl
      rw [e] at rv
      exact rv.strs
    have st2 : StrsAre its.toArray.toList (ls.map fun l => S l) := by simpa using st1
    have pt2 : s1.heap.IsList lp its.toArray := pt.isList
    refine call_setList (xs := ls.map fun l => S l) pt2 st2 hd (by rw [List.length_map]; unfold scanBound; omega) fun h' tk R1 keep => ?_
    refine Calls.spliced_nil ?_
    refine sorted_setT (s := { s1 with heap := h', toks := tk }) R1 hd fun s' p out c ys k g o hp hq hi hs3 hn hm hle => ?_
    have one : ∀ y ∈ ys, ∃ c, c ∈ ls ∧ y = S c := fun y hy => by
      have := (hm y).mp hy
      rw [List.mem_reverse, List.mem_map] at this
      obtain ⟨c, h1, h2⟩ := this
      exact ⟨c, h1, h2.symm⟩
    have pw := sortedS_lt hs3 hn
    have eys : ys = (ys.map fun y => y.cps.toList).map fun c => S c := by
      rw [List.map_map]
      refine (List.map_id ys).symm.trans (List.map_congr_left fun y hy => ?_)
      obtain ⟨c, _, rfl⟩ := one y hy
      rfl
    generalize ezs : (ys.map fun y => y.cps.toList) = zs at eys pw
    subst eys
    have mz : ∀ c, c ∈ zs ↔ c ∈ ls := fun c => by
      have h1 := hm (S c)
      rw [List.mem_reverse] at h1
      constructor
      · intro hc
        obtain ⟨d, h2, h3⟩ := List.mem_map.mp (h1.mp (List.mem_map.mpr ⟨c, hc, rfl⟩))
        rw [← S_inj.mp h3]; exact h2
      · intro hc
        obtain ⟨d, h2, h3⟩ := List.mem_map.mp (h1.mpr (List.mem_map.mpr ⟨c, hc, rfl⟩))
        rw [← S_inj.mp h3]; exact h2
    have lenZ : (zs.map vs).length ≤ sizeLine := by
      rw [List.length_map]
      refine le_line ?_
      rw [List.length_map, List.length_reverse, List.length_map] at hle
      omega
    have k' : ∀ b u, s1.heap.get? b = some u → s'.heap.get? b = some u := fun b u e => k b u (keep b u e)
    have hp' : s1.heap.objs.size ≤ p := by
      obtain ⟨o1, _, _, _, qo1, _⟩ := R1
      exact Nat.le_trans (Nat.le_of_lt (Heap.lt_size qo1)) hp
    have hn1 : H1 p = none := I1.hok.fresh hp'
    have J : Inv X pins σ (upd H1 p (.lst (zs.map vs))) { s1 with heap := s'.heap, gens := s'.gens, drawn := s'.drawn, toks := s'.toks } :=
      I1.call (ch := []) (Un.laid k' hp' hn1) (I1.hok.laid k' hp' ⟨lenZ, out.toList, c, ?_, hq⟩) (by rw [g]; exact I1.bare) (fun _ z => nomatch z)
    · have es : s' = { s1 with heap := s'.heap, gens := s'.gens, drawn := s'.drawn, toks := s'.toks } := by
        cases s'
        cases o
        rfl
      rw [es]
      exact ⟨.ref p, _, J, rfl, q zs p pw mz hn1⟩
    · have := vals_of_strs hi
      rw [List.map_map] at this
      exact this
end
section
variable {K : PySem.W.Frag} {σ : L2.St} {H : Hp} {Q : VK} {ta : TA}
theorem i_sortSetS (h : ta σ H fun vs H1 => ∃ l : List Nat, vs = [.str (S l)] ∧ l.length ≤ 1000 ∧ ∀ (ys : List Nat) (p : Addr), ys.Pairwise (· < ·) → (∀ c, c ∈ ys ↔ c ∈ l) → H1 p = none → Q (.ref p) (upd H1 p (.lst (ys.map vc)))) : tSortSetS ta σ H Q := h
theorem i_sortSetL (h : ta σ H fun xs H1 => ∃ (a : Addr) (ls : List (List Nat)), xs = [.ref a] ∧ SqL K H1 a (ls.map vs) ∧ ls.length ≤ 1000 ∧ ∀ (ys : List (List Nat)) (p : Addr), ys.Pairwise (· < ·) → (∀ c, c ∈ ys ↔ c ∈ ls) → H1 p = none → Q (.ref p) (upd H1 p (.lst (ys.map vs)))) : tSortSetL K ta σ H Q := h
end
end Lv

set_option Elab.async false
set_option linter.all false
set_option maxRecDepth 100000
set_option maxHeartbeats 2000000
namespace Lv
open PySem PySem.Spec PyProof.Rows L2 SX
/-! ### text.count(sign), text.index(sign) -/
section
open Builtin Builtin.Str
theorem at_S {l : List Nat} {c i : Nat} : (i + (S [c]).length ≤ (S l).length ∧ subAt (S l) (S [c]) i = true) ↔ l[i]? = some c := by
  have := StrLaws.subAt_one (S l) c i
  simpa [S] using this
theorem occ_count (l : List Nat) (c limit : Nat) : ∀ (n a : Nat) (arr : Array Nat) (f : Nat), f ≤ a → arr.size + n ≤ limit →
    (forIn (List.range' a n) (arr, f) (StrLaws.occBody (S l) (S [c]) (S l).length limit)).run.fst.size = arr.size + ((l.drop a).take n).count c
  | 0, a, arr, f, _, _ => by simp
  | n + 1, a, arr, f, hf, hl => by
    rw [List.range'_succ, List.forIn_cons]
    unfold StrLaws.occBody
    by_cases z : l[a]? = some c
    · obtain ⟨z1, z2⟩ := at_S.mpr z
      rw [if_pos ⟨⟨⟨by show arr.size < limit; omega, hf⟩, z1⟩, z2⟩]
      have ih := occ_count l c limit n (a + 1) (arr.push a) (a + (S [c]).length) (by simp [S_len]) (by simp; omega)
      have e1 : (l.drop a) = c :: l.drop (a + 1) := by
        obtain ⟨h1, h2⟩ := List.getElem?_eq_some_iff.mp z
        rw [List.drop_eq_getElem_cons h1, h2]
      rw [e1, List.take_succ_cons, List.count_cons_self]
      have : (arr.push a).size = arr.size + 1 := by simp
      rw [this] at ih
      exact ih.trans (by omega)
    · rw [if_neg fun h => z (at_S.mp ⟨h.1.2, h.2⟩)]
      have ih := occ_count l c limit n (a + 1) arr f (by omega) (by omega)
      refine ih.trans (congrArg (arr.size + ·) ?_)
      by_cases h : a < l.length
      · rw [List.drop_eq_getElem_cons h, List.take_succ_cons, List.count_cons_of_ne]
        intro e
        exact z (List.getElem?_eq_some_iff.mpr ⟨h, e⟩)
      · rw [List.drop_of_length_le (by omega), List.drop_of_length_le (by omega)]
        simp
theorem count_S (l : List Nat) (c : Nat) : Txt.count (S l) (S [c]) = ((l.count c : Nat) : Int) := by
  unfold Txt.count
  rw [StrLaws.occ_eq, Array.length_toList, occ_count l c _ _ _ _ _ (Nat.le_refl _) (by simp)]
  have e : (l.drop 0).take ((S l).length + 1 - 0) = l := by
    rw [List.drop_zero, S_len, List.take_of_length_le (by omega)]
  rw [e]
  simp
theorem index_S {l : List Nat} {c k : Nat} (h : nextP l 0 c = some k) : ∃ r, occurrences (S l) (S [c]) 0 (S l).length 1 = k :: r := by
  obtain ⟨_, h1, h2⟩ := nextP_some.mp h
  rcases StrLaws.occ_head (S l) (S [c]) 1 (Nat.le_refl _) with ⟨_, z⟩ | ⟨i, r, e, z1, z2⟩
  · exact absurd (at_S.mpr h1) (z k)
  · refine ⟨r, ?_⟩
    have e1 := at_S.mp z1
    rcases Nat.lt_trichotomy i k with q | q | q
    · exact absurd e1 (h2 i (Nat.zero_le _) q)
    · rw [e, q]
    · exact absurd (at_S.mpr h1) (z2 k q)
end
def rCount (x : V) (xs : List V) (H : Hp) (Q : VK) : Prop := ∃ (l : List Nat) (c : Nat), x = .str (S l) ∧ xs = [.str (S [c])] ∧ Q (.int ((l.count c : Nat) : Int)) H
def rIndex1 (x : V) (xs : List V) (H : Hp) (Q : VK) : Prop := ∃ (l : List Nat) (c k : Nat), x = .str (S l) ∧ xs = [.str (S [c])] ∧ nextP l 0 c = some k ∧ Q (.int (k : Int)) H
/-- xs < ys of lists of ints -/
def rLtL (K : PySem.W.Frag) : R2 := fun x y H Q => ∃ (a b : Addr) (ns ms : List Int), x = .ref a ∧ y = .ref b ∧ SqL K H a (ns.map V.int) ∧ SqL K H b (ms.map V.int) ∧ Q (.bl (HT.lexLt ns ms)) H
section
variable {X : Cx}
theorem firstLt_lex : ∀ (ns ms : List Int), SeqAt.firstLt (fun j => decide (ns.getD j 0 = ms.getD j 0)) (fun j => decide (ns.getD j 0 < ms.getD j 0)) (decide (ns.length < ms.length)) (List.range (min ns.length ms.length)) = HT.lexLt ns ms := by
  have gen : ∀ (ns ms : List Int) (a b : List Int), a.length = b.length → SeqAt.firstLt (fun j => decide ((a ++ ns).getD j 0 = (b ++ ms).getD j 0)) (fun j => decide ((a ++ ns).getD j 0 < (b ++ ms).getD j 0)) (decide (ns.length < ms.length)) (List.range' a.length (min ns.length ms.length)) = HT.lexLt ns ms := by
    intro ns
    induction ns with
    | nil =>
      intro ms a b e
      cases ms with
      | nil => rfl
      | cons m ms => rfl
    | cons n ns ih =>
      intro ms a b e
      cases ms with
      | nil => rfl
      | cons m ms =>
        have e1 : (a ++ n :: ns).getD a.length 0 = n := by simp
        have e2 : (b ++ m :: ms).getD a.length 0 = m := by rw [e]; simp
        have e3 : min (n :: ns).length (m :: ms).length = min ns.length ms.length + 1 := by simp only [List.length_cons]; omega
        rw [e3, List.range'_succ, HT.lexLt_cons]
        have u1 : (decide ((a ++ n :: ns).getD a.length 0 = (b ++ m :: ms).getD a.length 0)) = decide (n = m) := by rw [e1, e2]
        have u2 : (decide ((a ++ n :: ns).getD a.length 0 < (b ++ m :: ms).getD a.length 0)) = decide (n < m) := by rw [e1, e2]
        by_cases z : n = m
        · have ih2 := ih ms (a ++ [n]) (b ++ [m]) (by simp [e])
          simp only [List.append_assoc, List.singleton_append, List.length_append, List.length_singleton] at ih2
          have e4 : decide ((n :: ns).length < (m :: ms).length) = decide (ns.length < ms.length) := by simp
          rw [SeqAt.firstLt_yes (u1.trans (decide_eq_true z)), if_pos z, e4, ← ih2]
        · rw [SeqAt.firstLt_no (u1.trans (decide_eq_false z)), if_neg z]
          exact u2
  intro ns ms
  have := gen ns ms [] [] rfl
  rw [List.range_eq_range']
  exact this
theorem op_ltL (hu : X.A.units + 64 < cLine) : OpR X (compareOp .Lt) (rLtL X.K) := by
  intro pins s σ H x y v u Q I rx ry h
  obtain ⟨a, b, ns, ms, rfl, rfl, ha, hb, q⟩ := h
  cases rx
  cases ry
  obtain ⟨its, r1, p1, _⟩ := I.list ha
  obtain ⟨its2, r2, p2, _⟩ := I.list hb
  have i1 : IntsAre its ns := intsAre_of r1
  have i2 : IntsAre its2 ms := intsAre_of r2
  have l1 : s.heap.IsList a its.toArray := p1.isList
  have l2 : s.heap.IsList b its2.toArray := p2.isList
  have e1 : its.toArray.size = ns.length := by rw [List.size_toArray]; exact i1.length
  have e2 : its2.toArray.size = ms.length := by rw [List.size_toArray]; exact i2.length
  have at1 : ∀ j (h1 : j < its.toArray.size), ∃ t, its.toArray[j] = .int (ns.getD j 0) t := fun j h1 => PyProof.Rows.IntsAre.int_at i1 j _ (by rw [List.size_toArray] at h1; rw [List.getElem?_eq_getElem h1]; simp)
  have at2 : ∀ j (h1 : j < its2.toArray.size), ∃ t, its2.toArray[j] = .int (ms.getD j 0) t := fun j h1 => PyProof.Rows.IntsAre.int_at i2 j _ (by rw [List.size_toArray] at h1; rw [List.getElem?_eq_getElem h1]; simp)
  have key := SeqAt.RcLt.lists (A := X.A) (s := s) (e := fun j => decide (ns.getD j 0 = ms.getD j 0)) (r := fun j => decide (ns.getD j 0 < ms.getD j 0)) l1 l2 (by omega) (fun j h1 h2 => by
      obtain ⟨t1, q1⟩ := at1 j h1
      obtain ⟨t2, q2⟩ := at2 j h2
      rw [q1, q2]
      exact SeqAt.EqAt.int_int _ _ _ _) (fun j h1 h2 _ => by
      obtain ⟨t1, q1⟩ := at1 j h1
      obtain ⟨t2, q2⟩ := at2 j h2
      rw [q1, q2]
      exact fun prog w E Q hq => PyProof.Rows.lt_int hq)
  rw [e1, e2, firstLt_lex] at key
  exact key X.prog X.w _ _ ⟨.bl _, H, I, rfl, q⟩
theorem mt_countS : MtR X "str.count" rCount := by
  intro pins s σ H x xs v us Q I rx r h
  obtain ⟨l, c, rfl, rfl, q⟩ := h
  refine mt_count pins s σ H _ _ v us Q I rx r ⟨_, _, rfl, rfl, ?_⟩
  rw [count_S]
  exact q
theorem mt_index1S : MtR X "str.index" rIndex1 := by
  intro pins s σ H x xs v us Q I rx r h
  obtain ⟨l, c, k, rfl, rfl, hk, q⟩ := h
  obtain ⟨rest, e⟩ := index_S hk
  exact mt_sindex pins s σ H _ _ v us Q I rx r ⟨_, _, k, rest, rfl, rfl, e, q⟩
end
section
variable {K : PySem.W.Frag} {H : Hp} {Q : VK}
theorem i_count {l : List Nat} {c : Nat} (h : Q (.int ((l.count c : Nat) : Int)) H) : rCount (.str (S l)) [.str (S [c])] H Q := ⟨l, c, rfl, rfl, h⟩
theorem i_index1 {l : List Nat} {c k : Nat} (hk : nextP l 0 c = some k) (h : Q (.int (k : Int)) H) : rIndex1 (.str (S l)) [.str (S [c])] H Q := ⟨l, c, k, rfl, rfl, hk, h⟩
end
/-- while: an invariant with what falls -/
theorem wh {tt : TT} {tb : TS} {D : Ends} {σ : L2.St} {H : Hp} (W : Nat → L2.St → Hp → Prop) (m : Nat) (h0 : W m σ H)
    (step : ∀ m σ H, W m σ H → tt σ H fun b H1 => if b = true then ∃ N : L2.St → Hp → Prop, (∀ σ' H', N σ' H' → ∃ m', m' < m ∧ W m' σ' H') ∧ tb { D with nx := N, ct := N, bk := D.nx } σ H1 else D.nx σ H1) : tWhile tt tb D σ H :=
  ⟨W, ⟨m, h0⟩, step⟩
theorem i_turn {tb : TS} {σ : L2.St} {H1 : Hp} {r : VK} {b : L2.St → Hp → Prop} {W : Nat → L2.St → Hp → Prop} {m : Nat} (h : tb { nx := fun σ' H' => ∃ m', m' < m ∧ W m' σ' H', rt := r, bk := b, ct := fun σ' H' => ∃ m', m' < m ∧ W m' σ' H' } σ H1) :
    ∃ N : L2.St → Hp → Prop, (∀ σ' H', N σ' H' → ∃ m', m' < m ∧ W m' σ' H') ∧ tb { nx := N, rt := r, bk := b, ct := N } σ H1 := ⟨_, fun _ _ h => h, h⟩
end Lv

set_option Elab.async false
set_option linter.all false
set_option maxRecDepth 100000
set_option maxHeartbeats 2000000
namespace Lv
open PySem PySem.Spec PyProof.Rows L2 SX
/-! zip of two lists -/
section
variable {K : PySem.W.Frag} {g : TG} {tb : TS} {D : Ends} {σ : L2.St} {H : Hp} {te : TE} {tt : TT} {vs : List Nat} {Q : VK} {R : It → Hp → Prop} {ta : TA} {a b : Addr} {xs ys : List V}
abbrev YZ (xs ys : List V) : Nat → List V → Prop := fun i zs => ∃ x y, xs[i]? = some x ∧ ys[i]? = some y ∧ zs = [x, y]
theorem c_z (h : LcG (fun H => SqL K H a xs ∧ SqL K H b ys) (min xs.length ys.length) (YT (YZ xs ys)) g tt te vs σ H Q) : LcJ (Itz K a b) g tt te vs σ H Q := by
  refine lcG_ok ((walk_zip rfl).mono (fun _ h => h) fun i H x H' hi _ y => ?_) h
  obtain ⟨T, x1, y1, h1, h2, h3, h4, h5⟩ := y
  exact ⟨T, _, h1, h2, h3, x1, y1, h4, h5, rfl⟩
theorem f_z (h : ForG (fun H => SqL K H a xs ∧ SqL K H b ys) (min xs.length ys.length) (YT (YZ xs ys)) g tb D σ H) : ForJ (Itz K a b) g tb D σ H := by
  refine forG_ok ((walk_zip rfl).mono (fun _ h => h) fun i H x H' hi _ y => ?_) h
  obtain ⟨T, x1, y1, h1, h2, h3, h4, h5⟩ := y
  exact ⟨T, _, h1, h2, h3, x1, y1, h4, h5, rfl⟩
theorem i_zip (h : ta σ H fun vs H1 => ∃ a b xs ys, vs = [.ref a, .ref b] ∧ SqL K H1 a xs ∧ SqL K H1 b ys ∧ R (Itz K a b) H1) : iZip K ta σ H R := h
end
theorem iteR {α : Type} {a : α} {i : Decidable (a = a)} {A B : Prop} (h : A) : if decide (a = a) = true then A else B := by rw [if_pos (decide_eq_true rfl)]; exact h
theorem iteNR {α : Type} {a : α} {i : Decidable (a = a)} {A B : Prop} (h : B) : if (!decide (a = a)) = true then A else B := by rw [if_neg (by simp)]; exact h
/-- quotients of any size -/
abbrev rDivW : R2 := rI CDivW fun i j => .int (i / j)
theorem divW_ok {i j : Int} (h : 0 < j) (h2 : j.natAbs < 2 ^ 200) : CDivW i j := wide_div (b := 200) h h2 (by decide) (by decide)
/-- products of any size -/
abbrev rMulW : R2 := rI CMulW fun i j => .int (i * j)
theorem mulW_ok {i j : Int} (h1 : i.natAbs < 2 ^ 200) (h2 : j.natAbs < 2 ^ 200) : CMulW i j := wide_mul (a := 200) (b := 200) h1 h2 (by decide) (by decide) (by decide)
/-! small calls -/
def rAbs : List V → Hp → VK → Prop := fun xs H Q => ∃ i : Int, xs = [.int i] ∧ Q (.int (if i < 0 then -i else i)) H
def rMax2 : List V → Hp → VK → Prop := fun xs H Q => ∃ i j : Int, xs = [.int i, .int j] ∧ Q (.int (if j > i then j else i)) H
def rMin2 : List V → Hp → VK → Prop := fun xs H Q => ∃ i j : Int, xs = [.int i, .int j] ∧ Q (.int (if j < i then j else i)) H
section
variable {X : Cx}
theorem call_absI : CallR X (.builtin "abs") rAbs := call_abs
theorem call_maxI (hc : X.calm = true) : CallR X (.builtin "max") rMax2 := call_max2 hc
theorem call_minI (hc : X.calm = true) : CallR X (.builtin "min") rMin2 := call_min2 hc
end
section
variable {K : PySem.W.Frag} {H : Hp} {Q : VK} {σ : L2.St}
theorem i_abs {i : Int} (h : Q (.int (if i < 0 then -i else i)) H) : rAbs [.int i] H Q := ⟨i, rfl, h⟩
theorem i_max2 {i j : Int} (h : Q (.int (if j > i then j else i)) H) : rMax2 [.int i, .int j] H Q := ⟨i, j, rfl, h⟩
theorem i_min2 {i j : Int} (h : Q (.int (if j < i then j else i)) H) : rMin2 [.int i, .int j] H Q := ⟨i, j, rfl, h⟩
theorem i_maxL {a : Addr} {ns : List Int} (hp : SqL K H a (ns.map V.int)) (h0 : 0 < ns.length) (h : ∀ m, m ∈ ns → (∀ y, y ∈ ns → y ≤ m) → Q (.int m) H) : rMax K [.ref a] H Q := ⟨a, ns, rfl, hp, h0, h⟩
theorem i_minL {a : Addr} {ns : List Int} (hp : SqL K H a (ns.map V.int)) (h0 : 0 < ns.length) (h : ∀ m, m ∈ ns → (∀ y, y ∈ ns → m ≤ y) → Q (.int m) H) : rMin K [.ref a] H Q := ⟨a, ns, rfl, hp, h0, h⟩
theorem i_reverse {a : Addr} {xs : List V} (hp : H a = some (.lst xs)) (h : Q .non (L2.upd H a (.lst xs.reverse))) : rReverse (.ref a) [] H Q := ⟨a, xs, rfl, rfl, hp, h⟩
theorem i_lstRg {te : L2.St → Hp → (Int → Int → Hp → Prop) → Prop} (h : te σ H fun a b H1 => RgOk a b ∧ ∀ q, H1 q = none → Q (.ref q) (L2.upd H1 q (.lst (rgV a b)))) : tLstRg te σ H Q := h
theorem i_rg1 {ta : TE} {R : Int → Int → Hp → Prop} (h : ta σ H fun x H1 => ∃ n, x = .int n ∧ R 0 n H1) : tRg1 ta σ H R := h
theorem i_ixT {p : Addr} {xs : List V} {n : Int} {v : V} (hp : SqT K H p xs) (hn : atI xs n = some v) (h : Q v H) : rIxT K (.ref p) (.int n) H Q := ⟨p, xs, n, v, rfl, rfl, hp, hn, h⟩
end
end Lv

set_option Elab.async false
set_option linter.all false
set_option maxRecDepth 100000
set_option maxHeartbeats 3200000
namespace Lv
open PySem PySem.Spec PyProof.Rows L2 SX
section
variable {P : Program} {w : World} {A : Around} {E : Value → Shared → Prop} {s : Shared} {a : Addr}
set_option maxHeartbeats 6400000 in
theorem call_setListI {l : Addr} {items : Array Value} {ns : List Int} (hl : s.heap.IsList l items) (hx : IntsAre items.toList ns) {Q : Value → Shared → Prop} (hh : A.handled = none) (hb : ns.length + 1 < scanBound)
    (h : ∀ (h' : Heap) (tk c : Nat), c ≤ ns.length → SetR w h' s.heap.objs.size (fun j => decide (j ∈ ns)) c → (∀ b o, s.heap.get? b = some o → h'.get? b = some o) → Q (.ref s.heap.objs.size) { s with heap := h', toks := tk }) :
    wpAny (model P w) A (call (.type "set") [.ref l]) Q E s := by
  obtain ⟨cc, tl, mroE⟩ := F.called_set.mro
  have madeE := F.called_set.made
  have subE := F.called_set.sub
  refine wpAny_call (codeAny_of_tree (show wpAny _ _ (callAny (.type "set") _) _ _ _ from ?_))
  refine wpAny_pure ⟨Code.quiet_builtin _ (by decide +kernel), codeAny_builtin F.entry_type_call ?_⟩
  rw [Around.under_plain (weight_type_call_type "set" [.ref l] []) rfl]
  have c1 := F.called_set.notType
  have c2 := F.called_set.canCreate
  have c3 := F.typeCall_set_1 (.ref l)
  repeat (any_goals (first | assumption | wp_step))

  refine codeAny_mono (code_set_led1 (.ref l) (E := E) (Q₁ := fun obj s₁ => obj = .ref s.heap.objs.size ∧ s₁ = { s with heap := s.heap.push (newSet w) }) ⟨rfl, rfl⟩) fun r s₁ hr => ?_
  cases r with
  | error e => exact hr
  | ok fl =>
    cases fl with
    | ret obj =>
      obtain ⟨rfl, rfl⟩ := hr
      have qS : (s.heap.push (newSet w)).get? s.heap.objs.size = some (newSet w) := Heap.get?_push_size _ rfl
      have qT : Shared.TypeIs { s with heap := s.heap.push (newSet w) } (.ref s.heap.objs.size) "set" := ⟨_, qS, rfl⟩
      have i1 := F.called_set.init.lookup
      have i2 := F.called_set.init.bind (.ref s.heap.objs.size)
      repeat (any_goals (first | assumption | wp_step))

      refine codeAny_mono (codeAny_call_builtin (R := wants (fun r s₂ => r = .none ∧ ∃ h' tk c, s₂ = { s with heap := h', toks := tk } ∧ c ≤ ns.length ∧ SetR w h' s.heap.objs.size (fun j => decide (j ∈ ns)) c ∧
          (∀ b o, s.heap.get? b = some o → h'.get? b = some o)) E) F.called_set.init.plain F.entry_set_init (check_set_init_1 qT ?_)) fun r₂ s₂ hr₂ => ?_
      · have hne : (Value.type "list" == Value.type "dict") = false := by decide
        have hs1 := F.sub_list_set
        have hs2 := F.sub_list_frozenset
        have lst1 := hl.push (newSet w)
        obtain ⟨lo, hlo, hlc, ln, hld⟩ := hl
        obtain ⟨ocls, odict, odata, oslots⟩ := lo
        simp only at hlc hld
        subst hlc; subst hld
        have hlo' : (s.heap.push (newSet w)).get? l = some { cls := .type "list", dict := odict, data := .seq items ln, slots := oslots } := Heap.get?_push_of_some _ hlo
        unfold Builtin.«set.__init__» noKeywords Builtin.Frozenset.updateFrom
        generalize hPI : pyIter = PI
        wp_walk
        subst hPI
        refine wpAny_pyIter_list lst1 ?_
        refine wpAny_bind (wpAny_runValue ?_)
        have sz1 : (s.heap.push (newSet w)).objs.size = s.heap.objs.size + 1 := Heap.size_push ..
        have ltl : l < s.heap.objs.size := Heap.lt_size hlo
        have nel : l ≠ (s.heap.push (newSet w)).objs.size := by rw [sz1]; exact Nat.ne_of_lt (Nat.lt_succ_of_lt ltl)
        have lenE : items.size = ns.length := by rw [← hx.length, Array.length_toList]
        have hh3 : A.in1.in1.in1.handled = none := by simp [hh]
        refine set_update_ints ((Walks.list hh3 _ l nel items).toS) s.heap.objs.size ?_ ns lenE hb ?_ (items.size - 0) 0 _ (by omega) (Nat.zero_le _) ⟨⟨_, Heap.get?_push_size _ rfl, rfl, rfl⟩, lst1.push _⟩ ?_ ?_
        · rw [sz1]
          simp only [List.mem_cons, List.not_mem_nil, or_false, not_or]
          exact ⟨Nat.ne_of_lt (Nat.lt_succ_self _), Nat.ne_of_gt ltl⟩
        · intro i v hv
          have hi : i < ns.length := by rw [← lenE]; exact (Array.getElem?_eq_some_iff.mp hv).1
          obtain ⟨t1, e1⟩ := PyProof.Rows.IntsAre.int_at hx i v (by rw [Array.getElem?_toList]; exact hv)
          refine ⟨ns[i], t1, List.getElem?_eq_getElem hi, ?_⟩
          rw [e1, List.getD_eq_getElem?_getD, List.getElem?_eq_getElem hi]
          rfl
        · exact ⟨0, Nat.le_refl 0, setR_new_at (Heap.get?_push_of_some _ qS)⟩
        · intro s' c1 hm hc1 S1
          obtain ⟨h', g2, d2, tk2, os2⟩ := s'
          have eg : g2 = s.gens := hm.gens
          have ed : d2 = s.drawn := hm.drawn
          have eo : os2 = s.os := hm.os
          subst eg; subst ed; subst eo
          rw [lenE] at hc1
          refine wpAny_pure (show wpAny _ _ (ret Value.none) _ _ _ from wpAny_pure ⟨rfl, h', tk2, c1, rfl, hc1, S1, fun b o e => ?_⟩)
          have lt0 : b < s.heap.objs.size := Heap.lt_size e
          refine hm.heap b o ?_ (Heap.get?_push_of_some _ (Heap.get?_push_of_some _ e))
          rw [sz1]
          simp only [List.mem_cons, List.not_mem_nil, or_false, not_or]
          exact ⟨Nat.ne_of_lt lt0, Nat.ne_of_lt (Nat.lt_succ_of_lt lt0)⟩
      · cases r₂ with
        | error e => exact hr₂
        | ok fl₂ =>
          cases fl₂ with
          | ret r =>
            obtain ⟨rfl, h', tk, c0, rfl, C1, S1, keep1⟩ := hr₂
            repeat (any_goals (first | assumption | wp_step))
            exact h _ _ _ C1 S1 keep1
          | _ => exact hr₂.elim
    | _ => exact hr.elim
end
end Lv

set_option Elab.async false
set_option linter.all false
set_option maxRecDepth 100000
set_option maxHeartbeats 3200000
namespace Lv
open PySem PySem.Spec PyProof.Rows L2 SX
/-! ### sorted(set(list of ints)), any number of them -/
section
variable {P : Program} {w : World} {A : Around} {E : Value → Shared → Prop} {s : Shared} {a : Addr}
theorem sorted_setI {Z : Int → Bool} {n : Nat} {Q : Value → Shared → Prop} (R : SetR w s.heap a Z n) (hh : A.handled = none)
    (hQ : ∀ s' p (out : Array Value) (c : Nat) (ys : List Int), (∀ b o, s.heap.get? b = some o → s'.heap.get? b = some o) → s'.gens = s.gens → s'.os = s.os → s.heap.objs.size ≤ p →
      s'.heap.get? p = some (seqObj "list" out c) → IntsAre out.toList ys → ys.Pairwise (· < ·) → (∀ k, k ∈ ys ↔ Z k = true) → ys.length = n → Q (.ref p) s') :
    wpAny (model P w) A (call (.builtin "sorted") [.ref a]) Q E s := by
  obtain ⟨o, es, ep, t, qo, qx, qd, g, nd, hm, hb, hf, hn, hr, hl⟩ := R
  refine Calls.call_function_entry kind_sorted plain_sorted entry_sorted (args_sorted1 _) ?_
  unfold Builtin.«sorted»
  refine wpAny_bind (m := checkCount "sorted" 1 1 _) (wpAny_pure (wpAny_bind (collect_set (A := A.in1) hh ⟨o, qo, qx.1, qd⟩ hf hb hr hl fun s1 vs k1 z1 g1 o1 pm => ?_)))
  have lenV : vs.length = es.size := by rw [pm.length_eq, List.length_map, Array.length_toList]
  have intV : IntsAre vs (vs.map Builtin.Re.reRawOf) := ints_of vs fun v hv => by
    obtain ⟨e, he, q⟩ := List.mem_map.mp (pm.mem_iff.mp hv)
    obtain ⟨k, tk, h1, _⟩ := g e he
    exact ⟨k, tk, by rw [← q]; exact h1⟩
  have pk : (vs.map Builtin.Re.reRawOf).Perm (es.toList.map keyOf) := by
    have q := pm.map Builtin.Re.reRawOf
    rw [List.map_map] at q
    exact q
  have lenL : vs.length ≤ sizeLine := by
    rw [lenV, sizeLine_eq]
    have : es.size < scanBound := hb
    unfold scanBound at this
    omega
  refine wpAny_bind (wpAny_newList ?_ lenL)
  have qL : (s1.heap.push (seqObj "list" vs.toArray 0)).get? s1.heap.objs.size = some (seqObj "list" vs.toArray 0) := Heap.get?_push_size _ rfl
  refine wpAny_bind (wpAny_holding (wpAny_call_entry slot_list_sort ⟨_, qL, rfl⟩ entry_list_sort (SrtO.list_sort_ord SrtO.swo_int qL lenL (fun h2 => SrtO.ints_sortable intV h2) fun out hs hp => ⟨_, rfl, ?_⟩) (args_list_sort _)))
  obtain ⟨a1, a2, a3⟩ := SrtO.ints_out intV hs hp
  obtain ⟨c, hc⟩ := sortedHeap_at (vs := vs) (out := out.toArray) qL
  have pn : (out.map SrtO.iv).Perm (es.toList.map keyOf) := a2.trans pk
  refine wpAny_pure ⟨_, rfl, hQ _ s1.heap.objs.size _ c (out.map SrtO.iv) (fun b u e => ?_) g1 o1 z1 hc (by simpa using a1) (lt_of_le_nodup _ a3 (pn.nodup_iff.mpr nd)) (fun k => by rw [pn.mem_iff, ← hm k]) (by rw [pn.length_eq, List.length_map, Array.length_toList]; exact hn)⟩
  have q := k1 b u e
  have lt1 := Heap.lt_size q
  show (sortedHeap (s1.heap.push (seqObj "list" vs.toArray 0)) s1.heap.objs.size vs _).get? b = some u
  rw [sortedHeap_old (Nat.ne_of_lt lt1) (by rw [size_push']; exact Nat.lt_succ_of_lt lt1)]
  exact Heap.get?_push_of_some _ q
end
/-- the unlike ints of a list, rising -/
def tSortSetI (K : PySem.W.Frag) (ta : TA) : TE := fun σ H Q => ta σ H fun xs H1 => ∃ (a : Addr) (ns : List Int), xs = [.ref a] ∧ SqL K H1 a (ns.map V.int) ∧ ns.length ≤ 1000 ∧ ∀ (ys : List Int) (p : Addr), ys.Pairwise (· < ·) → (∀ c, c ∈ ys ↔ c ∈ ns) → H1 p = none → Q (.ref p) (upd H1 p (.lst (ys.map V.int)))
theorem i_sortSetI {K : PySem.W.Frag} {σ : L2.St} {H : Hp} {Q : VK} {ta : TA} (h : ta σ H fun xs H1 => ∃ (a : Addr) (ns : List Int), xs = [.ref a] ∧ SqL K H1 a (ns.map V.int) ∧ ns.length ≤ 1000 ∧ ∀ (ys : List Int) (p : Addr), ys.Pairwise (· < ·) → (∀ c, c ∈ ys ↔ c ∈ ns) → H1 p = none → Q (.ref p) (upd H1 p (.lst (ys.map V.int)))) : tSortSetI K ta σ H Q := h
section
variable {X : Cx} {e : Expr} {ta : TA} {p1 p2 pos pos2 : Pos}
theorem pe_sortSetI (hc : X.calm = true) (hg1 : Gl X "sorted") (hm1 : X.mg "sorted" = none) (hg2 : Gl X "set") (hm2 : X.mg "set" = none) (ha : PA X [e] ta)
    (hs : starEach [e] X.env = [(false, eval e X.env)] := by rfl) (hs2 : starEach [.Call (.Name "set" p2) [e] [] pos2] X.env = [(false, eval (.Call (.Name "set" p2) [e] [] pos2) X.env)] := by rfl) :
    PE X (.Call (.Name "sorted" p1) [.Call (.Name "set" p2) [e] [] pos2] [] pos) (tSortSetI X.K ta) := by
  refine ⟨fun pins s σ H Q I h => ?_⟩
  refine wpAny_Call_Name_kw (ld_blt I hg1 hm1 (by decide +kernel : bootBuiltins "sorted" = some (.builtin "sorted")) ?_)
  refine callWith_builtin1 ?_ hs2 rfl
  rw [hs2]
  refine Calls.spliced_cons ?_
  refine wpAny_Call_Name_kw (ld_blt I hg2 hm2 boot_set (callWith_type1 (thn (ha.run pos2 pins s σ H _ I h) fun us s1 ⟨vs, H1, I1, r1, q1⟩ => ?_) hs rfl))
  obtain ⟨lp, ns, rfl, hq1, hl, q⟩ := q1
  cases r1 with
  | cons r rr =>
    cases rr
    cases r
    have hd := I1.ok.hd hc
    obtain ⟨its, rv, pt, hz0⟩ := I1.list hq1
    have st2 : IntsAre its.toArray.toList ns := by
      have := rv.ints
      simpa using this
    have pt2 : s1.heap.IsList lp its.toArray := pt.isList
    refine call_setListI pt2 st2 hd (by unfold scanBound; omega) fun h' tk c0 hc0 R1 keep => ?_
    refine Calls.spliced_nil ?_
    refine sorted_setI (s := { s1 with heap := h', toks := tk }) R1 hd fun s' p out c ys k g o hp hq hi hs3 hm hle => ?_
    have lenZ : (ys.map V.int).length ≤ sizeLine := by
      rw [List.length_map]
      exact le_line (by omega)
    have k' : ∀ b u, s1.heap.get? b = some u → s'.heap.get? b = some u := fun b u e => k b u (keep b u e)
    have hp' : s1.heap.objs.size ≤ p := Nat.le_trans (Nat.le_of_lt R1.lt) hp
    have hn1 : H1 p = none := I1.hok.fresh hp'
    have J : Inv X pins σ (upd H1 p (.lst (ys.map V.int))) { s1 with heap := s'.heap, gens := s'.gens, drawn := s'.drawn, toks := s'.toks } :=
      I1.call (ch := []) (Un.laid k' hp' hn1) (I1.hok.laid k' hp' ⟨lenZ, out.toList, c, vals_of_ints hi, hq⟩) (by rw [g]; exact I1.bare) (fun _ z => nomatch z)
    have es : s' = { s1 with heap := s'.heap, gens := s'.gens, drawn := s'.drawn, toks := s'.toks } := by
      cases s'
      cases o
      rfl
    rw [es]
    refine ⟨.ref p, _, J, rfl, q ys p hs3 (fun j => ?_) hn1⟩
    rw [hm j, decide_eq_true_iff]
end
end Lv

set_option Elab.async false
set_option linter.all false
namespace Lv
/-- in how many ways m is left of l -/
def W : List Nat → List Nat → Nat
  | _, [] => 1
  | [], _ :: _ => 0
  | c :: l, d :: m => W l (d :: m) + (if c = d then W l m else 0)
theorem W_nil (l : List Nat) : W l [] = 1 := by cases l <;> rfl
theorem W_cons (c : Nat) (l : List Nat) (d : Nat) (m : List Nat) : W (c :: l) (d :: m) = W l (d :: m) + (if c = d then W l m else 0) := rfl
theorem W_nilc (d : Nat) (m : List Nat) : W [] (d :: m) = 0 := rfl
/-- the last letters -/
theorem W_snoc (c d : Nat) : ∀ (l m : List Nat), W (l ++ [c]) (m ++ [d]) = W l (m ++ [d]) + (if c = d then W l m else 0)
  | [], [] => by
    show W [] [d] + (if c = d then W [] [] else 0) = _
    rfl
  | [], e :: m => by
    show W [] (e :: (m ++ [d])) + (if c = e then W [] (m ++ [d]) else 0) = 0 + (if c = d then W [] (e :: m) else 0)
    have h1 : W [] (m ++ [d]) = 0 := by cases m <;> rfl
    rw [h1, W_nilc, W_nilc]
    simp
  | a :: l, [] => by
    show W (l ++ [c]) [d] + (if a = d then W (l ++ [c]) [] else 0) = W l [d] + (if a = d then W l [] else 0) + (if c = d then W (a :: l) [] else 0)
    have := W_snoc c d l []
    rw [List.nil_append] at this
    rw [this, W_nil, W_nil, W_nil]
    omega
  | a :: l, e :: m => by
    show W (l ++ [c]) (e :: (m ++ [d])) + (if a = e then W (l ++ [c]) (m ++ [d]) else 0) = W l (e :: (m ++ [d])) + (if a = e then W l (m ++ [d]) else 0) + (if c = d then (W l (e :: m) + (if a = e then W l m else 0)) else 0)
    have h1 := W_snoc c d l (e :: m)
    have h2 := W_snoc c d l m
    rw [List.cons_append] at h1
    rw [h1, h2]
    by_cases x : c = d <;> by_cases y : a = e <;> simp [x, y] <;> omega
theorem W_drop {l m : List Nat} {i j c d : Nat} (hi : l[i]? = some c) (hj : m[j]? = some d) : W (l.drop i) (m.drop j) = W (l.drop (i + 1)) (m.drop j) + (if c = d then W (l.drop (i + 1)) (m.drop (j + 1)) else 0) := by
  obtain ⟨h1, e1⟩ := List.getElem?_eq_some_iff.mp hi
  obtain ⟨h2, e2⟩ := List.getElem?_eq_some_iff.mp hj
  rw [List.drop_eq_getElem_cons h1, List.drop_eq_getElem_cons h2, e1, e2, W_cons]
theorem W_take {l m : List Nat} {i j c d : Nat} (hi : l[i]? = some c) (hj : m[j]? = some d) : W (l.take (i + 1)) (m.take (j + 1)) = W (l.take i) (m.take (j + 1)) + (if c = d then W (l.take i) (m.take j) else 0) := by
  rw [List.take_add_one, List.take_add_one, hi, hj]
  show W (l.take i ++ [c]) (m.take j ++ [d]) = _
  rw [W_snoc]
  rfl
def wrow (l m : List Nat) : List Int := (List.range (m.length + 1)).map fun a => ((W l (m.drop a) : Nat) : Int)
theorem wrow_length (l m : List Nat) : (wrow l m).length = m.length + 1 := by simp [wrow]
theorem wrow_get (l m : List Nat) {a : Nat} (h : a ≤ m.length) : (wrow l m)[a]? = some ((W l (m.drop a) : Nat) : Int) := by
  unfold wrow
  rw [List.getElem?_map, List.getElem?_range (by omega)]
  rfl
/-- behind j places -/
def prow (l m : List Nat) (j : Nat) : List Int := (List.range (m.length + 1)).map fun a => ((if a < j then W l (m.drop a) else W [] (m.drop a) : Nat) : Int)
theorem prow_zero (l m : List Nat) : prow l m 0 = wrow [] m := by
  unfold prow wrow
  refine List.map_congr_left fun a _ => ?_
  simp
theorem prow_last (l m : List Nat) : prow l m m.length = wrow l m := by
  unfold prow wrow
  refine List.map_congr_left fun a ha => ?_
  have := List.mem_range.mp ha
  by_cases h : a < m.length
  · rw [if_pos h]
  · have e : a = m.length := by omega
    rw [if_neg h, e, List.drop_length, W_nil, W_nil]
theorem prow_length (l m : List Nat) (j : Nat) : (prow l m j).length = m.length + 1 := by simp [prow]
theorem prow_set (l m : List Nat) (j : Nat) (hj : j < m.length) : (prow l m j).set j ((W l (m.drop j) : Nat) : Int) = prow l m (j + 1) := by
  apply List.ext_getElem?
  intro a
  rw [List.getElem?_set]
  by_cases ha : a < m.length + 1
  · unfold prow
    rw [List.getElem?_map, List.getElem?_map, List.getElem?_range ha]
    by_cases e : j = a
    · subst e
      rw [if_pos rfl, if_pos (by simp; omega)]
      simp
    · rw [if_neg e]
      dsimp only [Option.map_some]
      by_cases h : a < j
      · rw [if_pos h, if_pos (by omega)]
      · rw [if_neg h, if_neg (by omega)]
  · have h1 : (prow l m j)[a]? = none := List.getElem?_eq_none (by rw [prow_length]; omega)
    have h2 : (prow l m (j + 1))[a]? = none := List.getElem?_eq_none (by rw [prow_length]; omega)
    rw [h1, h2]
    split
    · omega
    · rfl
theorem wrow_init (m : List Nat) : List.replicate m.length (0 : Int) ++ [1] = wrow [] m := by
  apply List.ext_getElem?
  intro a
  by_cases h : a < m.length
  · rw [List.getElem?_append_left (by simpa using h), wrow_get [] m (by omega), List.getElem?_replicate, if_pos h]
    have : W [] (m.drop a) = 0 := by
      rw [List.drop_eq_getElem_cons h]
      rfl
    rw [this]
    rfl
  · rw [List.getElem?_append_right (by simpa using Nat.le_of_not_lt h), List.length_replicate]
    by_cases e : a = m.length
    · subst e
      rw [wrow_get [] m (Nat.le_refl _), List.drop_length, Nat.sub_self]
      rfl
    · rw [List.getElem?_eq_none (by simp; omega), List.getElem?_eq_none (by rw [wrow_length]; omega)]
/-- forwards -/
def frow (l m : List Nat) : List Int := (List.range (m.length + 1)).map fun a => ((W l (m.take a) : Nat) : Int)
theorem frow_length (l m : List Nat) : (frow l m).length = m.length + 1 := by simp [frow]
theorem frow_get (l m : List Nat) {a : Nat} (h : a ≤ m.length) : (frow l m)[a]? = some ((W l (m.take a) : Nat) : Int) := by
  unfold frow
  rw [List.getElem?_map, List.getElem?_range (by omega)]
  rfl
/-- behind j places -/
def qrow (l l' m : List Nat) (j : Nat) : List Int := (List.range (m.length + 1)).map fun a => ((if a ≤ j then W l (m.take a) else W l' (m.take a) : Nat) : Int)
theorem qrow_zero (l l' m : List Nat) : qrow l l' m 0 = frow l' m := by
  unfold qrow frow
  refine List.map_congr_left fun a _ => ?_
  by_cases h : a ≤ 0
  · have : a = 0 := by omega
    subst this
    simp [W_nil]
  · rw [if_neg h]
theorem qrow_last (l l' m : List Nat) : qrow l l' m m.length = frow l m := by
  unfold qrow frow
  refine List.map_congr_left fun a ha => ?_
  have := List.mem_range.mp ha
  rw [if_pos (by omega)]
theorem qrow_length (l l' m : List Nat) (j : Nat) : (qrow l l' m j).length = m.length + 1 := by simp [qrow]
theorem qrow_get (l l' m : List Nat) {j a : Nat} (h : a ≤ m.length) : (qrow l l' m j)[a]? = some ((if a ≤ j then W l (m.take a) else W l' (m.take a) : Nat) : Int) := by
  unfold qrow
  rw [List.getElem?_map, List.getElem?_range (by omega)]
  rfl
theorem qrow_set (l l' m : List Nat) (j : Nat) (hj : j < m.length) : (qrow l l' m j).set (j + 1) ((W l (m.take (j + 1)) : Nat) : Int) = qrow l l' m (j + 1) := by
  apply List.ext_getElem?
  intro a
  rw [List.getElem?_set]
  by_cases ha : a ≤ m.length
  · rw [qrow_get _ _ _ ha, qrow_get _ _ _ ha]
    by_cases e : j + 1 = a
    · subst e
      rw [if_pos rfl, if_pos (by rw [qrow_length]; omega), if_pos (Nat.le_refl _)]
    · rw [if_neg e]
      by_cases h : a ≤ j
      · rw [if_pos h, if_pos (by omega)]
      · rw [if_neg h, if_neg (by omega)]
  · have h1 : (qrow l l' m j)[a]? = none := List.getElem?_eq_none (by rw [qrow_length]; omega)
    have h2 : (qrow l l' m (j + 1))[a]? = none := List.getElem?_eq_none (by rw [qrow_length]; omega)
    rw [h1, h2]
    split
    · rw [qrow_length] at *
      split <;> omega
    · rfl
theorem qrow_keep (l l' m : List Nat) (j : Nat) (hj : j < m.length) (e : W l (m.take (j + 1)) = W l' (m.take (j + 1))) : qrow l l' m (j + 1) = qrow l l' m j := by
  unfold qrow
  refine List.map_congr_left fun a ha => ?_
  by_cases h : a ≤ j
  · rw [if_pos h, if_pos (by omega)]
  · by_cases h2 : a = j + 1
    · subst h2
      rw [if_pos (Nat.le_refl _), if_neg h, e]
    · rw [if_neg h, if_neg (by omega)]
theorem frow_init (m : List Nat) : (1 : Int) :: List.replicate m.length 0 = frow [] m := by
  apply List.ext_getElem?
  intro a
  cases a with
  | zero =>
    rw [frow_get [] m (Nat.zero_le _)]
    rfl
  | succ a =>
    rw [List.getElem?_cons_succ, List.getElem?_replicate]
    by_cases h : a < m.length
    · rw [if_pos h, frow_get [] m (by omega)]
      have : W [] (m.take (a + 1)) = 0 := by
        cases m with
        | nil => simp at h
        | cons x m => rfl
      rw [this]
      rfl
    · rw [if_neg h, List.getElem?_eq_none (by rw [frow_length]; omega)]
end Lv

set_option linter.all false
namespace Lv
/-! first places: greedy -/
theorem nextP_here {l : List Nat} {i c : Nat} (h : l[i]? = some c) : nextP l i c = some i := nextP_some.mpr ⟨Nat.le_refl _, h, fun j h1 h2 => by omega⟩
theorem nextP_skip {l : List Nat} {i c d : Nat} (h : l[i]? = some d) (n : d ≠ c) : nextP l i c = nextP l (i + 1) c := by
  cases e : nextP l (i + 1) c with
  | none =>
    rw [nextP_none] at e ⊢
    intro j hj z
    rcases Nat.eq_or_lt_of_le hj with q | q
    · subst q; rw [h] at z; exact n (Option.some.inj z)
    · exact e j q z
  | some k =>
    rw [nextP_some] at e ⊢
    refine ⟨by omega, e.2.1, fun j h1 h2 z => ?_⟩
    rcases Nat.eq_or_lt_of_le h1 with q | q
    · subst q; rw [h] at z; exact n (Option.some.inj z)
    · exact e.2.2 j q h2 z
theorem nextP_end {l : List Nat} {i c : Nat} (h : l.length ≤ i) : nextP l i c = none := nextP_none.mpr fun j hj z => by
  rw [List.getElem?_eq_none (by omega)] at z; cases z
theorem nextP_lt {l : List Nat} {i c k : Nat} (h : nextP l i c = some k) : i ≤ k ∧ k < l.length := by
  have := nextP_some.mp h
  refine ⟨this.1, ?_⟩
  exact (List.getElem?_eq_some_iff.mp this.2.1).1
def fp (l : List Nat) : Nat → List Nat → Option (List Nat)
  | _, [] => some []
  | i, c :: m => match nextP l i c with
    | none => none
    | some k => (fp l (k + 1) m).map (k :: ·)
theorem fp_nil (l : List Nat) (i : Nat) : fp l i [] = some [] := rfl
theorem fp_none {l : List Nat} {i c : Nat} (m : List Nat) (h : nextP l i c = none) : fp l i (c :: m) = none := by rw [fp, h]
theorem fp_some {l : List Nat} {i c k : Nat} (m : List Nat) (h : nextP l i c = some k) : fp l i (c :: m) = (fp l (k + 1) m).map (k :: ·) := by rw [fp, h]
theorem fp_eq {l : List Nat} {i c : Nat} (m : List Nat) (h : l[i]? = some c) : fp l i (c :: m) = (fp l (i + 1) m).map (i :: ·) := fp_some m (nextP_here h)
theorem fp_ne {l : List Nat} {i c d : Nat} (m : List Nat) (h : l[i]? = some d) (n : d ≠ c) : fp l i (c :: m) = fp l (i + 1) (c :: m) := by
  rw [fp, fp, nextP_skip h n]
theorem fp_end {l : List Nat} {i c : Nat} (m : List Nat) (h : l.length ≤ i) : fp l i (c :: m) = none := fp_none m (nextP_end h)
theorem drop_at {l : List Nat} {i : Nat} (h : i < l.length) : ∃ c, l[i]? = some c ∧ l.drop i = c :: l.drop (i + 1) := ⟨l[i], List.getElem?_eq_getElem h, List.drop_eq_getElem_cons h⟩
/-- just where the row is left -/
theorem fp_left (l : List Nat) : ∀ (n i : Nat) (m : List Nat), l.length - i = n → ((fp l i m).isSome ↔ m.Sublist (l.drop i))
  | 0, i, m, e => by
    cases m with
    | nil => simp [fp_nil]
    | cons c m =>
      rw [fp_end m (by omega), List.drop_of_length_le (by omega)]
      simp
  | n + 1, i, m, e => by
    cases m with
    | nil => simp [fp_nil]
    | cons c m =>
      obtain ⟨d, hd, ed⟩ := drop_at (l := l) (i := i) (by omega)
      rw [ed]
      by_cases z : d = c
      · subst z
        rw [fp_eq m hd, Option.isSome_map, fp_left l n (i + 1) m (by omega), List.cons_sublist_cons]
      · rw [fp_ne m hd z, fp_left l n (i + 1) (c :: m) (by omega)]
        constructor
        · exact fun h => h.cons _
        · intro h
          cases h with
          | cons _ h => exact h
          | cons_cons => exact absurd rfl z
theorem fp0 (l m : List Nat) : (fp l 0 m).isSome ↔ m.Sublist l := fp_left l _ 0 m rfl
theorem fp_length (l : List Nat) : ∀ (m : List Nat) (i : Nat) (ps : List Nat), fp l i m = some ps → ps.length = m.length
  | [], i, ps, h => by rw [fp_nil] at h; cases h; rfl
  | c :: m, i, ps, h => by
    cases e : nextP l i c with
    | none => rw [fp_none m e] at h; cases h
    | some k =>
      rw [fp_some m e] at h
      cases e2 : fp l (k + 1) m with
      | none => rw [e2] at h; cases h
      | some qs =>
        rw [e2] at h
        cases h
        simp [fp_length l m (k + 1) qs e2]
/-- rising, in the row, spelling -/
theorem fp_spell (l : List Nat) : ∀ (m : List Nat) (i : Nat) (ps : List Nat), fp l i m = some ps → ps.Pairwise (· < ·) ∧ (∀ p ∈ ps, i ≤ p ∧ p < l.length) ∧ ∀ (j p : Nat), ps[j]? = some p → l[p]? = m[j]?
  | [], i, ps, h => by rw [fp_nil] at h; cases h; simp
  | c :: m, i, ps, h => by
    cases e : nextP l i c with
    | none => rw [fp_none m e] at h; cases h
    | some k =>
      rw [fp_some m e] at h
      cases e2 : fp l (k + 1) m with
      | none => rw [e2] at h; cases h
      | some qs =>
        rw [e2] at h
        cases h
        obtain ⟨h1, h2, h3⟩ := fp_spell l m (k + 1) qs e2
        have hk := nextP_lt e
        refine ⟨List.pairwise_cons.mpr ⟨fun p hp => by have := (h2 p hp).1; omega, h1⟩, fun p hp => ?_, fun j p hj => ?_⟩
        · rcases List.mem_cons.mp hp with z | z
          · rw [z]; exact hk
          · have := h2 p z; omega
        · cases j with
          | zero =>
            have : k = p := Option.some.inj hj
            rw [← this, (nextP_some.mp e).2.1]
            rfl
          | succ j => exact h3 j p hj
theorem sub_snoc {l m : List Nat} {i c : Nat} (h : m.Sublist (l.take i)) (hc : l[i]? = some c) : (m ++ [c]).Sublist (l.take (i + 1)) := by
  rw [List.take_add_one, hc]
  exact h.append (List.Sublist.refl _)
theorem sub_skip {l m : List Nat} {i : Nat} (h : m.Sublist (l.take i)) : m.Sublist (l.take (i + 1)) := h.trans (List.take_sublist_take_left (by omega))
/-- last places -/
def lp (l m : List Nat) : Option (List Nat) := (fp l.reverse 0 m.reverse).map fun ps => ps.reverse.map fun k => l.length - 1 - k
theorem lp_left (l m : List Nat) : (lp l m).isSome ↔ m.Sublist l := by
  rw [lp, Option.isSome_map, fp0, List.reverse_sublist]
end Lv

set_option linter.all false
namespace Lv
open PySem PySem.Spec PyProof.Rows L2 SX
/-! the ways in order -/
theorem W_sub : ∀ (l m : List Nat), 0 < W l m ↔ m.Sublist l
  | l, [] => by rw [W_nil]; simp
  | [], d :: m => by rw [W_nilc]; simp
  | c :: l, d :: m => by
    rw [W_cons]
    have h1 := W_sub l (d :: m)
    have h2 := W_sub l m
    by_cases z : c = d
    · subst z
      rw [if_pos rfl, List.cons_sublist_cons, ← h2]
      constructor
      · intro h
        rcases Nat.eq_zero_or_pos (W l m) with q | q
        · have : 0 < W l (c :: m) := by omega
          have s1 := h1.mp this
          exact h2.mpr ((List.sublist_cons_self c m).trans s1)
        · exact q
      · intro h; omega
    · rw [if_neg z, Nat.add_zero, h1]
      constructor
      · exact fun h => h.cons _
      · intro h
        cases h with
        | cons _ h => exact h
        | cons_cons => exact absurd rfl z
theorem W_tail {l m : List Nat} {d : Nat} (h : 0 < W l (d :: m)) : 0 < W l m := (W_sub l m).mpr ((List.sublist_cons_self d m).trans ((W_sub l _).mp h))
theorem W_long (l m : List Nat) (h : l.length < m.length) : W l m = 0 := by
  rcases Nat.eq_zero_or_pos (W l m) with q | q
  · exact q
  · have := ((W_sub l m).mp q).length_le
    omega
theorem W_self : ∀ l : List Nat, W l l = 1
  | [] => rfl
  | c :: l => by rw [W_cons, if_pos rfl, W_self l, W_long l (c :: l) (by simp)]
theorem W_one : ∀ (l : List Nat) (c : Nat), W l [c] = l.count c
  | [], c => rfl
  | d :: l, c => by
    rw [W_cons, W_one l c, W_nil]
    by_cases z : d = c
    · subst z; rw [if_pos rfl, List.count_cons_self]
    · rw [if_neg z, List.count_cons_of_ne z]; rfl
theorem W_rev : ∀ (l m : List Nat), W l.reverse m.reverse = W l m
  | l, [] => by rw [List.reverse_nil, W_nil, W_nil]
  | [], d :: m => by
    rw [List.reverse_nil, W_nilc]
    exact W_long _ _ (by simp)
  | c :: l, d :: m => by
    rw [List.reverse_cons, List.reverse_cons, W_snoc, W_cons, ← List.reverse_cons, W_rev l (d :: m), W_rev l m]
theorem W_le : ∀ (l m : List Nat), W l m ≤ 2 ^ l.length
  | l, [] => by rw [W_nil]; exact Nat.one_le_two_pow
  | [], d :: m => by rw [W_nilc]; exact Nat.zero_le _
  | c :: l, d :: m => by
    have h1 := W_le l (d :: m)
    have h2 := W_le l m
    rw [W_cons, List.length_cons, Nat.pow_succ]
    split <;> omega
theorem W_lt64 {l : List Nat} (m : List Nat) (h : l.length ≤ 60) : W l m < 2 ^ 64 := Nat.lt_of_le_of_lt (W_le l m) (Nat.lt_of_le_of_lt (Nat.pow_le_pow_right (by decide) h) (by decide))
/-- Σ over the places where the other row is parted -/
def parted (a b m : List Nat) (j : Nat) : Nat := ((List.range j).map fun k => W a (m.take k) * W b (m.drop k)).sum
theorem parted_succ (a b m : List Nat) (j : Nat) : parted a b m (j + 1) = parted a b m j + W a (m.take j) * W b (m.drop j) := by
  simp [parted, List.range_succ]
theorem parted_all : ∀ (a b m : List Nat), parted a b m (m.length + 1) = W (a ++ b) m
  | [], b, m => by
    have : ∀ j, j ≤ m.length → parted [] b m (j + 1) = W b m := by
      intro j
      induction j with
      | zero => intro _; simp [parted, W_nil]
      | succ j ih =>
        intro h
        rw [parted_succ, ih (by omega)]
        cases e : m.take (j + 1) with
        | nil =>
          have t1 : (m.take (j + 1)).length = j + 1 := by rw [List.length_take]; omega
          rw [e] at t1
          simp at t1
        | cons x t => rw [W_nilc, Nat.zero_mul, Nat.add_zero]
    exact this m.length (Nat.le_refl _)
  | c :: a, b, [] => by simp [parted, W_nil]
  | c :: a, b, d :: m => by
    have ih1 := parted_all a b (d :: m)
    have ih2 := parted_all a b m
    rw [List.cons_append, W_cons, ← ih1, ← ih2]
    have gen : ∀ j, parted (c :: a) b (d :: m) (j + 1) = parted a b (d :: m) (j + 1) + (if c = d then parted a b m j else 0) := by
      intro j
      induction j with
      | zero => simp [parted, W_nil]
      | succ j ih =>
        rw [parted_succ, ih, parted_succ a b (d :: m) (j + 1), parted_succ a b m j, List.take_succ_cons, List.drop_succ_cons, W_cons, Nat.add_mul]
        by_cases z : c = d
        · simp only [if_pos z]; omega
        · simp only [if_neg z]; omega
    exact gen (m.length + 1)
/-- the way at a place -/
def wayAt : List Nat → List Nat → Nat → Nat → List Nat
  | _, [], _, _ => []
  | [], _ :: _, _, _ => []
  | c :: l, d :: m, p, h => if c = d then (if p < W l m then h :: wayAt l m p (h + 1) else wayAt l (d :: m) (p - W l m) (h + 1)) else wayAt l (d :: m) p (h + 1)
theorem wayAt_nil (l : List Nat) (p h : Nat) : wayAt l [] p h = [] := by cases l <;> rfl
theorem wayAt_take {c : Nat} {l m : List Nat} {p h : Nat} (hp : p < W l m) : wayAt (c :: l) (c :: m) p h = h :: wayAt l m p (h + 1) := by rw [wayAt, if_pos rfl, if_pos hp]
theorem wayAt_pass {c : Nat} {l m : List Nat} {p h : Nat} (hp : ¬ p < W l m) : wayAt (c :: l) (c :: m) p h = wayAt l (c :: m) (p - W l m) (h + 1) := by rw [wayAt, if_pos rfl, if_neg hp]
theorem wayAt_skip {c d : Nat} {l m : List Nat} {p h : Nat} (n : c ≠ d) : wayAt (c :: l) (d :: m) p h = wayAt l (d :: m) p (h + 1) := by rw [wayAt, if_neg n]
theorem wayAt_ge : ∀ (l m : List Nat) (p h : Nat), ∀ x ∈ wayAt l m p h, h ≤ x
  | l, [], p, h => by rw [wayAt_nil]; simp
  | [], _ :: _, p, h => by simp [wayAt]
  | c :: l, d :: m, p, h => by
    intro x hx
    by_cases z : c = d
    · subst z
      by_cases y : p < W l m
      · rw [wayAt_take y] at hx
        rcases List.mem_cons.mp hx with q | q
        · omega
        · have := wayAt_ge l m p (h + 1) x q; omega
      · rw [wayAt_pass y] at hx
        have := wayAt_ge l (c :: m) _ (h + 1) x hx; omega
    · rw [wayAt_skip z] at hx
      have := wayAt_ge l (d :: m) _ (h + 1) x hx; omega
theorem wayAt_len : ∀ (l m : List Nat) (p h : Nat), p < W l m → (wayAt l m p h).length = m.length
  | l, [], p, h, _ => by rw [wayAt_nil]
  | [], d :: m, p, h, hp => by rw [W_nilc] at hp; omega
  | c :: l, d :: m, p, h, hp => by
    rw [W_cons] at hp
    by_cases z : c = d
    · subst z
      rw [if_pos rfl] at hp
      by_cases y : p < W l m
      · rw [wayAt_take y, List.length_cons, wayAt_len l m p _ y, List.length_cons]
      · rw [wayAt_pass y]
        exact wayAt_len l (c :: m) _ _ (by omega)
    · rw [if_neg z, Nat.add_zero] at hp
      rw [wayAt_skip z]
      exact wayAt_len l (d :: m) _ _ hp
def toI (l : List Nat) : List Int := l.map fun k : Nat => (k : Int)
theorem wayAt_mono : ∀ (l m : List Nat) (p q h : Nat), p < q → q < W l m → HT.lexLt (toI (wayAt l m p h)) (toI (wayAt l m q h)) = true
  | l, [], p, q, h, h1, h2 => by rw [W_nil] at h2; omega
  | [], d :: m, p, q, h, h1, h2 => by rw [W_nilc] at h2; omega
  | c :: l, d :: m, p, q, h, h1, h2 => by
    rw [W_cons] at h2
    by_cases z : c = d
    · subst z
      rw [if_pos rfl] at h2
      by_cases y : q < W l m
      · rw [wayAt_take y, wayAt_take (by omega)]
        have ih := wayAt_mono l m p q (h + 1) h1 y
        show HT.lexLt ((h : Int) :: toI _) ((h : Int) :: toI _) = true
        rw [HT.lexLt_cons, if_pos rfl]
        exact ih
      · by_cases y2 : p < W l m
        · rw [wayAt_take y2, wayAt_pass y]
          have hl := wayAt_len l (c :: m) (q - W l m) (h + 1) (by omega)
          have hg := wayAt_ge l (c :: m) (q - W l m) (h + 1)
          cases e : wayAt l (c :: m) (q - W l m) (h + 1) with
          | nil => rw [e] at hl; simp at hl
          | cons x t =>
            rw [e] at hg
            have hx := hg x (List.mem_cons_self ..)
            show HT.lexLt ((h : Int) :: toI _) ((x : Int) :: toI _) = true
            rw [HT.lexLt_cons, if_neg (by omega)]
            exact decide_eq_true (by omega)
        · rw [wayAt_pass y, wayAt_pass y2]
          exact wayAt_mono l (c :: m) _ _ _ (by omega) (by omega)
    · rw [if_neg z, Nat.add_zero] at h2
      rw [wayAt_skip z, wayAt_skip z]
      exact wayAt_mono l (d :: m) _ _ _ h1 h2
/-- rising, within the row, spelling -/
theorem wayAt_spell : ∀ (l m : List Nat) (p h : Nat), p < W l m → (wayAt l m p h).Pairwise (· < ·) ∧ (∀ x ∈ wayAt l m p h, h ≤ x ∧ x < h + l.length) ∧ ∀ (j x : Nat), (wayAt l m p h)[j]? = some x → l[x - h]? = m[j]?
  | l, [], p, h, _ => by rw [wayAt_nil]; simp
  | [], d :: m, p, h, hp => by rw [W_nilc] at hp; omega
  | c :: l, d :: m, p, h, hp => by
    have pass : ∀ q, q < W l (d :: m) → wayAt (c :: l) (d :: m) p h = wayAt l (d :: m) q (h + 1) → (wayAt (c :: l) (d :: m) p h).Pairwise (· < ·) ∧ (∀ x ∈ wayAt (c :: l) (d :: m) p h, h ≤ x ∧ x < h + (c :: l).length) ∧ ∀ (j x : Nat), (wayAt (c :: l) (d :: m) p h)[j]? = some x → (c :: l)[x - h]? = (d :: m)[j]? := fun q hq e => by
      obtain ⟨i1, i2, i3⟩ := wayAt_spell l (d :: m) q (h + 1) hq
      rw [e]
      refine ⟨i1, fun x hx => ?_, fun j x hj => ?_⟩
      · have := i2 x hx
        rw [List.length_cons]; omega
      · have h1 := i2 x (List.mem_of_getElem? hj)
        have h2 := i3 j x hj
        rw [show x - h = (x - (h + 1)) + 1 by omega, List.getElem?_cons_succ]
        exact h2
    rw [W_cons] at hp
    by_cases z : c = d
    · subst z
      rw [if_pos rfl] at hp
      by_cases y : p < W l m
      · obtain ⟨i1, i2, i3⟩ := wayAt_spell l m p (h + 1) y
        rw [wayAt_take y]
        refine ⟨List.pairwise_cons.mpr ⟨fun x hx => (i2 x hx).1, i1⟩, fun x hx => ?_, fun j x hj => ?_⟩
        · rw [List.length_cons]
          rcases List.mem_cons.mp hx with q | q
          · omega
          · have := i2 x q; omega
        · cases j with
          | zero =>
            have : h = x := Option.some.inj hj
            rw [← this, Nat.sub_self]; rfl
          | succ j =>
            have hj' : (wayAt l m p (h + 1))[j]? = some x := hj
            have h1 := i2 x (List.mem_of_getElem? hj')
            rw [show x - h = (x - (h + 1)) + 1 by omega, List.getElem?_cons_succ, List.getElem?_cons_succ]
            exact i3 j x hj'
      · exact pass (p - W l m) (by omega) (wayAt_pass y)
    · rw [if_neg z, Nat.add_zero] at hp
      exact pass p hp (wayAt_skip z)
/-- what stands at the head: passed or taken -/
theorem wayAt_head {c d : Nat} {l m : List Nat} {p h x : Nat} {t : List Nat} (hp : p < W (c :: l) (d :: m)) (e : wayAt (c :: l) (d :: m) p h = x :: t) :
    (x = h ∧ c = d ∧ p < W l m ∧ t = wayAt l m p (h + 1)) ∨ (h < x ∧ (if c = d then W l m else 0) ≤ p ∧ p - (if c = d then W l m else 0) < W l (d :: m) ∧ wayAt l (d :: m) (p - (if c = d then W l m else 0)) (h + 1) = x :: t) := by
  rw [W_cons] at hp
  by_cases z : c = d
  · subst z
    rw [if_pos rfl] at hp ⊢
    by_cases y : p < W l m
    · rw [wayAt_take y] at e
      injection e with e1 e2
      exact .inl ⟨e1.symm, rfl, y, e2.symm⟩
    · rw [wayAt_pass y] at e
      refine .inr ⟨?_, by omega, by omega, e⟩
      have := wayAt_ge l (c :: m) (p - W l m) (h + 1) x (by rw [e]; exact List.mem_cons_self ..)
      omega
  · rw [if_neg z] at hp ⊢
    rw [wayAt_skip z] at e
    refine .inr ⟨?_, by omega, by omega, by rw [Nat.sub_zero]; exact e⟩
    have := wayAt_ge l (d :: m) p (h + 1) x (by rw [e]; exact List.mem_cons_self ..)
    omega
/-- the first way: greedy -/
theorem wayAt_first (l : List Nat) : ∀ (n i : Nat) (m : List Nat), l.length - i = n → 0 < W (l.drop i) m → fp l i m = some (wayAt (l.drop i) m 0 i)
  | n, i, [], _, _ => by rw [fp_nil, wayAt_nil]
  | 0, i, d :: m, e, h => by rw [List.drop_of_length_le (by omega), W_nilc] at h; omega
  | n + 1, i, d :: m, e, h => by
    obtain ⟨c, hc, ec⟩ := drop_at (l := l) (i := i) (by omega)
    rw [ec] at h ⊢
    by_cases z : c = d
    · subst z
      have hp : 0 < W (l.drop (i + 1)) m := by
        rw [W_cons, if_pos rfl] at h
        rcases Nat.eq_zero_or_pos (W (l.drop (i + 1)) m) with q | q
        · exact W_tail (d := c) (by omega)
        · exact q
      rw [fp_eq m hc, wayAt_first l n (i + 1) m (by omega) hp, wayAt_take hp]
      rfl
    · rw [W_cons, if_neg z, Nat.add_zero] at h
      rw [fp_ne m hc z, wayAt_skip z, wayAt_first l n (i + 1) (d :: m) (by omega) h]
/-- the place behind the last one found -/
def after (i : Nat) (ps : List Nat) : Nat := match ps.getLast? with | none => i | some k => k + 1
theorem after_cons (i k : Nat) (ps : List Nat) : after i (k :: ps) = after (k + 1) ps := by
  unfold after
  cases ps with
  | nil => rfl
  | cons x t => rw [List.getLast?_cons_cons]; cases h : (x :: t).getLast? with
    | none => simp at h
    | some y => rfl
theorem fp_snoc (l : List Nat) (d : Nat) : ∀ (m : List Nat) (i : Nat), fp l i (m ++ [d]) = (fp l i m).bind fun ps => (nextP l (after i ps) d).map fun k => ps ++ [k]
  | [], i => by
    rw [List.nil_append, fp_nil]
    show fp l i [d] = (nextP l i d).map fun k => [k]
    cases e : nextP l i d with
    | none => rw [fp_none [] e]; rfl
    | some k => rw [fp_some [] e, fp_nil]; rfl
  | c :: m, i => by
    rw [List.cons_append]
    cases e : nextP l i c with
    | none => rw [fp_none _ e, fp_none _ e]; rfl
    | some k =>
      rw [fp_some _ e, fp_some _ e, fp_snoc l d m (k + 1)]
      cases e2 : fp l (k + 1) m with
      | none => rfl
      | some ps =>
        show Option.map (k :: ·) ((nextP l (after (k + 1) ps) d).map fun t => ps ++ [t]) = (nextP l (after i (k :: ps)) d).map fun t => (k :: ps) ++ [t]
        rw [after_cons, Option.map_map]
        rfl
theorem nextP_app {l : List Nat} {i c k : Nat} (x : List Nat) (h : nextP l i c = some k) : nextP (l ++ x) i c = some k := by
  obtain ⟨h1, h2, h3⟩ := nextP_some.mp h
  have hk := (List.getElem?_eq_some_iff.mp h2).1
  refine nextP_some.mpr ⟨h1, by rw [List.getElem?_append_left hk]; exact h2, fun j hj hjk => ?_⟩
  rw [List.getElem?_append_left (by omega)]
  exact h3 j hj hjk
theorem fp_app (l x : List Nat) : ∀ (m : List Nat) (i : Nat) (ps : List Nat), fp l i m = some ps → fp (l ++ x) i m = some ps
  | [], i, ps, h => h
  | c :: m, i, ps, h => by
    cases e : nextP l i c with
    | none => rw [fp_none m e] at h; cases h
    | some k =>
      rw [fp_some m e] at h
      rw [fp_some m (nextP_app x e)]
      cases e2 : fp l (k + 1) m with
      | none => rw [e2] at h; cases h
      | some qs =>
        rw [e2] at h
        rw [fp_app l x m (k + 1) qs e2]
        exact h
theorem nextP_snoc {l : List Nat} {i d : Nat} (h : nextP l i d = none) (hi : i ≤ l.length) : nextP (l ++ [d]) i d = some l.length := by
  refine nextP_some.mpr ⟨hi, by simp, fun j hj hjk => ?_⟩
  rw [List.getElem?_append_left hjk]
  exact nextP_none.mp h j hj
theorem after_le {l m : List Nat} {ps : List Nat} (h : fp l 0 m = some ps) : after 0 ps ≤ l.length := by
  unfold after
  cases e : ps.getLast? with
  | none => exact Nat.zero_le _
  | some k =>
    have := (fp_spell l m 0 ps h).2.1 k (List.mem_of_getLast? e)
    show k + 1 ≤ _
    omega
theorem fp_more {L M : List Nat} {d : Nat} {ps : List Nat} (h0 : fp L 0 (M ++ [d]) = none) (h1 : fp L 0 M = some ps) : fp (L ++ [d]) 0 (M ++ [d]) = some (ps ++ [L.length]) := by
  rw [fp_snoc, h1] at h0
  have hn : nextP L (after 0 ps) d = none := by
    cases e : nextP L (after 0 ps) d with
    | none => rfl
    | some k =>
      have h2 : (nextP L (after 0 ps) d).map (fun k => ps ++ [k]) = none := h0
      rw [e] at h2; cases h2
  rw [fp_snoc, fp_app L [d] M 0 ps h1]
  show (nextP (L ++ [d]) (after 0 ps) d).map (fun k => ps ++ [k]) = _
  rw [nextP_snoc hn (after_le h1)]
  rfl
/-- the last way: greedy from behind -/
theorem wayAt_last : ∀ (l m : List Nat) (h : Nat), 0 < W l m → (fp l.reverse 0 m.reverse).map (fun ps => ps.reverse.map fun k => h + (l.length - 1 - k)) = some (wayAt l m (W l m - 1) h)
  | l, [], h, _ => by rw [wayAt_nil]; rfl
  | [], d :: m, h, hp => by rw [W_nilc] at hp; omega
  | c :: l, d :: m, h, hp => by
    rw [List.reverse_cons, List.reverse_cons]
    rcases Nat.eq_zero_or_pos (W l (d :: m)) with q | q
    · have z : c = d := by
        by_cases z : c = d
        · exact z
        · rw [W_cons, if_neg z, q] at hp; omega
      subst z
      have hp2 : 0 < W l m := by rw [W_cons, if_pos rfl, q] at hp; omega
      have eW : W (c :: l) (c :: m) - 1 = W l m - 1 := by rw [W_cons, if_pos rfl, q]; omega
      rw [eW, wayAt_take (by omega)]
      have ih := wayAt_last l m (h + 1) hp2
      cases e1 : fp l.reverse 0 m.reverse with
      | none => rw [e1] at ih; cases ih
      | some ps =>
        rw [e1] at ih
        have ih2 := Option.some.inj ih
        have e0 : fp l.reverse 0 (m.reverse ++ [c]) = none := by
          cases e2 : fp l.reverse 0 (m.reverse ++ [c]) with
          | none => rfl
          | some x =>
            have h2 : (fp l.reverse 0 (m.reverse ++ [c])).isSome := by rw [e2]; rfl
            rw [fp0, ← List.reverse_cons, List.reverse_sublist] at h2
            have := (W_sub l (c :: m)).mpr h2
            omega
        rw [fp_more e0 e1, ← ih2]
        have hb := (fp_spell _ _ _ _ e1).2.1
        rw [List.length_reverse] at hb
        show some ((ps ++ [l.reverse.length]).reverse.map fun k => h + ((c :: l).length - 1 - k)) = _
        rw [List.reverse_append, List.length_reverse]
        show some ((h + (l.length + 1 - 1 - l.length)) :: ps.reverse.map fun k => h + (l.length + 1 - 1 - k)) = _
        congr 2
        · omega
        · refine List.map_congr_left fun k hk => ?_
          have := hb k (List.mem_reverse.mp hk)
          omega
    · have ih := wayAt_last l (d :: m) (h + 1) q
      rw [List.reverse_cons] at ih
      cases e1 : fp l.reverse 0 (m.reverse ++ [d]) with
      | none => rw [e1] at ih; cases ih
      | some ps =>
        rw [e1] at ih
        have ih2 := Option.some.inj ih
        rw [fp_app _ [c] _ _ _ e1]
        have hb := (fp_spell _ _ _ _ e1).2.1
        rw [List.length_reverse] at hb
        have e3 : wayAt (c :: l) (d :: m) (W (c :: l) (d :: m) - 1) h = wayAt l (d :: m) (W l (d :: m) - 1) (h + 1) := by
          by_cases z : c = d
          · subst z
            rw [W_cons, if_pos rfl, wayAt_pass (by omega)]
            congr 1
            omega
          · rw [W_cons, if_neg z, Nat.add_zero, wayAt_skip z]
        rw [e3, ← ih2]
        show some (ps.reverse.map fun k => h + (l.length + 1 - 1 - k)) = _
        congr 1
        refine List.map_congr_left fun k hk => ?_
        have := hb k (List.mem_reverse.mp hk)
        omega
end Lv

set_option Elab.async false
set_option linter.all false
set_option maxRecDepth 100000
set_option maxHeartbeats 4000000
namespace Lv
open PySem PySem.Spec PyProof.Rows L2 SX
local macro_rules | `(tactic| tm_at "n") => `(tactic| (first | assumption | (simp only [List.length_append, List.length_cons, List.length_nil, List.length_reverse, List.length_map, List.length_replicate, List.length_set, List.length_singleton, List.length_range, List.length_take, List.length_drop, List.length_flatten]; omega) | omega | decide))
local macro_rules | `(tactic| tm_at "z") => `(tactic| (first | exact Lv.le_line (by tm_at "n") | exact Lv.lt_line (by tm_at "n")))
local macro_rules | `(tactic| tm_at "c") => `(tactic| (first | (show (0 : Int) < _; omega) | exact ⟨by omega, by omega⟩ | exact Or.inl ⟨by omega, by omega⟩ | exact Or.inr ⟨by omega, by omega⟩ | decide))
local macro_rules | `(tactic| tm_at "s") => `(tactic| first
  | with_reducible refine Lv.i_seq ?_ | with_reducible refine Lv.i_set ?_ | with_reducible refine Lv.i_ret ?_ | with_reducible refine Lv.i_if ?_ | with_reducible refine Lv.i_drop ?_ | with_reducible refine Lv.i_next ?_
  | with_reducible refine Lv.i_brk ?_ | with_reducible refine Lv.i_cont ?_ | ((with_reducible refine' Lv.i_var ?hv ?_); (case hv => exact rfl)) | with_reducible refine Lv.i_c ?_ | with_reducible refine Lv.i_op ?_ | with_reducible refine Lv.i_un ?_
  | with_reducible refine Lv.i_cb ?_ | with_reducible refine Lv.i_call ?_ | with_reducible refine Lv.i_nil ?_ | with_reducible refine Lv.i_cons ?_ | with_reducible refine Lv.i_lst ?_ | with_reducible refine Lv.i_tup ?_
  | with_reducible refine Lv.i_bm ?_ | with_reducible refine Lv.i_bm0 ?_ | with_reducible refine Lv.i_tyS ?_ | with_reducible refine Lv.i_sl ?_ | with_reducible refine Lv.i_noPart ?_ | with_reducible refine Lv.i_part ?_ | with_reducible refine Lv.i_exI ?_
  | with_reducible refine Lv.i_chain ?_ | with_reducible refine Lv.i_isN_n ?_ | with_reducible refine Lv.i_isN_r ?_ | with_reducible refine Lv.i_isN_i ?_ | with_reducible refine Lv.i_isN_s ?_ | with_reducible refine Lv.i_notN_n ?_ | with_reducible refine Lv.i_notN_r ?_ | with_reducible refine Lv.i_notN_i ?_ | with_reducible refine Lv.i_notN_s ?_ | with_reducible refine Lv.i_bl ?_ | with_reducible refine Lv.i_test ?_ | with_reducible refine Lv.i_tB ?_ | with_reducible refine Lv.i_not ?_ | with_reducible refine Lv.i_and ?_ | with_reducible refine Lv.i_or ?_
  | with_reducible refine Lv.i_andV ?_ | with_reducible refine Lv.i_orV ?_ | with_reducible refine Lv.i_notV ?_ | with_reducible refine Lv.i_ifE ?_ | with_reducible refine Lv.i_rI0 ?_ | ((with_reducible refine Lv.i_rI ?hc ?_); (case hc => tm_at "c"))
  | with_reducible refine Lv.i_rU ?_ | with_reducible refine Lv.i_r2S ?_ | with_reducible refine Lv.i_in1 ?_ | with_reducible refine Lv.i_notIn1 ?_ | ((with_reducible refine Lv.i_addS ?hz ?_); (case hz => tm_at "z"))
  | ((with_reducible refine Lv.i_slS ?hz ?_); (case hz => tm_at "z")) | with_reducible refine Lv.i_tRevS ?_ | with_reducible refine Lv.i_revL ?_ | with_reducible refine Lv.i_zip ?_ | with_reducible refine Lv.i_abs ?_ | with_reducible refine Lv.i_max2 ?_ | with_reducible refine Lv.i_min2 ?_ | with_reducible refine Lv.i_lstRg ?_ | with_reducible refine Lv.i_rg1 ?_ | with_reducible refine Lv.i_sortSetS ?_ | with_reducible refine Lv.i_sortSetL ?_ | with_reducible refine Lv.i_sortSetI ?_ | ((with_reducible refine Lv.i_revS ?hz ?_); (case hz => tm_at "z")) | ((with_reducible refine Lv.i_lenT ?hz ?_); (case hz => tm_at "z"))
  | ((with_reducible refine' Lv.i_aug ?hv ?_); (case hv => exact rfl)) | with_reducible refine Lv.i_ipI ?_ | with_reducible refine Lv.i_asg ?_
  | with_reducible refine Lv.i_augS ?_ | with_reducible refine Lv.i_gSub ?_ | with_reducible refine Lv.i_gName ?_ | with_reducible refine Lv.i_gCons ?_ | with_reducible refine Lv.i_gNil ?_ | with_reducible refine Lv.i_par ?_ | with_reducible refine Lv.i_intB ?_ | with_reducible refine Lv.i_r2B ?_ | with_reducible refine Lv.i_listEn ?_ | with_reducible refine Lv.i_tYes ?_ | with_reducible refine Lv.i_str ?_ | with_reducible refine Lv.i_list ?_ | with_reducible refine Lv.i_rng1 ?_ | with_reducible refine Lv.i_rng2 ?_ | with_reducible refine Lv.i_rng3 ?_ | with_reducible refine Lv.i_enumS ?_ | with_reducible refine Lv.i_enumL ?_ | with_reducible refine Lv.i_tupI ?_
  | ((with_reducible refine Lv.x_r1 ?h0 ?h1 ?_); (case h0 => first | omega | (simp; omega)); (case h1 => first | omega | (simp; omega))) | ((with_reducible refine Lv.x_r2 ?h0 ?_); (case h0 => exact ⟨by omega, by omega, by omega, by omega⟩)) | ((with_reducible refine Lv.x_dn ?h0 ?_); (case h0 => exact ⟨by omega, by omega, by omega, by omega⟩))
  | with_reducible refine Lv.x_str ?_ | with_reducible refine Lv.x_enumS ?_ | ((with_reducible refine' Lv.x_list ?h0 ?_); (case h0 => first | exact SqL.of1 (by assumption) | assumption | exact SqL.of1 upd_same)) | ((with_reducible refine' Lv.x_enumL ?h0 ?_); (case h0 => first | exact SqL.of1 (by assumption) | assumption | exact SqL.of1 upd_same))
  | ((with_reducible refine' Lv.i_ixL ?hp ?hn ?_); (case hp => first | exact SqL.of1 (by assumption) | exact SqL.of1 upd_same); (case hn => exact rfl))
  | (with_reducible refine L2.iteT ?_) | (with_reducible refine L2.iteF ?_) | (with_reducible refine Lv.iteNF ?_) | (with_reducible refine Lv.iteNT ?_) | (with_reducible refine Lv.iteNNF ?_) | (with_reducible refine Lv.iteNNT ?_) | (with_reducible refine Lv.iteR ?_) | (with_reducible refine Lv.iteNR ?_) | (with_reducible refine Lv.x_nx ?_))
local macro_rules | `(tactic| tm_at "w") => `(tactic| (repeat tm_at "s"))
local macro_rules | `(tactic| tm_at "fo") => `(tactic| ((refine' Lv.fo ?a ?_); (case a => (intro R' k'; tm_at "w"; exact k'))))
local macro_rules | `(tactic| tm_at "lc") => `(tactic| ((refine' Lv.lc ?a ?_); (case a => (intro R' k'; tm_at "w"; exact k'))))
/-! ways_from_0(row, other): slots 0 row, 1 other, 2 found, 3 place, 4 at, 5 letter -/
abbrev N_ways_from_0 : List Str := ["row", "other", "found", "place", "at", "letter"]
def t_ways_from_0 (K : PySem.W.Frag) : TS :=
  (tSeq (tAsg (tLc (iRng1 (tCons (tOp Lv.rAdd (tCB Lv.rLenT (tCons (tVar 0) tNil)) (tC (.int 1))) tNil)) (gName 3) tYes (tOp L2.rCat (tOp L2.rRep (tLst (tCons (tC (.int 0)) tNil)) (tCB Lv.rLenT (tCons (tVar 1) tNil))) (tLst (tCons (tC (.int 1)) tNil))) [3]) (gName 2)) (tSeq (tFor (iRng3 (tCons (tOp Lv.rSub (tCB Lv.rLenT (tCons (tVar 0) tNil)) (tC (.int 1))) (tCons (tUn Lv.rNeg (tC (.int 1))) (tCons (tUn Lv.rNeg (tC (.int 1))) tNil)))) (gName 3) (tFor (Lv.iEnumS (tCons (tVar 1) tNil)) (gTup K 2 (gCons (gName 4) (gCons (gName 5) gNil))) (tSeq (tAsg (tOp (rIxL K) (tOp (rIxL K) (tVar 2) (tOp Lv.rAdd (tVar 3) (tC (.int 1)))) (tVar 4)) (gSub (tOp (rIxL K) (tVar 2) (tVar 3)) (tVar 4) rSetL)) (tIfS (tTest (tOp Lv.rEqS (tOp Lv.rIxT1 (tVar 0) (tVar 3)) (tVar 5))) (tAugS (tOp (rIxL K) (tVar 2) (tVar 3)) (tVar 4) (tOp (rIxL K) (tOp (rIxL K) (tVar 2) (tOp Lv.rAdd (tVar 3) (tC (.int 1)))) (tOp Lv.rAdd (tVar 4) (tC (.int 1)))) (rIxL K) (ipI fun i j => i + j) rSetL) tNext)))) (tRet (tVar 2))))
-- needs: M_ways
/-- a table of rows at the addresses rs -/
def Tab (H : Hp) (rs : List Addr) (f : Nat → List Int) : Prop := ∀ (r : Nat) (a : Addr), rs[r]? = some a → H a = some (.lst ((f r).map V.int))
theorem Tab.upd {H : Hp} {rs : List Addr} {f : Nat → List Int} (T : Tab H rs f) (nd : rs.Nodup) {k : Nat} {a : Addr} (ha : rs[k]? = some a) (v : List Int) : Tab (L2.upd H a (.lst (v.map V.int))) rs (fun r => if r = k then v else f r) := by
  intro r b hb
  by_cases e : r = k
  · subst e
    rw [ha] at hb
    cases hb
    rw [upd_same]
    simp
  · have hne : b ≠ a := by
      intro z
      subst z
      obtain ⟨h1, e1⟩ := List.getElem?_eq_some_iff.mp ha
      obtain ⟨h2, e2⟩ := List.getElem?_eq_some_iff.mp hb
      exact e ((List.getElem_inj nd).mp (e2.trans e1.symm))
    rw [upd_ne hne]
    simp only [if_neg e]
    exact T r b hb
theorem Tab.same {H H' : Hp} {rs : List Addr} {f : Nat → List Int} (T : Tab H rs f) (s : Same H H') : Tab H' rs f := fun r a h => s _ _ (T r a h)
theorem Tab.congr {H : Hp} {rs : List Addr} {f g : Nat → List Int} (T : Tab H rs f) (h : ∀ r, r < rs.length → f r = g r) : Tab H rs g := fun r a ha => by
  rw [← h r (List.getElem?_eq_some_iff.mp ha).1]
  exact T r a ha
theorem Tab.updN {H : Hp} {rs : List Addr} {f : Nat → List Int} (T : Tab H rs f) {p : Addr} {o : HO} (n : p ∉ rs) : Tab (L2.upd H p o) rs f := fun r a h => by
  rw [upd_ne fun z => n (by rw [← z]; exact List.mem_of_getElem? h)]
  exact T r a h
def sp_ways_from_0 (K : PySem.W.Frag) : Sp := fun vs H Q _ => ∃ (l m : List Nat), vs = [.str (S l), .str (S m)] ∧ l.length ≤ 1000 ∧ m.length ≤ 1000 ∧
  ∀ (p : Addr) (rs : List Addr) (H' : Hp), H p = none → Same H H' → rs.length = l.length + 1 → H' p = some (.lst (rs.map V.ref)) → Tab H' rs (fun r => wrow (l.drop r) m) → Q (.ref p) H'
theorem rep_ints (n : Nat) (k : Int) : (List.replicate n [V.int k]).flatten = (List.replicate n k).map V.int := by
  induction n with
  | zero => rfl
  | succ n ih => rw [List.replicate_succ, List.flatten_cons, ih, List.replicate_succ]; rfl
theorem pure_ways_from_0 {K : PySem.W.Frag} (vs : List V) (H : Hp) (Q : VK) (E : XK) (h : sp_ways_from_0 K vs H Q E) : t_ways_from_0 K { nx := fun _ H' => Q .non H', rt := Q } (start N_ways_from_0 vs) H := by
  obtain ⟨l, m, rfl, hl, hm, q⟩ := h
  unfold t_ways_from_0
  tm_at "w"
  tm_at "lc"
  -- the rows made
  refine c_r fun D nD => ⟨fun i acc H' => Same H H' ∧ ∃ rs : List Addr, acc = rs.map V.ref ∧ rs.length = i ∧ rs.Nodup ∧ D ∉ rs ∧ (∀ a ∈ rs, H a = none) ∧ Tab H' rs (fun _ => wrow [] m), ⟨same_new nD, [], rfl, rfl, List.nodup_nil, by simp, by simp, fun r a h => by simp at h⟩, ?_, ?_⟩
  · rintro i acc x H0 H' hi hacc hD ⟨sm, rs, rfl, hrl, nd, hDn, hnew, T⟩ ⟨rfl, rfl⟩
    tm_at "w"
    refine ⟨rfl, ?_⟩
    tm_at "w"
    refine ⟨by tm_at "z", fun p1 n1 => ?_⟩
    tm_at "w"
    refine i_rep upd_same (by omega) (by omega) (le_line (by simp; omega)) fun p2 n2 => ?_
    tm_at "w"
    refine ⟨by tm_at "z", fun p3 n3 => ?_⟩
    rw [Int.toNat_natCast, rep_ints] at *
    have s1 := same_new (o := .lst [V.int 0]) n1
    have s2 := same_new (o := .lst ((List.replicate m.length (0 : Int)).map V.int)) n2
    have s3 := same_new (o := .lst [V.int 1]) n3
    refine i_cat (s3 _ _ upd_same) upd_same (le_line (by simp; omega)) fun p4 n4 => ?_
    have s4 := same_new (o := .lst ((List.replicate m.length (0 : Int)).map V.int ++ [V.int 1])) n4
    have e : (List.replicate m.length (0 : Int)).map V.int ++ [V.int 1] = (wrow [] m).map V.int := by rw [← wrow_init, List.map_append]; rfl
    rw [e] at s4 ⊢
    have s := s1.trans (s2.trans (s3.trans s4))
    have nH' : H' p4 = none := (s1.trans (s2.trans s3)).free n4
    have nH : H p4 = none := sm.free nH'
    have nDp : D ≠ p4 := ne_of_none hD nH'
    have np4 : p4 ∉ rs := fun z => by
      obtain ⟨r, hr⟩ := List.mem_iff_getElem?.mp z
      rw [T r p4 hr] at nH'
      cases nH'
    refine lc_put (s _ _ hD) hacc (by omega) ⟨(sm.trans s).updN nD, rs ++ [p4], by rw [List.map_append]; rfl, by simp [hrl], ?_, ?_, ?_, ?_⟩
    · rw [List.nodup_append]
      exact ⟨nd, by simp, fun a ha b hb => by rw [List.mem_singleton.mp hb]; exact fun z => np4 (z ▸ ha)⟩
    · intro z
      rcases List.mem_append.mp z with z | z
      · exact hDn z
      · exact nDp (List.mem_singleton.mp z)
    · intro a ha
      rcases List.mem_append.mp ha with z | z
      · exact hnew a z
      · rw [List.mem_singleton.mp z]; exact nH
    · refine Tab.updN (fun r a hr => ?_) ?_
      · by_cases z : r < rs.length
        · rw [List.getElem?_append_left z] at hr
          exact (T.same s) r a hr
        · rw [List.getElem?_append_right (by omega)] at hr
          have : p4 = a := by
            rcases Nat.eq_zero_or_pos (r - rs.length) with e0 | e0
            · rw [e0] at hr; exact Option.some.inj hr
            · rw [List.getElem?_eq_none (by simp; omega)] at hr; cases hr
          rw [← this]
          exact upd_same
      · intro z
        rcases List.mem_append.mp z with z | z
        · exact hDn z
        · exact nDp (List.mem_singleton.mp z)
  · rintro acc H1 hacc hD ⟨sm, rs, rfl, hrl, nd, hDn, hnew, T⟩
    have hrl' : rs.length = l.length + 1 := by omega
    tm_at "w"
    tm_at "fo"
    refine f_c ⟨fun i σ H' => ∃ v3 v4 v5 : Option V, σ = [some (.str (S l)), some (.str (S m)), some (.ref D), v3, v4, v5] ∧ Same H H' ∧ H' D = some (.lst (rs.map V.ref)) ∧ Tab H' rs (fun r => if l.length - i ≤ r then wrow (l.drop r) m else wrow [] m),
      ⟨none, none, none, rfl, sm, hD, T.congr fun r hr => ?_⟩, ?_, ?_⟩
    · by_cases z : l.length - 0 ≤ r
      · rw [if_pos z, List.drop_of_length_le (by omega)]
      · rw [if_neg z]
    · rintro i x σ H0 H' hi ⟨v3, v4, v5, rfl, sm', hD', T'⟩ ⟨rfl, rfl⟩
      obtain ⟨pl, epl⟩ : ∃ pl : Nat, l.length = pl + 1 + i := ⟨l.length - 1 - i, by omega⟩
      have e3 : (l.length : Int) - 1 + (i : Int) * -1 = (pl : Int) := by omega
      rw [e3]
      have hpl : pl < l.length := by omega
      obtain ⟨a, ha⟩ : ∃ a, rs[pl]? = some a := ⟨_, List.getElem?_eq_getElem (by omega)⟩
      obtain ⟨b, hb⟩ : ∃ b, rs[pl + 1]? = some b := ⟨_, List.getElem?_eq_getElem (by omega)⟩
      have hab : b ≠ a := fun z => by
        subst z
        obtain ⟨h1, e1⟩ := List.getElem?_eq_some_iff.mp ha
        obtain ⟨h2, e2⟩ := List.getElem?_eq_some_iff.mp hb
        have := (List.getElem_inj nd).mp (e2.trans e1.symm)
        omega
      have hDa : D ≠ a := fun z => hDn (z ▸ List.mem_of_getElem? ha)
      have hl3 : l[pl]? = some l[pl] := List.getElem?_eq_getElem hpl
      tm_at "w"
      tm_at "fo"
      refine f_t ⟨fun j σ H2 => ∃ v4 v5 : Option V, σ = [some (.str (S l)), some (.str (S m)), some (.ref D), some (.int (pl : Int)), v4, v5] ∧ Same H H2 ∧ H2 D = some (.lst (rs.map V.ref)) ∧
        Tab H2 rs (fun r => if r = pl then prow (l.drop pl) m j else if l.length - i ≤ r then wrow (l.drop r) m else wrow [] m), ⟨v4, v5, rfl, sm', hD', T'.congr fun r hr => ?_⟩, ?_, ?_⟩
      · by_cases z : r = pl
        · subst z
          rw [if_pos rfl, prow_zero, if_neg (by omega)]
        · rw [if_neg z]
      · rintro j x σ H2 H3 hj ⟨v4, v5, rfl, sm2, hD2, T2⟩ ⟨t, xs, rfl, nt, rfl, c, hc, rfl⟩
        have st := same_new (o := .tup [V.int (j : Nat), .str (S [c])]) nt
        have hD3 := st _ _ hD2
        have T3 := T2.same st
        have sm3 := sm2.trans st
        have at_ : upd H2 t (.tup [V.int (j : Nat), .str (S [c])]) t = some (.tup [V.int (j : Nat), .str (S [c])]) := upd_same
        generalize upd H2 t (.tup [V.int (j : Nat), .str (S [c])]) = H4 at *
        clear st T2 hD2 sm2 nt
        have ga := T3 pl a ha
        have gb := T3 (pl + 1) b hb
        simp only [if_true] at ga
        dsimp only at gb
        rw [if_neg (by omega), if_pos (by omega)] at gb
        have gj : ∀ k : Nat, k ≤ m.length → atI ((wrow (l.drop (pl + 1)) m).map V.int) (k : Int) = some (.int ((W (l.drop (pl + 1)) (m.drop k) : Nat) : Int)) := fun k hk => atI_nat (by rw [List.getElem?_map, wrow_get _ _ hk]; rfl)
        have rr : ∀ (k : Nat) (z : Addr), rs[k]? = some z → atI (rs.map V.ref) (k : Int) = some (.ref z) := fun k z hz => atI_nat (by rw [List.getElem?_map, hz]; rfl)
        refine i_gTup (SqT.of1 at_) rfl ?_
        tm_at "w"
        refine i_ixL (SqL.of1 hD3) (rr (pl + 1) b hb) ?_
        tm_at "w"
        refine i_ixL (SqL.of1 gb) (gj j (by omega)) ?_
        tm_at "w"
        refine i_ixL (SqL.of1 hD3) (rr pl a ha) ?_
        tm_at "w"
        refine i_setL (j := j) ga (by rw [List.length_map, prow_length]; exact ix_nat (by omega)) ?_
        tm_at "w"
        refine i_ixS (le_line (by omega)) (atI_nat hl3) ?_
        tm_at "w"
        have fin : ∀ v : Int, v = ((W (l.drop pl) (m.drop j) : Nat) : Int) → ∃ v4 v5 : Option V, [some (V.str (S l)), some (.str (S m)), some (.ref D), some (.int (pl : Int)), some (.int (j : Nat)), some (.str (S [c]))] = [some (.str (S l)), some (.str (S m)), some (.ref D), some (.int (pl : Int)), v4, v5] ∧ Same H (upd H4 a (.lst (((prow (l.drop pl) m j).set j v).map V.int))) ∧ (upd H4 a (.lst (((prow (l.drop pl) m j).set j v).map V.int))) D = some (.lst (rs.map V.ref)) ∧
            Tab (upd H4 a (.lst (((prow (l.drop pl) m j).set j v).map V.int))) rs (fun r => if r = pl then prow (l.drop pl) m (j + 1) else if l.length - i ≤ r then wrow (l.drop r) m else wrow [] m) := by
          intro v hv
          refine ⟨_, _, rfl, sm3.updN (hnew a (List.mem_of_getElem? ha)), by rw [upd_ne hDa]; exact hD3, (T3.upd nd ha _).congr fun r hr => ?_⟩
          by_cases z : r = pl
          · rw [if_pos z, if_pos z, hv, prow_set _ _ _ hj]
          · rw [if_neg z, if_neg z, if_neg z]
        refine if_dec (fun z => ?_) (fun z => ?_)
        · have zc : l[pl] = c := by injection z
          tm_at "w"
          refine i_ixL (SqL.of1 (by rw [upd_ne hDa]; exact hD3)) (rr pl a ha) ?_
          tm_at "w"
          refine i_ixL (v := .int ((W (l.drop (pl + 1)) (m.drop j) : Nat) : Int)) (SqL.of1 upd_same) (atI_nat (by rw [List.getElem?_set_self (by rw [List.length_map, prow_length]; omega)])) ?_
          tm_at "w"
          refine i_ixL (SqL.of1 (by rw [upd_ne hDa]; exact hD3)) (rr (pl + 1) b hb) ?_
          tm_at "w"
          refine i_ixL (SqL.of1 (by rw [upd_ne hab]; exact gb)) (gj (j + 1) (by omega)) ?_
          tm_at "w"
          refine i_setL (j := j) upd_same (by rw [List.length_set, List.length_map, prow_length]; exact ix_nat (by omega)) ?_
          tm_at "w"
          rw [upd_upd, List.set_set, ← List.map_set]
          refine fin _ ?_
          rw [W_drop hl3 hc, if_pos zc]
          omega
        · have zc : l[pl] ≠ c := fun y => z (by rw [y])
          tm_at "w"
          rw [← List.map_set]
          refine fin _ ?_
          rw [W_drop hl3 hc, if_neg zc]
          omega
      · rintro σ H2 ⟨v4, v5, rfl, sm2, hD2, T2⟩
        refine ⟨_, v4, v5, rfl, sm2, hD2, T2.congr fun r hr => ?_⟩
        by_cases z : r = pl
        · subst z
          rw [if_pos rfl, prow_last, if_pos (by omega)]
        · rw [if_neg z]
          by_cases y : l.length - i ≤ r
          · rw [if_pos y, if_pos (by omega)]
          · rw [if_neg y, if_neg (by omega)]
    · rintro σ H' ⟨v3, v4, v5, rfl, sm', hD', T'⟩
      tm_at "w"
      refine q D rs H' nD sm' hrl' hD' (T'.congr fun r hr => ?_)
      rw [if_pos (by omega)]
/-! way_at_0(row, other, place): slots 0 row, 1 other, 2 place, 3 ways, 4 left, 5 way, 6 here, 7 at, 8 letter -/
abbrev N_way_at_0 : List Str := ["row", "other", "place", "ways", "left", "way", "here", "at", "letter"]
def t_way_at_0 (K : PySem.W.Frag) : TS :=
  (tSeq (tAsg (tCall (sp_ways_from_0 K) [] E0 (tCons (tVar 0) (tCons (tVar 1) tNil))) (gName 3)) (tSeq (tIfS (tOr (tNot (tB (tCB (L2.rIsi K) (tCons (tVar 2) (tCons (tC (.ty "int")) tNil))))) (tOr (tB (tCB (L2.rIsi K) (tCons (tVar 2) (tCons (tC (.ty "bool")) tNil)))) (tNot (tTest (tChain Lv.rLe Lv.rLt (tC (.int 0)) (tVar 2) (tOp (rIxL K) (tOp (rIxL K) (tVar 3) (tC (.int 0))) (tC (.int 0)))))))) Lv.tNever tNext) (tSeq (tAsg (tVar 2) (gName 4)) (tSeq (tAsg (tLst tNil) (gName 5)) (tSeq (tAsg (tC (.int 0)) (gName 6)) (tSeq (tFor (Lv.iEnumS (tCons (tVar 1) tNil)) (gTup K 2 (gCons (gName 7) (gCons (gName 8) gNil))) (tSeq (tWhile (tOr (tTest (tOp Lv.rNeS (tOp Lv.rIxT1 (tVar 0) (tVar 6)) (tVar 8))) (tTest (tOp Lv.rGe (tVar 4) (tOp (rIxL K) (tOp (rIxL K) (tVar 3) (tOp Lv.rAdd (tVar 6) (tC (.int 1)))) (tOp Lv.rAdd (tVar 7) (tC (.int 1))))))) (Evl.tCut (tIfS (tTest (tOp Lv.rEqS (tOp Lv.rIxT1 (tVar 0) (tVar 6)) (tVar 8))) (tAug 4 (tOp (rIxL K) (tOp (rIxL K) (tVar 3) (tOp Lv.rAdd (tVar 6) (tC (.int 1)))) (tOp Lv.rAdd (tVar 7) (tC (.int 1)))) (ipI fun i j => i - j)) tNext) (tAug 6 (tC (.int 1)) (ipI fun i j => i + j)))) (tSeq (tDrop (tBM K "list" rAppend (tVar 5) (tCons (tVar 6) tNil))) (tAug 6 (tC (.int 1)) (ipI fun i j => i + j))))) (tRet (tVar 5))))))))
-- needs: M_way
def sp_way_at_0 (K : PySem.W.Frag) : Sp := fun vs H Q _ => ∃ (l m : List Nat) (p : Nat), vs = [.str (S l), .str (S m), .int (p : Int)] ∧ l.length ≤ 1000 ∧ m.length ≤ 1000 ∧ p < W l m ∧
  ∀ a H', H a = none → Same H H' → H' a = some (.lst ((wayAt l m p 0).map iv)) → Q (.ref a) H'
theorem i_way_at_0 {K : PySem.W.Frag} {l m : List Nat} {p : Nat} {H : Hp} {Q : VK} {E : XK} (hl : l.length ≤ 1000) (hm : m.length ≤ 1000) (hp : p < W l m)
  (q : ∀ a H', H a = none → Same H H' → H' a = some (.lst ((wayAt l m p 0).map iv)) → Q (.ref a) H') : sp_way_at_0 K [.str (S l), .str (S m), .int (p : Int)] H Q E := ⟨l, m, p, rfl, hl, hm, hp, q⟩
theorem pure_way_at_0 {K : PySem.W.Frag} (vs : List V) (H : Hp) (Q : VK) (E : XK) (h : sp_way_at_0 K vs H Q E) : t_way_at_0 K { nx := fun _ H' => Q .non H', rt := Q } (start N_way_at_0 vs) H := by
  obtain ⟨l, m, p, rfl, hl, hm, hp, q⟩ := h
  unfold t_way_at_0
  tm_at "w"
  refine ⟨l, m, rfl, hl, hm, fun wy rs H1 nwy sm hrl hwy T => ?_⟩
  have tab : ∀ (i j : Nat), i ≤ l.length → j ≤ m.length → ∃ a, rs[i]? = some a ∧ H1 a = some (.lst ((wrow (l.drop i) m).map V.int)) := fun i j hi hj => by
    obtain ⟨a, ha⟩ : ∃ a, rs[i]? = some a := ⟨_, List.getElem?_eq_getElem (by omega)⟩
    exact ⟨a, ha, T i a ha⟩
  tm_at "w"
  refine i_isi_int_int ?_
  tm_at "w"
  refine i_isi_int_bool ?_
  tm_at "w"
  refine if_dec (fun z => ?_) (fun z => absurd (by omega) z)
  tm_at "w"
  obtain ⟨a0, ha0, ga0⟩ := tab 0 0 (by omega) (by omega)
  refine i_ixL (v := .ref a0) (SqL.of1 hwy) (atI_nat (j := 0) (by rw [List.getElem?_map, ha0]; rfl)) ?_
  tm_at "w"
  refine i_ixL (v := .int ((W l m : Nat) : Int)) (SqL.of1 ga0) (atI_nat (j := 0) (by rw [List.getElem?_map, List.drop_zero, wrow_get _ _ (Nat.zero_le _)]; rfl)) ?_
  tm_at "w"
  rw [decide_eq_true (show (p : Int) < ((W l m : Nat) : Int) by omega)]
  tm_at "w"
  refine ⟨by tm_at "z", fun D nD => ?_⟩
  have s2 := same_new (o := .lst []) nD
  have nDH : H D = none := sm.free nD
  have hwy2 := s2 _ _ hwy
  have T2 := T.same s2
  have nDw : wy ≠ D := ne_of_none hwy nD
  have hDrs : D ∉ rs := fun z => by
    obtain ⟨r, hr⟩ := List.mem_iff_getElem?.mp z
    rw [T r D hr] at nD
    cases nD
  have sm2 := sm.trans s2
  have hD0 : upd H1 D (.lst []) D = some (.lst []) := upd_same
  generalize upd H1 D (.lst []) = H2 at *
  clear s2 T sm hwy nD tab ga0
  tm_at "w"
  tm_at "fo"
  refine f_t ⟨fun j σ H' => ∃ (v7 v8 : Option V) (ps : List Nat) (i p' : Nat), σ = [some (.str (S l)), some (.str (S m)), some (.int (p : Int)), some (.ref wy), some (.int (p' : Int)), some (.ref D), some (.int (i : Int)), v7, v8] ∧ i ≤ l.length ∧ ps.length = j ∧
      p' < W (l.drop i) (m.drop j) ∧ wayAt l m p 0 = ps ++ wayAt (l.drop i) (m.drop j) p' i ∧ Same H H' ∧ H' wy = some (.lst (rs.map V.ref)) ∧ Tab H' rs (fun r => wrow (l.drop r) m) ∧ H' D = some (.lst (ps.map iv)),
    ⟨none, none, [], 0, p, rfl, Nat.zero_le _, rfl, hp, rfl, sm2, hwy2, T2, hD0⟩, ?_, ?_⟩
  · rintro j x σ H3 H4 hj ⟨v7, v8, ps, i, p', rfl, hi, hps, hp', ew, sm3, hwy3, T3, hD3⟩ ⟨t, xs, rfl, nt, rfl, d, hd, rfl⟩
    have ed : m.drop j = d :: m.drop (j + 1) := by rw [List.drop_eq_getElem_cons hj, (List.getElem?_eq_some_iff.mp hd).2]
    have st := same_new (o := .tup [V.int (j : Nat), .str (S [d])]) nt
    have hwy4 := st _ _ hwy3
    have T4 := T3.same st
    have sm4 := sm3.trans st
    have hD4 := st _ _ hD3
    have at_ : upd H3 t (.tup [V.int (j : Nat), .str (S [d])]) t = some (.tup [V.int (j : Nat), .str (S [d])]) := upd_same
    generalize upd H3 t (.tup [V.int (j : Nat), .str (S [d])]) = H4 at *
    clear st T3 hwy3 sm3 nt hD3
    rw [ed] at hp' ew
    refine i_gTup (SqT.of1 at_) rfl ?_
    tm_at "w"
    refine wh (fun k σ H' => ∃ (i p' : Nat), σ = [some (.str (S l)), some (.str (S m)), some (.int (p : Int)), some (.ref wy), some (.int (p' : Int)), some (.ref D), some (.int (i : Int)), some (.int (j : Nat)), some (.str (S [d]))] ∧ i ≤ l.length ∧ k = l.length - i ∧
      p' < W (l.drop i) (d :: m.drop (j + 1)) ∧ wayAt l m p 0 = ps ++ wayAt (l.drop i) (d :: m.drop (j + 1)) p' i ∧ H' = H4) (l.length - i) ⟨i, p', rfl, hi, rfl, hp', ew, rfl⟩ ?_
    clear hp' ew hi p' i
    rintro k σ H5 ⟨i, p', rfl, hi, rfl, hp', ew, rfl⟩
    have hil : i < l.length := by
      rcases Nat.lt_or_ge i l.length with z | z
      · exact z
      · rw [List.drop_of_length_le z, W_nilc] at hp'; omega
    obtain ⟨c, hc, ec⟩ := drop_at hil
    rw [ec] at hp' ew
    obtain ⟨b, hb⟩ : ∃ b, rs[i + 1]? = some b := ⟨_, List.getElem?_eq_getElem (by omega)⟩
    have gb := T4 (i + 1) b hb
    dsimp only at gb
    tm_at "w"
    refine i_ix1 (by omega) hc ?_
    tm_at "w"
    by_cases zc : c = d
    · subst zc
      try rw [decide_eq_true rfl]
      tm_at "w"
      refine i_ixL (v := .ref b) (SqL.of1 hwy4) (atI_nat (j := i + 1) (by rw [List.getElem?_map, hb]; rfl)) ?_
      tm_at "w"
      refine i_ixL (v := .int ((W (l.drop (i + 1)) (m.drop (j + 1)) : Nat) : Int)) (SqL.of1 gb) (atI_nat (j := j + 1) (by rw [List.getElem?_map, wrow_get _ _ (by omega)]; rfl)) ?_
      tm_at "w"
      by_cases zp : p' < W (l.drop (i + 1)) (m.drop (j + 1))
      · rw [decide_eq_false (show ¬ ((W (l.drop (i + 1)) (m.drop (j + 1)) : Nat) : Int) ≤ (p' : Int) by omega)]
        rw [wayAt_take zp] at ew
        tm_at "w"
        refine i_tyL (SqL.of1 hD4) ?_
        tm_at "w"
        refine i_app hD4 (lt_line (by simp; omega)) ?_
        tm_at "w"
        refine ⟨_, _, ps ++ [i], i + 1, p', rfl, by omega, by simp [hps], zp, by rw [ew]; simp, sm4.updN nDH, by rw [upd_ne nDw]; exact hwy4, T4.updN hDrs, ?_⟩
        rw [upd_same, List.map_append]
        rfl
      · rw [decide_eq_true (show ((W (l.drop (i + 1)) (m.drop (j + 1)) : Nat) : Int) ≤ (p' : Int) by omega)]
        rw [wayAt_pass zp] at ew
        rw [W_cons, if_pos rfl] at hp'
        tm_at "w"
        refine i_turn ?_
        refine ⟨fun σ' H' => σ' = [some (.str (S l)), some (.str (S m)), some (.int (p : Int)), some (.ref wy), some (.int ((p' - W (l.drop (i + 1)) (m.drop (j + 1)) : Nat) : Int)), some (.ref D), some (.int (i : Int)), some (.int (j : Nat)), some (.str (S [c]))] ∧ H' = H5, ?_, ?_⟩
        · tm_at "w"
          refine i_ix1 (by omega) hc ?_
          tm_at "w"
          try rw [decide_eq_true rfl]
          tm_at "w"
          refine i_ixL (v := .ref b) (SqL.of1 hwy4) (atI_nat (j := i + 1) (by rw [List.getElem?_map, hb]; rfl)) ?_
          tm_at "w"
          refine i_ixL (v := .int ((W (l.drop (i + 1)) (m.drop (j + 1)) : Nat) : Int)) (SqL.of1 gb) (atI_nat (j := j + 1) (by rw [List.getElem?_map, wrow_get _ _ (by omega)]; rfl)) ?_
          tm_at "w"
          refine ⟨?_, rfl⟩
          rw [show (p' : Int) - ((W (l.drop (i + 1)) (m.drop (j + 1)) : Nat) : Int) = ((p' - W (l.drop (i + 1)) (m.drop (j + 1)) : Nat) : Int) by omega]
          rfl
        · rintro σ' H' ⟨rfl, rfl⟩
          tm_at "w"
          exact ⟨l.length - (i + 1), by omega, i + 1, _, rfl, by omega, rfl, by omega, ew, rfl⟩
    · rw [decide_eq_false (fun y => zc (by injection y))]
      rw [wayAt_skip zc] at ew
      rw [W_cons, if_neg zc, Nat.add_zero] at hp'
      tm_at "w"
      refine i_turn ?_
      refine ⟨fun σ' H' => σ' = [some (.str (S l)), some (.str (S m)), some (.int (p : Int)), some (.ref wy), some (.int (p' : Int)), some (.ref D), some (.int (i : Int)), some (.int (j : Nat)), some (.str (S [d]))] ∧ H' = H5, ?_, ?_⟩
      · tm_at "w"
        refine i_ix1 (by omega) hc ?_
        tm_at "w"
        rw [decide_eq_false (fun y => zc (by injection y))]
        tm_at "w"
        exact ⟨rfl, rfl⟩
      · rintro σ' H' ⟨rfl, rfl⟩
        tm_at "w"
        exact ⟨l.length - (i + 1), by omega, i + 1, _, rfl, by omega, rfl, hp', ew, rfl⟩
  · rintro σ H' ⟨v7, v8, ps, i, p', rfl, hi, hps, hp', ew, sm3, hwy3, T3, hD3⟩
    rw [List.drop_length, wayAt_nil, List.append_nil] at ew
    tm_at "w"
    exact q D H' nDH sm3 (by rw [ew]; exact hD3)
/-! law_hand_1(cell, k): slots 0 cell, 1 k, 2 digits -/
abbrev N_law_hand_1 : List Str := ["cell", "k", "digits"]
def t_law_hand_1 (K : PySem.W.Frag) : TS :=
  (tSeq (tAsg (tC (.int 0)) (gName 2)) (Evl.tCut (tIfS (tTest (tOp Lv.rGe (tVar 0) (tOp Lv.rPow (tC (.int 10)) (tC (.int 18))))) (tAsg (tVar 0) (gName 2)) tNext) (tRet (tLst (tCons (tVar 2) (tCons (tOp Lv.rMod (tOp Lv.rMul (tOp Lv.rAdd (tOp Lv.rAdd (tOp Lv.rMod (tVar 0) (tC (.int 2147483563))) (tOp Lv.rMul (tC (.int 6271)) (tVar 1))) (tC (.int 3))) (tC (.int 40014))) (tC (.int 2147483563))) tNil))))))
/-- a new hand -/
def sp_law_hand_1 (K : PySem.W.Frag) : Sp := fun vs H Q _ => ∃ (c k : Int), vs = [.int c, .int k] ∧ ∀ p H', H p = none → Hd H' p → Same H H' → Q (.ref p) H'
theorem i_law_hand_1 {K : PySem.W.Frag} {c k : Int} {H : Hp} {Q : VK} {E : XK} (q : ∀ p H', H p = none → Hd H' p → Same H H' → Q (.ref p) H') : sp_law_hand_1 K [.int c, .int k] H Q E := ⟨c, k, rfl, q⟩
theorem pure_law_hand_1 {K : PySem.W.Frag} (vs : List V) (H : Hp) (Q : VK) (E : XK) (h : sp_law_hand_1 K vs H Q E) : t_law_hand_1 K { nx := fun _ H' => Q .non H', rt := Q } (start N_law_hand_1 vs) H := by
  obtain ⟨c, k, rfl, q⟩ := h
  unfold t_law_hand_1
  tm_at "w"
  refine ⟨fun σ' H' => ∃ d : Int, 0 ≤ d ∧ σ' = [some (.int c), some (.int k), some (.int d)] ∧ H' = H, ?_, ?_⟩
  · tm_at "w"
    refine if_dec (fun e => ?_) (fun e => ?_)
    · tm_at "w"
      have e' : (1000000000000000000 : Int) ≤ c := e
      exact ⟨c, by omega, rfl, rfl⟩
    · tm_at "w"
      exact ⟨0, by omega, rfl, rfl⟩
  · rintro σ' H' ⟨d, hd, rfl, rfl⟩
    tm_at "w"
    refine ⟨by tm_at "z", fun p np => ?_⟩
    refine q p _ np ⟨d, _, upd_same, hd, Int.emod_nonneg _ (by omega), ?_⟩ (same_new np)
    have := Int.emod_lt_of_pos ((c % 2147483563 + 6271 * k + 3) * 40014) (show (0 : Int) < 2147483563 by decide)
    omega
/-! law_draw_1(hand, limit): slots 0 hand, 1 limit, 2 got -/
abbrev N_law_draw_1 : List Str := ["hand", "limit", "got"]
def t_law_draw_1 (K : PySem.W.Frag) : TS :=
  (tSeq (tIfS (tTest (tOp Lv.rGt (tOp (rIxL K) (tVar 0) (tC (.int 0))) (tC (.int 0)))) (tSeq (tAsg (tOp Lv.rMod (tOp (rIxL K) (tVar 0) (tC (.int 0))) (tVar 1)) (gName 2)) (tSeq (tAsg (tOp Lv.rDiv (tOp (rIxL K) (tVar 0) (tC (.int 0))) (tVar 1)) (gSub (tVar 0) (tC (.int 0)) rSetL)) (tRet (tVar 2)))) tNext) (tSeq (tAsg (tOp Lv.rMod (tOp Lv.rAdd (tOp Lv.rAdd (tOp Lv.rMul (tOp (rIxL K) (tVar 0) (tC (.int 1))) (tOp (rIxL K) (tVar 0) (tC (.int 1)))) (tOp Lv.rMul (tC (.int 52774)) (tOp (rIxL K) (tVar 0) (tC (.int 1))))) (tC (.int 40692))) (tC (.int 2147483563))) (gSub (tVar 0) (tC (.int 1)) rSetL)) (tRet (tOp Lv.rMod (tOp Lv.rDiv (tOp (rIxL K) (tVar 0) (tC (.int 1))) (tC (.int 16))) (tVar 1)))))
/-- a draw below n: the hand is turned -/
def sp_law_draw_1 (K : PySem.W.Frag) : Sp := fun vs H Q _ => ∃ (h : Addr) (n : Int), vs = [.ref h, .int n] ∧ Hd H h ∧ 0 < n ∧ n < 1073741824 ∧ ∀ r H', 0 ≤ r → r < n → Hd H' h → But h H H' → Q (.int r) H'
theorem i_law_draw_1 {K : PySem.W.Frag} {h : Addr} {n : Int} {H : Hp} {Q : VK} {E : XK} (hd : Hd H h) (h0 : 0 < n) (h1 : n < 1073741824) (k : ∀ r H', 0 ≤ r → r < n → Hd H' h → But h H H' → Q (.int r) H') : sp_law_draw_1 K [.ref h, .int n] H Q E := ⟨h, n, rfl, hd, h0, h1, k⟩
theorem pure_law_draw_1 {K : PySem.W.Frag} (vs : List V) (H : Hp) (Q : VK) (E : XK) (h : sp_law_draw_1 K vs H Q E) : t_law_draw_1 K { nx := fun _ H' => Q .non H', rt := Q } (start N_law_draw_1 vs) H := by
  obtain ⟨h, n, rfl, ⟨d, m, hh, hd, hm, hm2⟩, h0, h1, k⟩ := h
  unfold t_law_draw_1
  tm_at "w"
  refine if_dec (fun c => ?_) (fun c => ?_)
  · tm_at "w"
    refine i_setL hh rfl ?_
    tm_at "w"
    exact k _ _ (Int.emod_nonneg _ (by omega)) (Int.emod_lt_of_pos _ h0) ⟨d / n, m, upd_same, Int.ediv_nonneg hd (by omega), hm, hm2⟩ But.upd
  · tm_at "w"
    refine i_setL hh rfl ?_
    tm_at "w"
    refine k _ _ (Int.emod_nonneg _ (by omega)) (Int.emod_lt_of_pos _ h0) ⟨d, _, upd_same, hd, Int.emod_nonneg _ (by omega), ?_⟩ But.upd
    have := Int.emod_lt_of_pos (m * m + 52774 * m + 40692) (show (0 : Int) < 2147483563 by decide)
    omega
/-! law_cells_0(script, many): slots 0 script, 1 many -/
abbrev N_law_cells_0 : List Str := ["script", "many"]
def t_law_cells_0 (K : PySem.W.Frag) : TS :=
  (tRet (Lv.tListEn K (tOp L2.rCat (tSl (rSlL K) (tVar 0) tNoPart (tPart (tVar 1))) (tOp L2.rRep (tLst (tCons (tC (.int 0)) tNil)) (tCB Lv.rIntB (tCons (tOp (Lv.rEqL K) (tVar 0) (tLst tNil)) tNil))))))
/-- the first cells with their places, one more where there are none: at most n + 1 of them -/
def sp_law_cells_0 (K : PySem.W.Frag) : Sp := fun vs H Q _ => ∃ (a : Addr) (ns : List Int) (n : Nat), vs = [.ref a, .int (n : Int)] ∧ SqL K H a (ns.map V.int) ∧ n ≤ 1000 ∧ ns.length ≤ 1000 ∧
  ∀ (H' : Hp) (p : Addr) (ts : List Addr) (cs : List Int), Same H H' → H p = none → ts.length = cs.length → cs.length ≤ 1000 → H' p = some (.lst (ts.map V.ref)) → (∀ (j : Nat) (t : Addr) (c : Int), ts[j]? = some t → cs[j]? = some c → H' t = some (.tup [.int (j : Int), .int c])) → Q (.ref p) H'
theorem pure_law_cells_0 {K : PySem.W.Frag} (vs : List V) (H : Hp) (Q : VK) (E : XK) (h : sp_law_cells_0 K vs H Q E) : t_law_cells_0 K { nx := fun _ H' => Q .non H', rt := Q } (start N_law_cells_0 vs) H := by
  obtain ⟨a, ns, n, rfl, hS, hn, hl, q⟩ := h
  unfold t_law_cells_0
  tm_at "w"
  refine i_slL hS fun p np => ?_
  have s1 := same_new (o := .lst (cutV (ns.map V.int) none (some (n : Int)))) np
  tm_at "w"
  refine ⟨by tm_at "z", fun p2 np2 => ?_⟩
  have s2 := same_new (o := .lst [.int 0]) np2
  tm_at "w"
  refine ⟨by tm_at "z", fun p3 np3 => ?_⟩
  have s3 := same_new (o := .lst []) np3
  refine i_r2L (ns := ns) (ms := []) ((s1.trans (s2.trans s3)).seq hS) (SqL.of1 upd_same) ?_
  tm_at "w"
  refine i_rep (s3 _ _ upd_same) ?_ ?_ ?_ fun p4 np4 => ?_
  · split <;> omega
  · split <;> omega
  · refine le_line ?_
    split <;> decide
  · have s4 := same_new (o := .lst (List.replicate (Int.toNat (if decide (ns = []) = true then 1 else 0)) [V.int 0]).flatten) np4
    refine i_cat ((s2.trans (s3.trans s4)) _ _ upd_same) upd_same ?_ fun p5 np5 => ?_
    · refine le_line ?_
      have h1 := cutV_length (ns.map V.int) none (some (n : Int))
      rw [List.length_map] at h1
      have h2 : (List.replicate (Int.toNat (if decide (ns = []) = true then 1 else 0)) [V.int 0]).flatten.length ≤ 1 := by
        split <;> decide
      omega
    · have s5 := same_new (o := .lst (cutV (ns.map V.int) none (some (n : Int)) ++ (List.replicate (Int.toNat (if decide (ns = []) = true then 1 else 0)) [V.int 0]).flatten)) np5
      have e : cutV (ns.map V.int) none (some (n : Int)) ++ (List.replicate (Int.toNat (if decide (ns = []) = true then 1 else 0)) [V.int 0]).flatten = (cutL ns none (some (n : Int)) ++ (if ns = [] then [0] else [])).map V.int := by
        rw [List.map_append, cutV_map]
        by_cases h : ns = []
        · subst h; rfl
        · simp [h]
      have s := s1.trans (s2.trans (s3.trans (s4.trans s5)))
      refine ⟨p5, _, rfl, SqL.of1 (upd_same.trans (by rw [e])), fun H' p6 ts sm np6 hlen hp ht => ?_⟩
      refine q H' p6 ts _ (s.trans sm) (s.free np6) (by rw [hlen, List.length_map]) ?_ hp fun j t c h1 h2 => ht j t _ h1 (by rw [List.getElem?_map, h2]; rfl)
      rw [List.length_append]
      have h1 := cutL_length ns none (some (n : Int))
      have h2 : (if ns = [] then [(0 : Int)] else []).length ≤ 1 := by split <;> decide
      by_cases h : ns = []
      · subst h; simp [cutL]
      · rw [if_neg h]; simp only [List.length_nil]; omega
/-- a law's own walk over its cells -/
theorem cells_for {K : PySem.W.Frag} {tb : TS} {D : Ends} {σ : L2.St} {H : Hp} {a : Addr} {ns : List Int} {z : Int} {x1 x2 : Nat} (hv : σ[0]? = some (some (.ref a))) (hS : SqL K H a (ns.map V.int)) (hz : 0 ≤ z ∧ z ≤ 1000) (hl : ns.length ≤ 63)
    (P : Hp → Nat → L2.St → Hp → Prop) (h0 : ∀ H1, Same H H1 → P H1 0 σ H1) (hs : ∀ H1 i σ H', P H1 i σ H' → Same H1 H')
    (step : ∀ H1 i (c : Int) σ H' (n' : L2.St → Hp → Prop) (r' : VK) (b' c' : L2.St → Hp → Prop), Same H H1 → P H1 i σ H' → n' = P H1 (i + 1) → r' = D.rt → tb { nx := n', rt := r', bk := b', ct := c' } ((σ.set x1 (some (.int (i : Nat)))).set x2 (some (.int c))) H')
    (last : ∀ H1 i σ H', Same H H1 → P H1 i σ H' → D.nx σ H') :
    tFor (iList K (tCall (sp_law_cells_0 K) [] E0 (tCons (tVar 0) (tCons (tC (.int z)) tNil)))) (gTup K 2 (gCons (gName x1) (gCons (gName x2) gNil))) tb D σ H := by
  refine foM (fun J H1 => ∃ (p : Addr) (ts : List Addr) (cs : List Int), J = Itl K p ∧ Same H H1 ∧ ts.length = cs.length ∧ H1 p = some (.lst (ts.map V.ref)) ∧ (∀ (j : Nat) (t : Addr) (c : Int), ts[j]? = some t → cs[j]? = some c → H1 t = some (.tup [.int (j : Int), .int c]))) (fun R k => ?_) ?_
  · obtain ⟨n, rfl⟩ := Int.eq_ofNat_of_zero_le hz.1
    refine i_list ?_
    refine i_call ?_
    refine i_cons ?_
    refine i_var hv ?_
    tm_at "w"
    refine ⟨a, ns, n, rfl, hS, by omega, by omega, fun H' p ts cs sm np hlen hle hp ht => ?_⟩
    refine ⟨p, rfl, ⟨_, SqL.of1 hp⟩, ?_⟩
    exact k _ _ ⟨p, ts, cs, rfl, sm, hlen, hp, ht⟩
  · rintro J H1 ⟨p, ts, cs, rfl, sm, hlen, hp, ht⟩
    refine f_l (xs := ts.map V.ref) ⟨P H1, h0 H1 sm, fun i σ H' _ h => SqL.of1 ((hs _ _ _ _ h) _ _ hp), ?_, fun σ H' h => last _ _ _ _ sm h⟩
    rintro i x σ H0 H' hi hP ⟨rfl, hx⟩
    rw [List.length_map] at hi
    obtain ⟨t, et⟩ : ∃ t, ts[i]? = some t := ⟨_, List.getElem?_eq_getElem hi⟩
    obtain ⟨c, ec⟩ : ∃ c, cs[i]? = some c := ⟨_, List.getElem?_eq_getElem (by omega)⟩
    rw [List.getElem?_map, et] at hx
    have ex : V.ref t = x := Option.some.inj hx
    subst ex
    refine i_gTup (SqT.of1 ((hs _ _ _ _ hP) _ _ (ht i t c et ec))) rfl ?_
    tm_at "w"
    exact step H1 i c σ H' _ _ _ _ sm hP rfl rfl
/-- the same where the list at g, made ahead, is changed by the turns -/
theorem cells_forB {K : PySem.W.Frag} {tb : TS} {D : Ends} {σ : L2.St} {H : Hp} {a g : Addr} {ns : List Int} {xs0 : List V} {z : Int} {x1 x2 : Nat} (hg : H g = some (.lst xs0)) (hv : σ[0]? = some (some (.ref a))) (hS : SqL K H a (ns.map V.int)) (hz : 0 ≤ z ∧ z ≤ 1000) (hl : ns.length ≤ 63)
    (P : Hp → Nat → L2.St → Hp → Prop) (h0 : ∀ H1, Same H H1 → P H1 0 σ H1) (hs : ∀ H1 i σ H', P H1 i σ H' → But g H1 H')
    (step : ∀ H1 i (c : Int) σ H' (n' : L2.St → Hp → Prop) (r' : VK) (b' c' : L2.St → Hp → Prop), i < 1001 → Same H H1 → P H1 i σ H' → n' = P H1 (i + 1) → r' = D.rt → tb { nx := n', rt := r', bk := b', ct := c' } ((σ.set x1 (some (.int (i : Nat)))).set x2 (some (.int c))) H')
    (last : ∀ H1 i σ H', Same H H1 → P H1 i σ H' → D.nx σ H') :
    tFor (iList K (tCall (sp_law_cells_0 K) [] E0 (tCons (tVar 0) (tCons (tC (.int z)) tNil)))) (gTup K 2 (gCons (gName x1) (gCons (gName x2) gNil))) tb D σ H := by
  refine foM (fun J H1 => ∃ (p : Addr) (ts : List Addr) (cs : List Int), J = Itl K p ∧ Same H H1 ∧ H p = none ∧ ts.length = cs.length ∧ cs.length ≤ 1000 ∧ H1 p = some (.lst (ts.map V.ref)) ∧ (∀ (j : Nat) (t : Addr) (c : Int), ts[j]? = some t → cs[j]? = some c → H1 t = some (.tup [.int (j : Int), .int c]))) (fun R k => ?_) ?_
  · obtain ⟨n, rfl⟩ := Int.eq_ofNat_of_zero_le hz.1
    refine i_list (i_call (i_cons (i_var hv ?_)))
    tm_at "w"
    refine ⟨a, ns, n, rfl, hS, by omega, by omega, fun H' p ts cs sm np hlen hle hp ht => ?_⟩
    exact ⟨p, rfl, ⟨_, SqL.of1 hp⟩, k _ _ ⟨p, ts, cs, rfl, sm, np, hlen, hle, hp, ht⟩⟩
  · rintro J H1 ⟨p, ts, cs, rfl, sm, np, hlen, hle, hp, ht⟩
    have npg : p ≠ g := (ne_of_none hg np).symm
    refine f_l (xs := ts.map V.ref) ⟨P H1, h0 H1 sm, fun i σ H' _ h => SqL.of1 ((hs _ _ _ _ h).at hp npg), ?_, fun σ H' h => last _ _ _ _ sm h⟩
    rintro i x σ H0 H' hi hP ⟨rfl, hx⟩
    rw [List.length_map] at hi
    obtain ⟨t, et⟩ : ∃ t, ts[i]? = some t := ⟨_, List.getElem?_eq_getElem hi⟩
    obtain ⟨c, ec⟩ : ∃ c, cs[i]? = some c := ⟨_, List.getElem?_eq_getElem (by omega)⟩
    rw [List.getElem?_map, et] at hx
    have ex : V.ref t = x := Option.some.inj hx
    subst ex
    have gt := ht i t c et ec
    have ntg : t ≠ g := ne_of gt (sm _ _ hg) (by intro q; cases q)
    refine i_gTup (SqT.of1 ((hs _ _ _ _ hP).at gt ntg)) rfl ?_
    tm_at "w"
    exact step H1 i c σ H' _ _ _ _ (by omega) sm hP rfl rfl
/-! law_pool_0(hand): slots 0 hand, 1 small, 2 many, 3 first, 4 step, 5 k -/
abbrev N_law_pool_0 : List Str := ["hand", "small", "many", "first", "step", "k"]
def t_law_pool_0 (K : PySem.W.Frag) : TS :=
  (tSeq (tAsg (tC (.str (S [97, 98, 99, 100, 101, 102, 103, 104, 105, 106, 107, 108, 109, 110, 111, 112, 113, 114, 115, 116, 117, 118, 119, 120, 121, 122]))) (gName 1)) (tSeq (tAsg (tOp (rIxL K) (tLst (tCons (tC (.int 1)) (tCons (tC (.int 2)) (tCons (tC (.int 3)) (tCons (tC (.int 26)) tNil))))) (tCall (sp_law_draw_1 K) [] E0 (tCons (tVar 0) (tCons (tC (.int 4)) tNil)))) (gName 2)) (tSeq (tAsg (tCall (sp_law_draw_1 K) [] E0 (tCons (tVar 0) (tCons (tC (.int 26)) tNil))) (gName 3)) (tSeq (tAsg (tOp (rIxL K) (tLst (tCons (tC (.int 1)) (tCons (tC (.int 3)) (tCons (tC (.int 5)) (tCons (tC (.int 7)) (tCons (tC (.int 9)) (tCons (tC (.int 11)) tNil))))))) (tCall (sp_law_draw_1 K) [] E0 (tCons (tVar 0) (tCons (tC (.int 6)) tNil)))) (gName 4)) (tRet (tLc (iRng1 (tCons (tVar 2) tNil)) (gName 5) tYes (tOp Lv.rIxT1 (tVar 1) (tOp Lv.rMod (tOp Lv.rAdd (tVar 3) (tOp Lv.rMul (tVar 4) (tVar 5))) (tC (.int 26)))) [5]))))))
/-- a pool: one to twenty-six small letters -/
def sp_law_pool_0 (K : PySem.W.Frag) : Sp := fun vs H Q _ => ∃ (h : Addr), vs = [.ref h] ∧ Hd H h ∧ ∀ p H' cs, Hd H' h → But h H H' → H p = none → H' p = some (.lst (cs.map vc)) → 1 ≤ cs.length → cs.length ≤ 26 → Low cs → Q (.ref p) H'
theorem i_law_pool_0 {K : PySem.W.Frag} {h : Addr} {H : Hp} {Q : VK} {E : XK} (hd : Hd H h) (q : ∀ p H' cs, Hd H' h → But h H H' → H p = none → H' p = some (.lst (cs.map vc)) → 1 ≤ cs.length → cs.length ≤ 26 → Low cs → Q (.ref p) H') : sp_law_pool_0 K [.ref h] H Q E := ⟨h, rfl, hd, q⟩
theorem pure_law_pool_0 {K : PySem.W.Frag} (vs : List V) (H : Hp) (Q : VK) (E : XK) (h : sp_law_pool_0 K vs H Q E) : t_law_pool_0 K { nx := fun _ H' => Q .non H', rt := Q } (start N_law_pool_0 vs) H := by
  obtain ⟨h, rfl, hd, q⟩ := h
  unfold t_law_pool_0
  tm_at "w"
  refine ⟨by tm_at "z", fun p1 n1 => ?_⟩
  tm_at "w"
  refine i_law_draw_1 (hd.updN (hd.ne n1)) (by omega) (by omega) fun r1 H1 a1 b1 hd1 bt1 => ?_
  have B1 : But h H H1 := ((same_new n1).but).trans bt1
  refine i_pickI (ns := [1, 2, 3, 26]) 1 26 (SqL.of1 (bt1.at upd_same (hd.ne n1).symm)) a1 (by simpa using b1) (by decide) fun many m1 m2 => ?_
  tm_at "w"
  refine i_law_draw_1 hd1 (by omega) (by omega) fun first H2 a2 b2 hd2 bt2 => ?_
  tm_at "w"
  refine ⟨by tm_at "z", fun p3 n3 => ?_⟩
  tm_at "w"
  refine i_law_draw_1 (hd2.updN (hd2.ne n3)) (by omega) (by omega) fun r3 H3 a3 b3 hd3 bt3 => ?_
  have B3 : But h H H3 := B1.trans (bt2.trans (((same_new n3).but).trans bt3))
  refine i_pickI (ns := [1, 3, 5, 7, 9, 11]) 1 11 (SqL.of1 (bt3.at upd_same (hd2.ne n3).symm)) a3 (by simpa using b3) (by decide) fun step s1 s2 => ?_
  tm_at "w"
  tm_at "lc"
  refine c_r fun D nD => ⟨fun i acc H' => H' = upd H3 D (.lst acc) ∧ ∃ cs : List Nat, acc = cs.map vc ∧ cs.length = i ∧ Low cs, ⟨rfl, [], rfl, rfl, Low.nil⟩, ?_, ?_⟩
  · rintro i acc x H' H'' hi hl hD ⟨rfl, cs, rfl, hlen, lw⟩ ⟨rfl, rfl⟩
    tm_at "w"
    refine ⟨rfl, ?_⟩
    tm_at "w"
    refine i_pickS (by decide) (Int.emod_nonneg _ (by omega)) (Int.emod_lt_of_pos _ (by decide)) fun c hc => ?_
    refine lc_put hD hl (by omega) ⟨upd_upd, cs ++ [c], by rw [List.map_append]; rfl, by simp [hlen], lw.app (Low.one (low_abc c hc))⟩
  · rintro acc H' hl hD ⟨rfl, cs, rfl, hlen, lw⟩
    have nh : h ≠ D := hd3.ne nD
    have nD0 : H D = none := by
      cases e : H D with
      | none => rfl
      | some o =>
        rw [B3 D o nh.symm e] at nD
        cases nD
    exact q D _ cs (hd3.updN nh) (B3.updN nD0) nD0 hD (by omega) (by omega) lw
/-! law_row_1(hand, pool, many): slots 0 hand, 1 pool, 2 many, 3 way, 4 piece, 5 found, 6 turn, 7 k -/
abbrev N_law_row_1 : List Str := ["hand", "pool", "many", "way", "piece", "found", "turn", "k"]
def t_law_row_1 (K : PySem.W.Frag) : TS :=
  (tSeq (tAsg (tCall (sp_law_draw_1 K) [] E0 (tCons (tVar 0) (tCons (tC (.int 4)) tNil))) (gName 3)) (tSeq (tIfS (tTest (tOp Lv.rEqI (tVar 3) (tC (.int 1)))) (tSeq (tAsg (tLc (iRng1 (tCons (tOp Lv.rAdd (tC (.int 1)) (tCall (sp_law_draw_1 K) [] E0 (tCons (tVar 0) (tCons (tC (.int 4)) tNil)))) tNil)) (gName 7) tYes (tOp (rIxL K) (tVar 1) (tCall (sp_law_draw_1 K) [] E0 (tCons (tVar 0) (tCons (tCB (Lv.rLenL K) (tCons (tVar 1) tNil)) tNil)))) [7]) (gName 4)) (tRet (tBM K "str" (Lv.rJoin K) (tC (.str (S []))) (tCons (tLc (iRng1 (tCons (tVar 2) tNil)) (gName 7) tYes (tOp (rIxL K) (tVar 4) (tOp Lv.rMod (tVar 7) (tCB (Lv.rLenL K) (tCons (tVar 4) tNil)))) [7]) tNil)))) tNext) (tSeq (tIfS (tTest (tOp Lv.rEqI (tVar 3) (tC (.int 2)))) (tSeq (tAsg (tOp L2.rRep (tLst (tCons (tOp (rIxL K) (tVar 1) (tC (.int 0))) tNil)) (tVar 2)) (gName 5)) (tSeq (tFor (iRng1 (tCons (tOp Lv.rMul (tC (.int 3)) (tCB Lv.rIntB (tCons (tOp Lv.rGt (tVar 2) (tC (.int 0))) tNil))) tNil)) (gName 6) (tAsg (tOp (rIxL K) (tVar 1) (tCall (sp_law_draw_1 K) [] E0 (tCons (tVar 0) (tCons (tCB (Lv.rLenL K) (tCons (tVar 1) tNil)) tNil)))) (gSub (tVar 5) (tCall (sp_law_draw_1 K) [] E0 (tCons (tVar 0) (tCons (tVar 2) tNil))) rSetL))) (tRet (tBM K "str" (Lv.rJoin K) (tC (.str (S []))) (tCons (tVar 5) tNil))))) tNext) (tRet (tBM K "str" (Lv.rJoin K) (tC (.str (S []))) (tCons (tLc (iRng1 (tCons (tVar 2) tNil)) (gName 7) tYes (tOp (rIxL K) (tVar 1) (tCall (sp_law_draw_1 K) [] E0 (tCons (tVar 0) (tCons (tCB (Lv.rLenL K) (tCons (tVar 1) tNil)) tNil)))) [7]) tNil))))))
def sp_law_row_1 (K : PySem.W.Frag) : Sp := fun vs H Q _ => ∃ (h p : Addr) (cs : List Nat) (n : Nat), vs = [.ref h, .ref p, .int (n : Int)] ∧ Hd H h ∧ H p = some (.lst (cs.map vc)) ∧ 1 ≤ cs.length ∧ cs.length ≤ 1000 ∧ Low cs ∧ n ≤ 80 ∧
  ∀ l H', l.length = n → Low l → Hd H' h → But h H H' → Q (.str (S l)) H'
theorem i_law_row_1 {K : PySem.W.Frag} {h p : Addr} {cs : List Nat} {n : Nat} {H : Hp} {Q : VK} {E : XK} (hd : Hd H h) (hp : H p = some (.lst (cs.map vc))) (c1 : 1 ≤ cs.length) (c2 : cs.length ≤ 1000) (lw : Low cs) (hn : n ≤ 80)
  (q : ∀ l H', l.length = n → Low l → Hd H' h → But h H H' → Q (.str (S l)) H') : sp_law_row_1 K [.ref h, .ref p, .int (n : Int)] H Q E := ⟨h, p, cs, n, rfl, hd, hp, c1, c2, lw, hn, q⟩
/-- [pool[_law_draw(hand, len(pool))] for k in range(n)] -/
theorem lc_drawn {K : PySem.W.Frag} {h p : Addr} {cs : List Nat} {n : Nat} {H : Hp} {Q : VK} {σ : L2.St} (hs0 : ∀ x, ((wipe σ [7]).set 7 (some x))[0]? = some (some (.ref h))) (hs1 : ∀ x, ((wipe σ [7]).set 7 (some x))[1]? = some (some (.ref p))) (hw : ∀ x, wipe ((wipe σ [7]).set 7 (some x)) [7] = wipe σ [7])
    (hd : Hd H h) (hp : H p = some (.lst (cs.map vc))) (c1 : 1 ≤ cs.length) (c2 : cs.length ≤ 1000) (lw : Low cs) (hn : n ≤ 1000)
    (q : ∀ D l H', H D = none → l.length = n → Low l → Hd H' h → But h H H' → H' D = some (.lst (l.map vc)) → Q (.ref D) H') :
    LcN n (YR 0) (gName 7) tYes (tOp (rIxL K) (tVar 1) (tCall (sp_law_draw_1 K) [] E0 (tCons (tVar 0) (tCons (tCB (Lv.rLenL K) (tCons (tVar 1) tNil)) tNil)))) [7] σ H Q := by
  have np : p ≠ h := hd.neC hp c1
  intro D nD
  have nh : h ≠ D := hd.ne nD
  have nDp : p ≠ D := ne_of_none hp nD
  refine ⟨fun i acc H' => Hd H' h ∧ But h H H' ∧ ∃ l : List Nat, acc = l.map vc ∧ l.length = i ∧ Low l, ⟨hd.updN nh, (But.refl _ _).updN nD, [], rfl, rfl, Low.nil⟩, ?_, ?_⟩
  · rintro i acc x H' H'' hi hl hD ⟨hd', b', l, rfl, hlen, lw'⟩ ⟨rfl, rfl⟩
    refine i_gName ⟨hw _, ?_⟩
    refine i_tYes (iteT (i_op (i_var (hs1 _) (i_call (i_cons (i_var (hs0 _) (i_cons (i_cb (i_cons (i_var (hs1 _) ?_))))))))))
    tm_at "w"
    refine i_lenL (SqL.of1 (b'.at hp np)) ?_
    tm_at "w"
    refine i_law_draw_1 hd' (by simp; omega) (by simp; omega) fun r H1 r0 r1 hd1 b1 => ?_
    refine i_pickC (cs := cs) (SqL.of1 (b1.at (b'.at hp np) np)) r0 (by simpa using r1) fun c hc => ?_
    refine lc_put (b1.at hD nh.symm) hl (by omega) ⟨hd1.updN nh, (b'.trans b1).updN nD, l ++ [c], by rw [List.map_append]; rfl, by simp [hlen], lw'.app (Low.one (lw c hc))⟩
  · rintro acc H' hl hD ⟨hd', b', l, rfl, hlen, lw'⟩
    exact q D l H' nD (by simpa using hlen) lw' hd' b' hD
theorem pure_law_row_1 {K : PySem.W.Frag} (vs : List V) (H : Hp) (Q : VK) (E : XK) (h : sp_law_row_1 K vs H Q E) : t_law_row_1 K { nx := fun _ H' => Q .non H', rt := Q } (start N_law_row_1 vs) H := by
  obtain ⟨h, p, cs, n, rfl, hd, hp, c1, c2, lw, hn, q⟩ := h
  have np : p ≠ h := hd.neC hp c1
  unfold t_law_row_1
  tm_at "w"
  refine i_law_draw_1 hd (by omega) (by omega) fun way H1 a1 b1 hd1 bt1 => ?_
  have hp1 := bt1.at hp np
  tm_at "w"
  refine if_dec (fun c => ?_) (fun c => ?_)
  · tm_at "w"
    refine lcM (fun J H2 => ∃ r : Int, J = Itr 0 (1 + r).toNat ∧ 0 ≤ r ∧ r < 4 ∧ Hd H2 h ∧ But h H1 H2) (fun R' k' => ?_) ?_
    · tm_at "w"
      refine i_law_draw_1 hd1 (by omega) (by omega) fun r H2 a2 b2 hd2 bt2 => ?_
      tm_at "w"
      exact k' _ _ ⟨r, rfl, a2, b2, hd2, bt2⟩
    rintro J H2 ⟨r, rfl, a2, b2, hd2, bt2⟩
    refine c_r (lc_drawn (fun _ => rfl) (fun _ => rfl) (fun _ => rfl) hd2 (bt2.at hp1 np) c1 c2 lw (by omega) fun D l H3 nD hl lw3 hd3 bt3 hD => ?_)
    have nDh : D ≠ h := (hd2.ne nD).symm
    tm_at "w"
    tm_at "lc"
    refine c_r fun D2 nD2 => ?_
    have nD2' : H D2 = none := small_none (bt1.trans (bt2.trans bt3)) (hd3.ne nD2).symm nD2
    refine ⟨fun i acc H' => H' = upd H3 D2 (.lst acc) ∧ ∃ m : List Nat, acc = m.map vc ∧ m.length = i ∧ Low m, ⟨rfl, [], rfl, rfl, Low.nil⟩, ?_, ?_⟩
    · rintro i acc x H' H'' hi hl2 hD2 ⟨rfl, m, rfl, hlen, lw'⟩ ⟨rfl, rfl⟩
      tm_at "w"
      refine ⟨rfl, ?_⟩
      have hD' : (upd H3 D2 (.lst (m.map vc))) D = some (.lst (l.map vc)) := by rw [upd_ne (ne_of_none hD nD2)]; exact hD
      tm_at "w"
      refine i_lenL (SqL.of1 hD') ?_
      refine i_rI (by show (0 : Int) < _; rw [List.length_map]; omega) ?_
      refine i_pickC (cs := l) (SqL.of1 hD') (Int.emod_nonneg _ (by rw [List.length_map]; omega)) ?_ fun c hc => ?_
      · have := Int.emod_lt_of_pos (0 + (i : Int)) (show (0 : Int) < ((l.map vc).length : Nat) by rw [List.length_map]; omega)
        rw [List.length_map] at this ⊢
        exact this
      · exact lc_put hD2 hl2 (by omega) ⟨upd_upd, m ++ [c], by rw [List.map_append]; rfl, by simp [hlen], lw'.app (Low.one (lw3 c hc))⟩
    · rintro acc H' hl2 hD2 ⟨rfl, m, rfl, hlen, lw'⟩
      tm_at "w"
      refine i_joinC (SqL.of1 hD2) (by omega) ?_
      exact q m _ (by omega) lw' (hd3.updN (hd3.ne nD2)) ((bt1.trans (bt2.trans bt3)).updN nD2')
  · tm_at "w"
    refine if_dec (fun c => ?_) (fun c => ?_)
    · have hc0 : 0 < cs.length := by omega
      tm_at "w"
      refine i_ixL (v := vc cs[0]) (SqL.of1 hp1) (atI_nat (j := 0) (by rw [List.getElem?_map, List.getElem?_eq_getElem hc0]; rfl)) ?_
      tm_at "w"
      refine ⟨by tm_at "z", fun p1 n1 => ?_⟩
      tm_at "w"
      refine i_rep upd_same (by omega) (by omega) (le_line (by simp; omega)) fun p2 n2 => ?_
      have e : (List.replicate ((n : Int).toNat) [vc cs[0]]).flatten = (List.replicate n cs[0]).map vc := by
        rw [Int.toNat_natCast, List.map_replicate]
        clear hp hp1 q hn
        induction n with
        | zero => rfl
        | succ n ih => rw [List.replicate_succ, List.flatten_cons, ih, List.replicate_succ]; rfl
      rw [e]
      have sm := (same_new (o := .lst [vc cs[0]]) n1).trans (same_new (o := .lst ((List.replicate n cs[0]).map vc)) n2)
      have n2' : H1 p2 = none := (same_new n1).free n2
      have n2h : H p2 = none := small_none bt1 (hd1.ne n2').symm n2'
      have nh2 : h ≠ p2 := hd1.ne n2'
      have hd2 := Hd.same sm hd1
      have bt2 : But h H _ := bt1.trans sm.but
      have hl2 : (upd (upd H1 p1 (.lst [vc cs[0]])) p2 (.lst ((List.replicate n cs[0]).map vc))) p2 = some (.lst ((List.replicate n cs[0]).map vc)) := upd_same
      generalize upd (upd H1 p1 (.lst [vc cs[0]])) p2 (.lst ((List.replicate n cs[0]).map vc)) = H2 at hd2 bt2 hl2
      clear sm
      tm_at "w"
      have hm : (3 * (if decide (0 < (n : Int)) = true then 1 else 0) : Int) = (((if 0 < n then 3 else 0) : Nat) : Int) := by
        by_cases z : 0 < n
        · simp [z]
        · simp [z]
      refine fo (J := Itr 0 (if 0 < n then 3 else 0)) (H1 := H2) (fun R' k' => ?_) (f_r ?_)
      · tm_at "w"
        rw [hm, Int.toNat_natCast]
        exact k'
      refine ⟨fun i σ H' => ∃ (v6 : Option V) (l : List Nat), σ = [some (.ref h), some (.ref p), some (.int n), some (.int way), none, some (.ref p2), v6, none] ∧ Hd H' h ∧ But h H H' ∧ H' p2 = some (.lst (l.map vc)) ∧ l.length = n ∧ Low l, ?_, ?_, ?_⟩
      · refine ⟨none, List.replicate n cs[0], rfl, hd2, bt2, hl2, by simp, fun c hc => ?_⟩
        rw [(List.mem_replicate.mp hc).2]
        exact lw _ (List.getElem_mem hc0)
      · rintro i x σ H' H'' hi ⟨v6, l, rfl, hd', b', hl, hlen, lw'⟩ ⟨rfl, rfl⟩
        have hn0 : 0 < n := by
          by_cases z : 0 < n
          · exact z
          · rw [if_neg z] at hi; omega
        tm_at "w"
        refine i_lenL (SqL.of1 (b'.at hp np)) ?_
        tm_at "w"
        refine i_law_draw_1 hd' (by simp; omega) (by simp; omega) fun r H3 r0 r1 hd3 b3 => ?_
        refine i_pickC (cs := cs) (SqL.of1 (b3.at (b'.at hp np) np)) r0 (by simpa using r1) fun c hc => ?_
        tm_at "w"
        refine i_law_draw_1 hd3 (by omega) (by omega) fun r2 H4 s0 s1 hd4 b4 => ?_
        have hl4 := b4.at (b3.at hl nh2.symm) nh2.symm
        refine i_setL (j := r2.toNat) hl4 (by unfold ixN; rw [if_pos s0, List.length_map, if_pos (by omega)]) ?_
        tm_at "w"
        refine ⟨_, l.set r2.toNat c, rfl, hd4.updN nh2, (b'.trans (b3.trans b4)).updN n2h, ?_, by simp [hlen], ?_⟩
        · rw [upd_same, List.map_set]
        · intro d hdd
          rcases List.mem_or_eq_of_mem_set hdd with z | z
          · exact lw' d z
          · rw [z]; exact lw c hc
      · rintro σ H' ⟨v6, l, rfl, hd', b', hl, hlen, lw'⟩
        tm_at "w"
        refine i_joinC (SqL.of1 hl) (by omega) ?_
        exact q l _ hlen lw' hd' b'
    · tm_at "w"
      tm_at "lc"
      refine c_r (lc_drawn (fun _ => rfl) (fun _ => rfl) (fun _ => rfl) hd1 hp1 c1 c2 lw (by omega) fun D l H3 nD hl lw3 hd3 bt3 hD => ?_)
      tm_at "w"
      refine i_joinC (SqL.of1 hD) (by omega) ?_
      exact q l _ (by omega) lw3 hd3 (bt1.trans bt3)
/-! law_size_1(hand, k, most): slots 0 hand, 1 k, 2 most, 3 more, 4 size -/
abbrev N_law_size_1 : List Str := ["hand", "k", "most", "more", "size"]
def t_law_size_1 (K : PySem.W.Frag) : TS :=
  (tSeq (tIfS (tAnd (tTest (tOp Lv.rEqI (tVar 1) (tC (.int 0)))) (tTest (tOp Lv.rEqI (tCall (sp_law_draw_1 K) [] E0 (tCons (tVar 0) (tCons (tC (.int 8)) tNil))) (tC (.int 1))))) (tSeq (tAsg (tCall (sp_law_draw_1 K) [] E0 (tCons (tVar 0) (tCons (tC (.int 81)) tNil))) (gName 3)) (tRet (tOp (rIxL K) (tLst (tCons (tC (.int 80)) (tCons (tVar 3) tNil))) (tCall (sp_law_draw_1 K) [] E0 (tCons (tVar 0) (tCons (tC (.int 2)) tNil)))))) tNext) (tSeq (tAsg (tCall (sp_law_draw_1 K) [] E0 (tCons (tVar 0) (tCons (tC (.int 3)) tNil))) (gName 4)) (tRet (tCall (sp_law_draw_1 K) [] E0 (tCons (tVar 0) (tCons (tOp (rIxL K) (tLst (tCons (tC (.int 4)) (tCons (tC (.int 8)) (tCons (tOp Lv.rAdd (tVar 2) (tC (.int 1))) tNil)))) (tVar 4)) tNil))))))
def sp_law_size_1 (K : PySem.W.Frag) : Sp := fun vs H Q _ => ∃ (h : Addr) (k m : Int), vs = [.ref h, .int k, .int m] ∧ Hd H h ∧ 0 ≤ m ∧ m ≤ 80 ∧ ∀ r H', 0 ≤ r → r ≤ 80 → Hd H' h → But h H H' → Q (.int r) H'
theorem i_law_size_1 {K : PySem.W.Frag} {h : Addr} {k m : Int} {H : Hp} {Q : VK} {E : XK} (hd : Hd H h) (h0 : 0 ≤ m) (h1 : m ≤ 80) (q : ∀ r H', 0 ≤ r → r ≤ 80 → Hd H' h → But h H H' → Q (.int r) H') : sp_law_size_1 K [.ref h, .int k, .int m] H Q E := ⟨h, k, m, rfl, hd, h0, h1, q⟩
theorem pure_law_size_1 {K : PySem.W.Frag} (vs : List V) (H : Hp) (Q : VK) (E : XK) (h : sp_law_size_1 K vs H Q E) : t_law_size_1 K { nx := fun _ H' => Q .non H', rt := Q } (start N_law_size_1 vs) H := by
  obtain ⟨h, k, m, rfl, hd, m0, m1, q⟩ := h
  unfold t_law_size_1
  refine i_seq (if_cut (fun _ H1 => Hd H1 h ∧ But h H H1) (fun Q' k' => ?_) (fun H1 ⟨hd1, b1⟩ => ?_) (fun H1 ⟨hd1, b1⟩ => ?_))
  · tm_at "w"
    refine if_dec (fun c => ?_) (fun c => ?_)
    · tm_at "w"
      refine i_law_draw_1 hd (by omega) (by omega) fun r1 H1 a1 c1 hd1 b1 => ?_
      tm_at "w"
      exact k' _ _ ⟨hd1, b1⟩
    · exact k' _ _ ⟨hd, But.refl _ _⟩
  · tm_at "w"
    refine i_law_draw_1 hd1 (by omega) (by omega) fun r2 H2 a2 c2 hd2 b2 => ?_
    tm_at "w"
    refine ⟨by tm_at "z", fun p n => ?_⟩
    tm_at "w"
    refine i_law_draw_1 (hd2.updN (hd2.ne n)) (by omega) (by omega) fun r3 H3 a3 c3 hd3 b3 => ?_
    refine i_pickI (ns := [80, r2]) 0 80 (SqL.of1 (b3.at upd_same (hd2.ne n).symm)) a3 (by simpa using c3) ?_ fun w w0 w1 => ?_
    · intro x hx
      simp only [List.mem_cons, List.not_mem_nil, or_false] at hx
      omega
    · exact q w H3 w0 w1 hd3 (b1.trans (b2.trans ((same_new n).but.trans b3)))
  · tm_at "w"
    refine i_law_draw_1 hd1 (by omega) (by omega) fun r2 H2 a2 c2 hd2 b2 => ?_
    tm_at "w"
    refine ⟨by tm_at "z", fun p n => ?_⟩
    tm_at "w"
    refine i_pickI (ns := [4, 8, m + 1]) 1 81 (SqL.of1 upd_same) a2 (by simpa using c2) ?_ fun w w0 w1 => ?_
    · intro x hx
      simp only [List.mem_cons, List.not_mem_nil, or_false] at hx
      omega
    · tm_at "w"
      refine i_law_draw_1 (hd2.updN (hd2.ne n)) (by omega) (by omega) fun r3 H3 a3 c3 hd3 b3 => ?_
      exact q r3 H3 a3 (by omega) hd3 (b1.trans (b2.trans ((same_new n).but.trans b3)))
/-! law_ways_0(row, other): slots 0 row, 1 other, 2 found, 3 sign, 4 before, 5 here, 6 at, 7 letter -/
abbrev N_law_ways_0 : List Str := ["row", "other", "found", "sign", "before", "here", "at", "letter"]
def t_law_ways_0 (K : PySem.W.Frag) : TS :=
  (tSeq (tAsg (tLst (tCons (tOp L2.rCat (tLst (tCons (tC (.int 1)) tNil)) (tOp L2.rRep (tLst (tCons (tC (.int 0)) tNil)) (tCB Lv.rLenT (tCons (tVar 1) tNil)))) tNil)) (gName 2)) (tSeq (tFor (iStr (tVar 0)) (gName 3) (tSeq (tAsg (tOp (rIxL K) (tVar 2) (tUn Lv.rNeg (tC (.int 1)))) (gName 4)) (tSeq (tAsg (tCB (Lv.rListOf K) (tCons (tVar 4) tNil)) (gName 5)) (tSeq (tFor (Lv.iEnumS (tCons (tVar 1) tNil)) (gTup K 2 (gCons (gName 6) (gCons (gName 7) gNil))) (tIfS (tTest (tOp Lv.rEqS (tVar 7) (tVar 3))) (tAsg (tOp Lv.rAdd (tOp (rIxL K) (tVar 5) (tOp Lv.rAdd (tVar 6) (tC (.int 1)))) (tOp (rIxL K) (tVar 4) (tVar 6))) (gSub (tVar 5) (tOp Lv.rAdd (tVar 6) (tC (.int 1))) rSetL)) tNext)) (tDrop (tBM K "list" rAppend (tVar 2) (tCons (tVar 5) tNil))))))) (tRet (tVar 2))))
-- needs: M_ways Q_ways_from_0
/-- the law's own counting, from the beginning on -/
def sp_law_ways_0 (K : PySem.W.Frag) : Sp := fun vs H Q _ => ∃ (l m : List Nat), vs = [.str (S l), .str (S m)] ∧ l.length ≤ 1000 ∧ m.length ≤ 1000 ∧
  ∀ (p : Addr) (rs : List Addr) (H' : Hp), H p = none → Same H H' → rs.length = l.length + 1 → H' p = some (.lst (rs.map V.ref)) → Tab H' rs (fun r => frow (l.take r) m) → Q (.ref p) H'
theorem Tab.snoc {H : Hp} {rs : List Addr} {f : Nat → List Int} (T : Tab H rs f) {a : Addr} (ha : H a = some (.lst ((f rs.length).map V.int))) : Tab H (rs ++ [a]) f := by
  intro r b hr
  by_cases z : r < rs.length
  · rw [List.getElem?_append_left z] at hr
    exact T r b hr
  · rw [List.getElem?_append_right (by omega)] at hr
    rcases Nat.eq_zero_or_pos (r - rs.length) with e0 | e0
    · rw [e0] at hr
      have e1 : a = b := Option.some.inj hr
      have e2 : r = rs.length := by omega
      rw [← e1, e2]
      exact ha
    · rw [List.getElem?_eq_none (by simp; omega)] at hr; cases hr
theorem pure_law_ways_0 {K : PySem.W.Frag} (vs : List V) (H : Hp) (Q : VK) (E : XK) (h : sp_law_ways_0 K vs H Q E) : t_law_ways_0 K { nx := fun _ H' => Q .non H', rt := Q } (start N_law_ways_0 vs) H := by
  obtain ⟨l, m, rfl, hl, hm, q⟩ := h
  unfold t_law_ways_0
  tm_at "w"
  refine ⟨by tm_at "z", fun p1 n1 => ?_⟩
  have s1 := same_new (o := .lst [V.int 1]) n1
  tm_at "w"
  refine ⟨by tm_at "z", fun p2 n2 => ?_⟩
  have s2 := same_new (o := .lst [V.int 0]) n2
  tm_at "w"
  refine i_rep upd_same (by omega) (by omega) (le_line (by simp; omega)) fun p3 n3 => ?_
  rw [Int.toNat_natCast, rep_ints]
  have s3 := same_new (o := .lst ((List.replicate m.length (0 : Int)).map V.int)) n3
  refine i_cat ((s2.trans s3) _ _ upd_same) upd_same (le_line (by simp; omega)) fun p4 n4 => ?_
  have e : [V.int 1] ++ (List.replicate m.length (0 : Int)).map V.int = (frow [] m).map V.int := by rw [← frow_init]; rfl
  rw [e]
  have s4 := same_new (o := .lst ((frow [] m).map V.int)) n4
  tm_at "w"
  refine ⟨by tm_at "z", fun D nD4 => ?_⟩
  have s5 := same_new (o := .lst [.ref p4]) nD4
  have s := s1.trans (s2.trans (s3.trans (s4.trans s5)))
  have nD : H D = none := (s1.trans (s2.trans (s3.trans s4))).free nD4
  have hD0 : _ = _ := upd_same (H := upd (upd (upd (upd H p1 (.lst [V.int 1])) p2 (.lst [V.int 0])) p3 (.lst ((List.replicate m.length (0 : Int)).map V.int))) p4 (.lst ((frow [] m).map V.int))) (a := D) (o := .lst [.ref p4])
  have h4 : _ = _ := s5 _ _ (upd_same (H := upd (upd (upd H p1 (.lst [V.int 1])) p2 (.lst [V.int 0])) p3 (.lst ((List.replicate m.length (0 : Int)).map V.int))) (a := p4) (o := .lst ((frow [] m).map V.int)))
  have nDp4 : D ≠ p4 := fun z => by rw [z, upd_same] at nD4; cases nD4
  generalize upd (upd (upd (upd (upd H p1 (.lst [V.int 1])) p2 (.lst [V.int 0])) p3 (.lst ((List.replicate m.length (0 : Int)).map V.int))) p4 (.lst ((frow [] m).map V.int))) D (.lst [.ref p4]) = H1 at *
  tm_at "w"
  tm_at "fo"
  refine f_s ⟨fun i σ H' => ∃ (v3 v4 v5 v6 v7 : Option V) (rs : List Addr), σ = [some (.str (S l)), some (.str (S m)), some (.ref D), v3, v4, v5, v6, v7] ∧ Same H H' ∧ rs.length = i + 1 ∧ D ∉ rs ∧ H' D = some (.lst (rs.map V.ref)) ∧ Tab H' rs (fun r => frow (l.take r) m),
    ⟨none, none, none, none, none, [p4], rfl, s, rfl, by simpa using nDp4, hD0, fun r a hr => ?_⟩, ?_, ?_⟩
  · cases r with
    | zero =>
      have : p4 = a := Option.some.inj hr
      rw [← this]
      exact h4
    | succ r => simp at hr
  · rintro i x σ H0 H' hi ⟨v3, v4, v5, v6, v7, rs, rfl, sm, hrl, hDn, hD, T⟩ ⟨rfl, c, hc, rfl⟩
    obtain ⟨b, hb⟩ : ∃ b, rs[i]? = some b := ⟨_, List.getElem?_eq_getElem (by omega)⟩
    have gb := T i b hb
    dsimp only at gb
    tm_at "w"
    refine i_ixL (v := .ref b) (SqL.of1 hD) ?_ ?_
    · have hrs : rs.map V.ref = (rs.take i).map V.ref ++ [.ref b] := by
        have : rs = rs.take i ++ [b] := by
          have h1 : rs.drop i = [b] := by
            rw [List.drop_eq_getElem_cons (by omega), (List.getElem?_eq_some_iff.mp hb).2, List.drop_of_length_le (by omega)]
          rw [← h1, List.take_append_drop]
        rw [← List.map_singleton, ← List.map_append, ← this]
      rw [hrs]
      exact atI_last _ _
    tm_at "w"
    refine i_listOf (SqL.of1 gb) fun hr nhr => ?_
    have sh := same_new (o := .lst ((frow (l.take i) m).map V.int)) nhr
    have nhD : D ≠ hr := ne_of_none hD nhr
    have nhb : b ≠ hr := ne_of_none gb nhr
    have hrn : hr ∉ rs := fun z => by
      obtain ⟨r, hr'⟩ := List.mem_iff_getElem?.mp z
      rw [T r hr hr'] at nhr
      cases nhr
    have nHhr : H hr = none := sm.free nhr
    have ghr : upd H' hr (.lst ((frow (l.take i) m).map V.int)) hr = some (.lst ((frow (l.take i) m).map V.int)) := upd_same
    have T1 := T.same sh
    have hD1 := sh _ _ hD
    have gb1 := sh _ _ gb
    have sm1 := sm.trans sh
    generalize upd H' hr (.lst ((frow (l.take i) m).map V.int)) = H2 at *
    clear sh nhr T hD gb sm
    tm_at "w"
    tm_at "fo"
    refine f_t ⟨fun j σ H3 => ∃ v6 v7 : Option V, σ = [some (.str (S l)), some (.str (S m)), some (.ref D), some (.str (S [c])), some (.ref b), some (.ref hr), v6, v7] ∧ Same H H3 ∧ H3 D = some (.lst (rs.map V.ref)) ∧ Tab H3 rs (fun r => frow (l.take r) m) ∧ H3 hr = some (.lst ((qrow (l.take (i + 1)) (l.take i) m j).map V.int)),
      ⟨v6, v7, rfl, sm1, hD1, T1, by rw [qrow_zero]; exact ghr⟩, ?_, ?_⟩
    · rintro j x σ H3 H4 hj ⟨v6, v7, rfl, sm2, hD2, T2, gh2⟩ ⟨t, xs, rfl, nt, rfl, d, hdm, rfl⟩
      have st := same_new (o := .tup [V.int (j : Nat), .str (S [d])]) nt
      have hD3 := st _ _ hD2
      have T3 := T2.same st
      have sm3 := sm2.trans st
      have gh3 := st _ _ gh2
      have gb3 := T3 i b hb
      dsimp only at gb3
      have at_ : upd H3 t (.tup [V.int (j : Nat), .str (S [d])]) t = some (.tup [V.int (j : Nat), .str (S [d])]) := upd_same
      generalize upd H3 t (.tup [V.int (j : Nat), .str (S [d])]) = H4 at *
      clear st T2 hD2 sm2 nt gh2
      refine i_gTup (SqT.of1 at_) rfl ?_
      tm_at "w"
      refine if_dec (fun z => ?_) (fun z => ?_)
      · have zc : d = c := by injection z
        tm_at "w"
        refine i_ixL (v := .int ((W (l.take i) (m.take (j + 1)) : Nat) : Int)) (SqL.of1 gh3) (atI_nat (j := j + 1) (by rw [List.getElem?_map, qrow_get _ _ _ (by omega), if_neg (by omega)]; rfl)) ?_
        tm_at "w"
        refine i_ixL (v := .int ((W (l.take i) (m.take j) : Nat) : Int)) (SqL.of1 gb3) (atI_nat (j := j) (by rw [List.getElem?_map, frow_get _ _ (by omega)]; rfl)) ?_
        tm_at "w"
        refine i_setL (j := j + 1) gh3 (by rw [List.length_map, qrow_length]; exact ix_nat (k := j + 1) (by omega)) ?_
        tm_at "w"
        refine ⟨_, _, rfl, sm3.updN nHhr, by rw [upd_ne nhD]; exact hD3, T3.updN hrn, ?_⟩
        rw [upd_same, ← List.map_set, ← qrow_set _ _ _ _ hj, W_take hc hdm, if_pos zc.symm]
        rfl
      · have zc : c ≠ d := fun y => z (by rw [y])
        tm_at "w"
        refine ⟨_, _, rfl, sm3, hD3, T3, ?_⟩
        rw [qrow_keep _ _ _ _ hj (by rw [W_take hc hdm, if_neg zc]; rfl)]
        exact gh3
    · rintro σ H3 ⟨v6, v7, rfl, sm2, hD2, T2, gh2⟩
      rw [qrow_last] at gh2
      tm_at "w"
      refine i_tyL (SqL.of1 hD2) ?_
      tm_at "w"
      refine i_app hD2 (lt_line (by simp; omega)) ?_
      tm_at "w"
      refine ⟨_, _, _, _, _, rs ++ [hr], rfl, sm2.updN nD, by simp [hrl], ?_, by rw [upd_same, List.map_append]; rfl, ?_⟩
      · intro z
        rcases List.mem_append.mp z with z | z
        · exact hDn z
        · exact nhD (List.mem_singleton.mp z)
      · refine Tab.snoc (T2.updN hDn) ?_
        rw [upd_ne nhD.symm, hrl]
        exact gh2
  · rintro σ H' ⟨v3, v4, v5, v6, v7, rs, rfl, sm, hrl, hDn, hD, T⟩
    tm_at "w"
    exact q D rs H' nD sm hrl hD T
/-! law_ahead_0(row, other, way): slots 0 row, 1 other, 2 way, 3 behind, 4 found, 5 here, 6 at, 7 place, 8 early, 9 rest -/
abbrev N_law_ahead_0 : List Str := ["row", "other", "way", "behind", "found", "here", "at", "place", "early", "rest"]
def t_law_ahead_0 (K : PySem.W.Frag) : TS :=
  (tSeq (tAsg (tCall (sp_law_ways_0 K) [] E0 (tCons (Lv.tRevS (tVar 0)) (tCons (Lv.tRevS (tVar 1)) tNil))) (gName 3)) (tSeq (tAsg (tC (.int 0)) (gName 4)) (tSeq (tAsg (tC (.int 0)) (gName 5)) (tSeq (tFor (iEnum K (tCons (tVar 2) tNil)) (gTup K 2 (gCons (gName 6) (gCons (gName 7) gNil))) (tSeq (tFor (iRng2 (tCons (tVar 5) (tCons (tVar 7) tNil))) (gName 8) (tIfS (tTest (tOp Lv.rEqS (tOp Lv.rIxT1 (tVar 0) (tVar 8)) (tOp Lv.rIxT1 (tVar 1) (tVar 6)))) (tSeq (tAsg (tOp (rIxL K) (tVar 3) (tOp Lv.rSub (tOp Lv.rSub (tCB Lv.rLenT (tCons (tVar 0) tNil)) (tC (.int 1))) (tVar 8))) (gName 9)) (tAsg (tOp Lv.rAdd (tVar 4) (tOp (rIxL K) (tVar 9) (tOp Lv.rSub (tOp Lv.rSub (tCB Lv.rLenT (tCons (tVar 1) tNil)) (tC (.int 1))) (tVar 6)))) (gName 4))) tNext)) (tAsg (tOp Lv.rAdd (tVar 7) (tC (.int 1))) (gName 5)))) (tRet (tVar 4))))))
-- needs: M_way Q_way_at_0
def sp_law_ahead_0 (K : PySem.W.Frag) : Sp := fun vs H Q _ => ∃ (l m : List Nat) (p : Nat) (a : Addr), vs = [.str (S l), .str (S m), .ref a] ∧ l.length ≤ 1000 ∧ m.length ≤ 1000 ∧ p < W l m ∧ H a = some (.lst ((wayAt l m p 0).map iv)) ∧
  ∀ H', Same H H' → Q (.int (p : Int)) H'
theorem pure_law_ahead_0 {K : PySem.W.Frag} (vs : List V) (H : Hp) (Q : VK) (E : XK) (h : sp_law_ahead_0 K vs H Q E) : t_law_ahead_0 K { nx := fun _ H' => Q .non H', rt := Q } (start N_law_ahead_0 vs) H := by
  obtain ⟨l, m, p, a, rfl, hl, hm, hp, ha, q⟩ := h
  have hlen := wayAt_len l m p 0 hp
  unfold t_law_ahead_0
  tm_at "w"
  refine ⟨_, _, rfl, by simpa using hl, by simpa using hm, fun bp rs H1 nb s1 hrl hbp T => ?_⟩
  rw [List.length_reverse] at hrl
  have ha1 := s1 _ _ ha
  tm_at "w"
  tm_at "fo"
  refine f_e (xs := (wayAt l m p 0).map iv) ⟨fun j σ H' => ∃ (v6 v7 v8 v9 : Option V) (f i p' : Nat), σ = [some (.str (S l)), some (.str (S m)), some (.ref a), some (.ref bp), some (.int (f : Int)), some (.int (i : Int)), v6, v7, v8, v9] ∧ f + p' = p ∧ i ≤ l.length ∧ p' < W (l.drop i) (m.drop j) ∧
      (wayAt l m p 0).drop j = wayAt (l.drop i) (m.drop j) p' i ∧ Same H1 H', ⟨none, none, none, none, 0, 0, p, rfl, by omega, by omega, hp, rfl, Same.refl _⟩, ?_, ?_, ?_⟩
  · rintro j σ H' _ ⟨v6, v7, v8, v9, f, i, p', rfl, _, _, _, _, sm⟩
    exact SqL.of1 (sm _ _ ha1)
  · rintro j x σ H2 H3 hj ⟨v6, v7, v8, v9, f, i, p', rfl, hf, hi, hp', ew, sm⟩ ⟨t, zs, rfl, nt, rfl, x, hx, rfl⟩
    rw [List.length_map, hlen] at hj
    rw [List.getElem?_map] at hx
    obtain ⟨d, hd, ed⟩ := drop_at hj
    cases ek : (wayAt l m p 0)[j]? with
    | none => rw [ek] at hx; cases hx
    | some pl =>
      rw [ek] at hx
      have exv : iv pl = x := Option.some.inj hx
      subst exv
      have edr : (wayAt l m p 0).drop j = pl :: (wayAt l m p 0).drop (j + 1) := by
        obtain ⟨h1, h2⟩ := List.getElem?_eq_some_iff.mp ek
        rw [List.drop_eq_getElem_cons h1, h2]
      rw [edr, ed] at ew
      rw [ed] at hp'
      have st := same_new (o := .tup [V.int (j : Nat), iv pl]) nt
      have at_ : upd H2 t (.tup [V.int (j : Nat), iv pl]) t = some (.tup [V.int (j : Nat), iv pl]) := upd_same
      have sm2 := sm.trans st
      generalize upd H2 t (.tup [V.int (j : Nat), iv pl]) = H3 at *
      clear st sm nt
      have hple : i ≤ pl := wayAt_ge (l.drop i) (d :: m.drop (j + 1)) p' i pl (by rw [← ew]; exact List.mem_cons_self ..)
      have hpll : pl < l.length := by
        have := (wayAt_spell l m p 0 hp).2.1 pl (List.mem_of_getElem? ek)
        omega
      refine i_gTup (SqT.of1 at_) rfl ?_
      unfold iv
      tm_at "w"
      tm_at "fo"
      rw [show ((pl : Nat) : Int) - (i : Int) = ((pl - i : Nat) : Int) by omega, Int.toNat_natCast]
      refine f_r ⟨fun e σ H' => ∃ (v8 v9 : Option V) (f p' : Nat), σ = [some (.str (S l)), some (.str (S m)), some (.ref a), some (.ref bp), some (.int (f : Int)), some (.int (i : Int)), some (.int (j : Nat)), some (.int (pl : Nat)), v8, v9] ∧ f + p' = p ∧ p' < W (l.drop (i + e)) (d :: m.drop (j + 1)) ∧
        pl :: (wayAt l m p 0).drop (j + 1) = wayAt (l.drop (i + e)) (d :: m.drop (j + 1)) p' (i + e) ∧ H' = H3, ⟨_, _, f, p', rfl, hf, hp', ew, rfl⟩, ?_, ?_⟩
      · clear ew hp' hf p' f
        rintro e x σ H4 H5 he ⟨v8, v9, f, p', rfl, hf, hp', ew, rfl⟩ ⟨rfl, rfl⟩
        obtain ⟨c, hc, ec⟩ := drop_at (l := l) (i := i + e) (by omega)
        rw [ec] at hp' ew
        rw [show (i : Int) + (e : Int) = ((i + e : Nat) : Int) by omega]
        tm_at "w"
        refine i_ix1 (by omega) hc ?_
        tm_at "w"
        refine i_ix1 (by omega) hd ?_
        rcases wayAt_head hp' ew.symm with ⟨h1, _⟩ | ⟨h1, h2, h3, h4⟩
        · omega
        tm_at "w"
        by_cases zc : c = d
        · subst zc
          rw [if_pos rfl] at h2 h3 h4
          try rw [decide_eq_true rfl]
          tm_at "w"
          obtain ⟨b, hb⟩ : ∃ b, rs[l.length - 1 - (i + e)]? = some b := ⟨_, List.getElem?_eq_getElem (by omega)⟩
          have gb := T _ b hb
          dsimp only at gb
          rw [show ((l.length : Nat) : Int) - 1 - ((i + e : Nat) : Int) = ((l.length - 1 - (i + e) : Nat) : Int) by omega]
          refine i_ixL (v := .ref b) (SqL.of1 (sm2 _ _ hbp)) (atI_nat (by rw [List.getElem?_map, hb]; rfl)) ?_
          tm_at "w"
          rw [show ((m.length : Nat) : Int) - 1 - ((j : Nat) : Int) = ((m.length - 1 - j : Nat) : Int) by omega]
          have eW : W (l.reverse.take (l.length - 1 - (i + e))) (m.reverse.take (m.length - 1 - j)) = W (l.drop (i + e + 1)) (m.drop (j + 1)) := by
            rw [List.take_reverse, List.take_reverse, W_rev]
            congr 2 <;> omega
          refine i_ixL (v := .int ((W (l.drop (i + e + 1)) (m.drop (j + 1)) : Nat) : Int)) (SqL.of1 (sm2 _ _ gb)) (atI_nat (by rw [List.getElem?_map, frow_get _ _ (by rw [List.length_reverse]; omega), eW]; rfl)) ?_
          tm_at "w"
          rw [show (f : Int) + ((W (l.drop (i + e + 1)) (m.drop (j + 1)) : Nat) : Int) = ((f + W (l.drop (i + e + 1)) (m.drop (j + 1)) : Nat) : Int) by omega]
          exact ⟨_, _, f + W (l.drop (i + e + 1)) (m.drop (j + 1)), p' - W (l.drop (i + e + 1)) (m.drop (j + 1)), rfl, by omega, h3, h4.symm, rfl⟩
        · rw [if_neg zc] at h3 h4
          rw [decide_eq_false (fun y => zc (by injection y))]
          tm_at "w"
          rw [Nat.sub_zero] at h3 h4
          exact ⟨_, _, f, p', rfl, hf, h3, h4.symm, rfl⟩
      · clear ew hp' hf p' f
        rintro σ H4 ⟨v8, v9, f, p', rfl, hf, hp', ew, rfl⟩
        rw [show i + (pl - i) = pl by omega] at hp' ew
        obtain ⟨c, hc, ec⟩ := drop_at (l := l) (i := pl) hpll
        rw [ec] at hp' ew
        rcases wayAt_head hp' ew.symm with ⟨_, h2, h3, h4⟩ | ⟨h1, _⟩
        · tm_at "w"
          rw [show ((pl : Nat) : Int) + 1 = ((pl + 1 : Nat) : Int) by omega]
          exact ⟨_, _, _, _, f, pl + 1, p', rfl, hf, by omega, h3, h4, sm2⟩
        · omega
  · rintro σ H' ⟨v6, v7, v8, v9, f, i, p', rfl, hf, hi, hp', ew, sm⟩
    rw [List.length_map, hlen, List.drop_length, W_nil] at hp'
    have : f = p := by omega
    subst this
    tm_at "w"
    exact q _ (s1.trans sm)
/-! law_right_3(row, other, place, held): slots 0 row, 1 other, 2 place, 3 held, 4 found, 5 kept, 6 one, 7 two -/
abbrev N_law_right_3 : List Str := ["row", "other", "place", "held", "found", "kept", "one", "two"]
def t_law_right_3 (K : PySem.W.Frag) : TS :=
  (tSeq (tAsg (tCall (sp_way_at_0 K) [] E0 (tCons (tVar 0) (tCons (tVar 1) (tCons (tVar 2) tNil)))) (gName 4)) (tSeq (tIfS (tOr (tNot (tB (tCB (L2.rIsi K) (tCons (tVar 4) (tCons (tC (.ty "list")) tNil))))) (tTest (tOp Lv.rNeI (tCB (Lv.rLenL K) (tCons (tVar 4) tNil)) (tCB Lv.rLenT (tCons (tVar 1) tNil))))) (tRet (tC (.bl false))) tNext) (tSeq (tIfS (tTest (tOp (Lv.rNeL K) (tLc (iList K (tVar 4)) (gName 6) (tOr (tNot (tB (tCB (L2.rIsi K) (tCons (tVar 6) (tCons (tC (.ty "int")) tNil))))) (tB (tCB (L2.rIsi K) (tCons (tVar 6) (tCons (tC (.ty "bool")) tNil))))) (tVar 6) [6]) (tLst tNil))) (tRet (tC (.bl false))) tNext) (tSeq (tIfS (tOr (tTest (tOp (Lv.rNeL K) (tLc (iZip K (tCons (tVar 4) (tCons (tSl (rSlL K) (tVar 4) (tPart (tC (.int 1))) tNoPart) tNil))) (gTup K 2 (gCons (gName 6) (gCons (gName 7) gNil))) (tTest (tOp Lv.rGe (tVar 6) (tVar 7))) (tC (.int 1)) [6, 7]) (tLst tNil))) (tTest (tOp Lv.rLt (tCB (rMin K) (tCons (tOp L2.rCat (tVar 4) (tLst (tCons (tC (.int 0)) tNil))) tNil)) (tC (.int 0))))) (tRet (tC (.bl false))) tNext) (tSeq (tIfS (tOr (tTest (tOp Lv.rGe (tCB (rMax K) (tCons (tOp L2.rCat (tLst (tCons (tC (.int 0)) tNil)) (tVar 4)) tNil)) (tCB Lv.rMax2 (tCons (tC (.int 1)) (tCons (tCB Lv.rLenT (tCons (tVar 0) tNil)) tNil))))) (tTest (tOp Lv.rNeS (tBM K "str" (Lv.rJoin K) (tC (.str (S []))) (tCons (tLc (iList K (tVar 4)) (gName 6) tYes (tOp Lv.rIxT1 (tVar 0) (tVar 6)) [6]) tNil)) (tVar 1)))) (tRet (tC (.bl false))) tNext) (tSeq (tIfS (tTest (tOp Lv.rNeI (tCall (sp_law_ahead_0 K) [] E0 (tCons (tVar 0) (tCons (tVar 1) (tCons (tVar 4) tNil)))) (tVar 2))) (tRet (tC (.bl false))) tNext) (tSeq (tDrop (tBM K "list" rAppend (tVar 3) (tCons (tTup (tCons (tCall (sp_way_at_0 K) [] E0 (tCons (tVar 0) (tCons (tVar 1) (tCons (tVar 2) tNil)))) (tCons (tCB (Lv.rListOf K) (tCons (tVar 4) tNil)) tNil))) tNil))) (tSeq (tAsg (tCB (Lv.rListOf K) (tCons (tVar 4) tNil)) (gName 5)) (tSeq (tDrop (tBM K "list" rAppend (tVar 4) (tCons (tC (.int 0)) tNil))) (tSeq (tDrop (tBM0 K "list" rReverse (tVar 4))) (tRet (tOp (Lv.rEqL K) (tCall (sp_way_at_0 K) [] E0 (tCons (tVar 0) (tCons (tVar 1) (tCons (tVar 2) tNil)))) (tVar 5)))))))))))))
-- needs: M_way Q_way_at_0
def sp_law_right_3 (K : PySem.W.Frag) : Sp := fun vs H Q _ => ∃ (l m : List Nat) (p : Nat) (hl : Addr) (xs : List V), vs = [.str (S l), .str (S m), .int (p : Int), .ref hl] ∧ l.length ≤ 1000 ∧ m.length ≤ 1000 ∧ p < W l m ∧ H hl = some (.lst xs) ∧ xs.length ≤ 100000 ∧
  ∀ (H' : Hp) (t a b : Addr) (ns : List Int), But hl H H' → H' hl = some (.lst (xs ++ [.ref t])) → t ≠ hl → a ≠ hl → b ≠ hl → H' t = some (.tup [.ref a, .ref b]) → H' a = some (.lst (ns.map V.int)) → H' b = some (.lst (ns.map V.int)) → Q (.bl true) H'
theorem iv_ints (ps : List Nat) : ps.map iv = (toI ps).map V.int := by rw [toI, List.map_map]; rfl
theorem But.same_trans {h : Addr} {H H1 H2 : Hp} (s : Same H H1) (b : But h H1 H2) : But h H H2 := s.but.trans b
theorem pure_law_right_3 {K : PySem.W.Frag} (vs : List V) (H : Hp) (Q : VK) (E : XK) (h : sp_law_right_3 K vs H Q E) : t_law_right_3 K { nx := fun _ H' => Q .non H', rt := Q } (start N_law_right_3 vs) H := by
  obtain ⟨l, m, p, hl, xs, rfl, ll, lm, hp, hhl, hxs, q⟩ := h
  have hlen := wayAt_len l m p 0 hp
  obtain ⟨w1, w2, w3⟩ := wayAt_spell l m p 0 hp
  unfold t_law_right_3
  tm_at "w"
  refine i_way_at_0 ll lm hp fun fa H1 nf s1 gf => ?_
  have nfh : hl ≠ fa := ne_of_none hhl nf
  have ghl1 := s1 _ _ hhl
  generalize hw : wayAt l m p 0 = w at *
  tm_at "w"
  refine i_isi (.lst gf) (by decide +kernel : kitB "list" "list" = some true) ?_
  tm_at "w"
  refine i_lenL (SqL.of1 gf) ?_
  tm_at "w"
  rw [List.length_map, hlen]
  tm_at "w"
  tm_at "lc"
  refine c_l (xs := w.map iv) fun D2 n2 => ⟨fun i acc H' => acc = [] ∧ H' = upd H1 D2 (.lst []), ⟨rfl, rfl⟩, ?_, ?_, ?_⟩
  · rintro i acc H' _ _ ⟨rfl, rfl⟩
    exact SqL.of1 (by rw [upd_ne (ne_of_none gf n2)]; exact gf)
  · rintro i acc x H' H'' hi hll hD ⟨rfl, rfl⟩ ⟨rfl, hx⟩
    obtain ⟨k, hk, rfl⟩ : ∃ k, w[i]? = some k ∧ x = iv k := by
      rw [List.getElem?_map] at hx
      cases e : w[i]? with
      | none => rw [e] at hx; cases hx
      | some k => rw [e] at hx; exact ⟨k, rfl, (Option.some.inj hx).symm⟩
    unfold iv
    tm_at "w"
    refine ⟨rfl, ?_⟩
    tm_at "w"
    refine i_isi_int_int ?_
    tm_at "w"
    refine i_isi_int_bool ?_
    tm_at "w"
    exact lc_skip hD hll ⟨rfl, rfl⟩
  rintro acc H2 _ hD2 ⟨rfl, rfl⟩
  have s2 := s1.trans (same_new (o := .lst []) n2)
  have gf2 : upd H1 D2 (.lst []) fa = some (.lst (w.map iv)) := by rw [upd_ne (ne_of_none gf n2)]; exact gf
  generalize upd H1 D2 (.lst []) = H2 at *
  tm_at "w"
  refine ⟨by tm_at "z", fun p3 n3 => ?_⟩
  have sn3 := same_new (o := .lst []) n3
  refine i_r2L (ns := []) (ms := []) (SqL.of1 (sn3 _ _ hD2)) (SqL.of1 upd_same) ?_
  have s3 := s2.trans sn3
  have gf3 := sn3 _ _ gf2
  generalize upd H2 p3 (.lst []) = H3 at *
  clear sn3 gf2 n3 hD2 n2 s2
  tm_at "w"
  refine lcM (fun J H4 => ∃ p4, J = Itz K fa p4 ∧ H3 p4 = none ∧ H4 = upd H3 p4 (.lst ((w.drop 1).map iv))) (fun R k => ?_) ?_
  · tm_at "w"
    refine i_slL (SqL.of1 gf3) fun p4 n4 => ?_
    have e4 : cutV (w.map iv) (some 1) none = (w.drop 1).map iv := by
      rw [cutV_map]
      exact congrArg (List.map iv) (cutL_from w 1)
    rw [e4]
    tm_at "w"
    refine ⟨fa, p4, _, _, rfl, SqL.of1 (by rw [upd_ne (ne_of_none gf3 n4)]; exact gf3), SqL.of1 upd_same, k _ _ ⟨p4, rfl, n4, rfl⟩⟩
  rintro J H4 ⟨p4, rfl, n4, rfl⟩
  have sn4 := same_new (o := .lst ((w.drop 1).map iv)) n4
  have gf4 := sn4 _ _ gf3
  have gp4 : upd H3 p4 (.lst ((w.drop 1).map iv)) p4 = some (.lst ((w.drop 1).map iv)) := upd_same
  have s4 := s3.trans sn4
  generalize upd H3 p4 (.lst ((w.drop 1).map iv)) = H4 at *
  clear sn4 gf3 s3 n4
  refine c_z (xs := w.map iv) (ys := (w.drop 1).map iv) fun D5 n5 => ⟨fun i acc H' => acc = [] ∧ Same H4 H', ⟨rfl, same_new n5⟩, ?_, ?_, ?_⟩
  · rintro i acc H' _ _ ⟨rfl, sm⟩
    exact ⟨SqL.of1 (sm _ _ gf4), SqL.of1 (sm _ _ gp4)⟩
  · rintro i acc x H' H'' hi hll hD ⟨rfl, sm⟩ ⟨t, zs, rfl, nt, rfl, x1, y1, hx, hy, rfl⟩
    rw [List.getElem?_map] at hx hy
    obtain ⟨k1, hk1, rfl⟩ : ∃ k, w[i]? = some k ∧ x1 = iv k := by
      cases e : w[i]? with
      | none => rw [e] at hx; cases hx
      | some k => rw [e] at hx; exact ⟨k, rfl, (Option.some.inj hx).symm⟩
    obtain ⟨k2, hk2, rfl⟩ : ∃ k, w[i + 1]? = some k ∧ y1 = iv k := by
      rw [List.getElem?_drop, Nat.add_comm] at hy
      cases e : w[i + 1]? with
      | none => rw [e] at hy; cases hy
      | some k => rw [e] at hy; exact ⟨k, rfl, (Option.some.inj hy).symm⟩
    have klt : k1 < k2 := by
      obtain ⟨a1, b1⟩ := List.getElem?_eq_some_iff.mp hk1
      obtain ⟨a2, b2⟩ := List.getElem?_eq_some_iff.mp hk2
      rw [← b1, ← b2]
      exact List.pairwise_iff_getElem.mp w1 i (i + 1) a1 a2 (by omega)
    have st := same_new (o := .tup [iv k1, iv k2]) nt
    have at_ : upd H' t (.tup [iv k1, iv k2]) t = some (.tup [iv k1, iv k2]) := upd_same
    have hD' := st _ _ hD
    generalize upd H' t (.tup [iv k1, iv k2]) = H'' at *
    refine i_gTup (SqT.of1 at_) rfl ?_
    unfold iv
    tm_at "w"
    refine ⟨rfl, ?_⟩
    tm_at "w"
    rw [decide_eq_false (show ¬ ((k2 : Nat) : Int) ≤ ((k1 : Nat) : Int) by omega)]
    tm_at "w"
    exact lc_skip hD' hll ⟨rfl, sm.trans st⟩
  rintro acc H5 _ hD5 ⟨rfl, sm5⟩
  have s5 := s4.trans sm5
  have gf5 := sm5 _ _ gf4
  clear gf4 gp4 s4 sm5
  tm_at "w"
  refine ⟨by tm_at "z", fun p6 n6 => ?_⟩
  have sn6 := same_new (o := .lst []) n6
  refine i_r2L (ns := []) (ms := []) (SqL.of1 (sn6 _ _ hD5)) (SqL.of1 upd_same) ?_
  have s6 := s5.trans sn6
  have gf6 := sn6 _ _ gf5
  generalize upd H5 p6 (.lst []) = H6 at *
  clear sn6 gf5 n6 hD5 s5
  tm_at "w"
  refine ⟨by tm_at "z", fun p7 n7 => ?_⟩
  have sn7 := same_new (o := .lst [.int 0]) n7
  have gf7 := sn7 _ _ gf6
  have g7 : upd H6 p7 (.lst [.int 0]) p7 = some (.lst [.int 0]) := upd_same
  have s7 := s6.trans sn7
  generalize upd H6 p7 (.lst [.int 0]) = H7 at *
  clear sn7 gf6 s6 n7
  refine i_cat gf7 g7 (le_line (by simp; omega)) fun p8 n8 => ?_
  have e8 : w.map iv ++ [.int 0] = (toI (w ++ [0])).map V.int := by rw [← iv_ints, List.map_append]; rfl
  rw [e8]
  have sn8 := same_new (o := .lst ((toI (w ++ [0])).map V.int)) n8
  have gf8 := sn8 _ _ gf7
  have g8 : upd H7 p8 (.lst ((toI (w ++ [0])).map V.int)) p8 = some (.lst ((toI (w ++ [0])).map V.int)) := upd_same
  have s8 := s7.trans sn8
  generalize upd H7 p8 (.lst ((toI (w ++ [0])).map V.int)) = H8 at *
  clear sn8 gf7 g7 s7 n8
  tm_at "w"
  refine i_minL (SqL.of1 g8) (by simp [toI]) fun mn hmn _ => ?_
  have mn0 : 0 ≤ mn := by
    unfold toI at hmn
    obtain ⟨k, _, rfl⟩ := List.mem_map.mp hmn
    omega
  tm_at "w"
  rw [decide_eq_false (show ¬ mn < 0 by omega)]
  tm_at "w"
  refine ⟨by tm_at "z", fun p9 n9 => ?_⟩
  have sn9 := same_new (o := .lst [.int 0]) n9
  have gf9 := sn9 _ _ gf8
  have g9 : upd H8 p9 (.lst [.int 0]) p9 = some (.lst [.int 0]) := upd_same
  have s9 := s8.trans sn9
  generalize upd H8 p9 (.lst [.int 0]) = H9 at *
  clear sn9 gf8 s8 n9 g8
  tm_at "w"
  refine i_cat g9 gf9 (le_line (by simp; omega)) fun p10 n10 => ?_
  have e10 : [.int 0] ++ w.map iv = (toI (0 :: w)).map V.int := by rw [← iv_ints]; rfl
  rw [e10]
  have sn10 := same_new (o := .lst ((toI (0 :: w)).map V.int)) n10
  have gf10 := sn10 _ _ gf9
  have g10 : upd H9 p10 (.lst ((toI (0 :: w)).map V.int)) p10 = some (.lst ((toI (0 :: w)).map V.int)) := upd_same
  have s10 := s9.trans sn10
  generalize upd H9 p10 (.lst ((toI (0 :: w)).map V.int)) = H10 at *
  clear sn10 gf9 g9 s9 n10
  tm_at "w"
  refine i_maxL (SqL.of1 g10) (by simp [toI]) fun mx hmx _ => ?_
  have mx1 : mx < (if ((l.length : Nat) : Int) > 1 then ((l.length : Nat) : Int) else 1) := by
    unfold toI at hmx
    obtain ⟨k, hk, rfl⟩ := List.mem_map.mp hmx
    rcases List.mem_cons.mp hk with z | z
    · subst z
      split <;> omega
    · have := w2 k z
      split <;> omega
  tm_at "w"
  rw [decide_eq_false (show ¬ (if ((l.length : Nat) : Int) > 1 then ((l.length : Nat) : Int) else 1) ≤ mx by omega)]
  tm_at "w"
  tm_at "lc"
  refine c_l (xs := w.map iv) fun D11 n11 => ⟨fun i acc H' => acc = (m.take i).map vc ∧ H' = upd H10 D11 (.lst acc), ⟨rfl, rfl⟩, ?_, ?_, ?_⟩
  · rintro i acc H' _ _ ⟨rfl, rfl⟩
    exact SqL.of1 (by rw [upd_ne (ne_of_none gf10 n11)]; exact gf10)
  · rintro i acc x H' H'' hi hll hD ⟨rfl, rfl⟩ ⟨rfl, hx⟩
    rw [List.length_map, hlen] at hi
    obtain ⟨k, hk, rfl⟩ : ∃ k, w[i]? = some k ∧ x = iv k := by
      rw [List.getElem?_map] at hx
      cases e : w[i]? with
      | none => rw [e] at hx; cases hx
      | some k => rw [e] at hx; exact ⟨k, rfl, (Option.some.inj hx).symm⟩
    obtain ⟨d, hd, _⟩ := drop_at hi
    have hlk : l[k]? = some d := by
      have := w3 i k hk
      rw [Nat.sub_zero, hd] at this
      exact this
    unfold iv
    tm_at "w"
    refine ⟨rfl, ?_⟩
    tm_at "w"
    refine i_ix1 (by omega) hlk ?_
    refine lc_put hD hll (by omega) ⟨?_, upd_upd⟩
    rw [List.take_add_one, hd, List.map_append]
    rfl
  rintro acc H11 _ hD11 ⟨rfl, rfl⟩
  have et : m.take (w.map iv).length = m := by rw [List.length_map, hlen, List.take_length]
  rw [et] at hD11 ⊢
  have sn11 := same_new (o := .lst (m.map vc)) n11
  have gf11 := sn11 _ _ gf10
  have s11 := s10.trans sn11
  generalize upd H10 D11 (.lst (m.map vc)) = H11 at *
  clear sn11 gf10 g10 s10 n11
  tm_at "w"
  refine i_joinC (SqL.of1 hD11) (by omega) ?_
  tm_at "w"
  refine ⟨l, m, p, fa, rfl, ll, lm, hp, by rw [hw]; exact gf11, fun H12 sm12 => ?_⟩
  have s12 := s11.trans sm12
  have gf12 := sm12 _ _ gf11
  clear sm12 gf11 s11 hD11
  tm_at "w"
  have ghl := s12 _ _ hhl
  refine i_tyL (SqL.of1 ghl) ?_
  tm_at "w"
  refine i_way_at_0 ll lm hp fun b1 H13 n13 sm13 g13 => ?_
  rw [hw] at g13
  have gf13 := sm13 _ _ gf12
  have s13 := s12.trans sm13
  have nb1 : hl ≠ b1 := ne_of_none ghl n13
  have nbf : fa ≠ b1 := ne_of_none gf12 n13
  clear sm13 gf12 s12 ghl n13
  tm_at "w"
  refine i_listOf (SqL.of1 gf13) fun b2 n14 => ?_
  have sn14 := same_new (o := .lst (w.map iv)) n14
  have gf14 := sn14 _ _ gf13
  have g13' := sn14 _ _ g13
  have g14 : upd H13 b2 (.lst (w.map iv)) b2 = some (.lst (w.map iv)) := upd_same
  have s14 := s13.trans sn14
  have nb2 : hl ≠ b2 := ne_of_none (s13 _ _ hhl) n14
  have nbf2 : fa ≠ b2 := ne_of_none gf13 n14
  generalize upd H13 b2 (.lst (w.map iv)) = H14 at *
  clear sn14 gf13 g13 s13 n14
  tm_at "w"
  refine ⟨by tm_at "z", fun t n15 => ?_⟩
  have sn15 := same_new (o := .tup [.ref b1, .ref b2]) n15
  have gf15 := sn15 _ _ gf14
  have g15a := sn15 _ _ g13'
  have g15b := sn15 _ _ g14
  have g15 : upd H14 t (.tup [.ref b1, .ref b2]) t = some (.tup [.ref b1, .ref b2]) := upd_same
  have s15 := s14.trans sn15
  have nt : hl ≠ t := ne_of_none (s14 _ _ hhl) n15
  have ntf : fa ≠ t := ne_of_none gf14 n15
  generalize upd H14 t (.tup [.ref b1, .ref b2]) = H15 at *
  clear sn15 gf14 g13' g14 s14 n15
  tm_at "w"
  refine i_app (s15 _ _ hhl) (lt_line (by omega)) ?_
  have B16 : But hl H (upd H15 hl (.lst (xs ++ [.ref t]))) := s15.but.trans But.upd
  have g16h : upd H15 hl (.lst (xs ++ [.ref t])) hl = some (.lst (xs ++ [.ref t])) := upd_same
  have gf16 : upd H15 hl (.lst (xs ++ [.ref t])) fa = some (.lst (w.map iv)) := by rw [upd_ne nfh.symm]; exact gf15
  have g16a : upd H15 hl (.lst (xs ++ [.ref t])) b1 = some (.lst (w.map iv)) := by rw [upd_ne nb1.symm]; exact g15a
  have g16b : upd H15 hl (.lst (xs ++ [.ref t])) b2 = some (.lst (w.map iv)) := by rw [upd_ne nb2.symm]; exact g15b
  have g16t : upd H15 hl (.lst (xs ++ [.ref t])) t = some (.tup [.ref b1, .ref b2]) := by rw [upd_ne nt.symm]; exact g15
  generalize upd H15 hl (.lst (xs ++ [.ref t])) = H16 at *
  clear gf15 g15a g15b g15 s15
  tm_at "w"
  refine i_listOf (SqL.of1 gf16) fun kp n17 => ?_
  have sn17 := same_new (o := .lst (w.map iv)) n17
  have g17 : upd H16 kp (.lst (w.map iv)) kp = some (.lst (w.map iv)) := upd_same
  have gf17 := sn17 _ _ gf16
  have nkf : fa ≠ kp := ne_of_none gf16 n17
  have B17 : But hl H (upd H16 kp (.lst (w.map iv))) := B16.trans sn17.but
  have g17h := sn17 _ _ g16h
  have g17a := sn17 _ _ g16a
  have g17b := sn17 _ _ g16b
  have g17t := sn17 _ _ g16t
  generalize upd H16 kp (.lst (w.map iv)) = H17 at *
  clear sn17 gf16 g16h g16a g16b g16t B16 n17
  tm_at "w"
  refine i_tyL (SqL.of1 gf17) ?_
  tm_at "w"
  refine i_app gf17 (lt_line (by simp; omega)) ?_
  tm_at "w"
  refine i_tyL (SqL.of1 upd_same) ?_
  refine i_reverse upd_same ?_
  rw [upd_upd]
  have B18 : But hl H (upd H17 fa (.lst (w.map iv ++ [V.int 0]).reverse)) := fun b o nb e => by
    have nbf0 : b ≠ fa := ne_of_none e nf
    rw [upd_ne nbf0]
    exact B17 b o nb e
  have g18k : upd H17 fa (.lst (w.map iv ++ [V.int 0]).reverse) kp = some (.lst (w.map iv)) := by rw [upd_ne nkf.symm]; exact g17
  have g18h : upd H17 fa (.lst (w.map iv ++ [V.int 0]).reverse) hl = some (.lst (xs ++ [.ref t])) := by rw [upd_ne nfh]; exact g17h
  have g18a : upd H17 fa (.lst (w.map iv ++ [V.int 0]).reverse) b1 = some (.lst (w.map iv)) := by rw [upd_ne nbf.symm]; exact g17a
  have g18b : upd H17 fa (.lst (w.map iv ++ [V.int 0]).reverse) b2 = some (.lst (w.map iv)) := by rw [upd_ne nbf2.symm]; exact g17b
  have g18t : upd H17 fa (.lst (w.map iv ++ [V.int 0]).reverse) t = some (.tup [.ref b1, .ref b2]) := by rw [upd_ne ntf.symm]; exact g17t
  generalize upd H17 fa (.lst (w.map iv ++ [V.int 0]).reverse) = H18 at *
  tm_at "w"
  refine i_way_at_0 ll lm hp fun b3 H19 n19 s19 g19 => ?_
  rw [hw, iv_ints] at g19
  have g19k := s19 _ _ g18k
  rw [iv_ints] at g19k
  tm_at "w"
  refine i_r2L (SqL.of1 g19) (SqL.of1 g19k) ?_
  try rw [decide_eq_true rfl]
  refine q H19 t b1 b2 (toI w) (B18.trans s19.but) (s19 _ _ g18h) nt.symm nb1.symm nb2.symm (s19 _ _ g18t) ?_ ?_
  · rw [← iv_ints]; exact s19 _ _ g18a
  · rw [← iv_ints]; exact s19 _ _ g18b
/-! law_k22(script): slots 0 script, 1 held, 2 k, 3 cell, 4 hand, 5 pool, 6 row, 7 share, 8 other, 9 many, 10 drawn, 11 at, 12 some, 13 letter, 14 place, 15 one -/
abbrev N_law_k22 : List Str := ["script", "held", "k", "cell", "hand", "pool", "row", "share", "other", "many", "drawn", "at", "some", "letter", "place", "one"]
def t_law_k22 (K : PySem.W.Frag) : TS :=
  (tSeq (tAsg (tLst tNil) (gName 1)) (tSeq (tFor (iList K (tCall (sp_law_cells_0 K) [] E0 (tCons (tVar 0) (tCons (tC (.int 8)) tNil)))) (gTup K 2 (gCons (gName 2) (gCons (gName 3) gNil))) (tSeq (tAsg (tCall (sp_law_hand_1 K) [] E0 (tCons (tVar 3) (tCons (tVar 2) tNil))) (gName 4)) (tSeq (tAsg (tCall (sp_law_pool_0 K) [] E0 (tCons (tVar 4) tNil)) (gName 5)) (tSeq (tAsg (tCall (sp_law_row_1 K) [] E0 (tCons (tVar 4) (tCons (tVar 5) (tCons (tCall (sp_law_size_1 K) [] E0 (tCons (tVar 4) (tCons (tVar 2) (tCons (tC (.int 20)) tNil)))) tNil)))) (gName 6)) (tSeq (tAsg (tOp Lv.rAdd (tC (.int 1)) (tCall (sp_law_draw_1 K) [] E0 (tCons (tVar 4) (tCons (tC (.int 9)) tNil)))) (gName 7)) (tSeq (tAsg (tBM K "str" (Lv.rJoin K) (tC (.str (S []))) (tCons (tLc (iStr (tVar 6)) (gName 13) (tTest (tOp Lv.rLt (tCall (sp_law_draw_1 K) [] E0 (tCons (tVar 4) (tCons (tC (.int 10)) tNil))) (tVar 7))) (tVar 13) [13]) tNil)) (gName 8)) (tSeq (tAsg (tOp (rIxL K) (tOp (rIxL K) (tCall (sp_law_ways_0 K) [] E0 (tCons (tVar 6) (tCons (tVar 8) tNil))) (tUn Lv.rNeg (tC (.int 1)))) (tUn Lv.rNeg (tC (.int 1)))) (gName 9)) (tSeq (tAsg (tOp Lv.rAdd (tOp Lv.rAdd (tOp Lv.rMul (tCall (sp_law_draw_1 K) [] E0 (tCons (tVar 4) (tCons (tOp Lv.rPow (tC (.int 10)) (tC (.int 8))) tNil))) (tOp Lv.rPow (tC (.int 10)) (tC (.int 16)))) (tOp Lv.rMul (tCall (sp_law_draw_1 K) [] E0 (tCons (tVar 4) (tCons (tOp Lv.rPow (tC (.int 10)) (tC (.int 8))) tNil))) (tOp Lv.rPow (tC (.int 10)) (tC (.int 8))))) (tCall (sp_law_draw_1 K) [] E0 (tCons (tVar 4) (tCons (tOp Lv.rPow (tC (.int 10)) (tC (.int 8))) tNil)))) (gName 10)) (tSeq (tAsg (tOp (rIxL K) (tLst (tCons (tOp Lv.rMod (tVar 10) (tVar 9)) (tCons (tOp Lv.rDiv (tVar 9) (tC (.int 2))) (tCons (tOp Lv.rDivW (tOp Lv.rMulW (tVar 9) (tVar 10)) (tOp Lv.rPow (tC (.int 10)) (tC (.int 24)))) tNil)))) (tCall (sp_law_draw_1 K) [] E0 (tCons (tVar 4) (tCons (tC (.int 3)) tNil)))) (gName 11)) (tSeq (tAsg (tLst (tCons (tVar 11) (tCons (tOp Lv.rMod (tOp Lv.rAdd (tVar 11) (tC (.int 1))) (tVar 9)) (tCons (tC (.int 0)) (tCons (tOp Lv.rSub (tVar 9) (tC (.int 1))) tNil))))) (gName 12)) (Evl.tCut (tIfS (tTest (tOp Lv.rLt (tVar 9) (tC (.int 40)))) (tAsg (tLstRg (tRg1 (tVar 9))) (gName 12)) tNext) (tIfS (tTest (tOp (Lv.rNeL K) (tLc (iList K (tVar 12)) (gName 14) (tNot (tB (tCall (sp_law_right_3 K) [] E0 (tCons (tVar 6) (tCons (tVar 8) (tCons (tVar 14) (tCons (tVar 1) tNil))))))) (tVar 14) [14]) (tLst tNil))) (tRet (tC (.bl false))) tNext)))))))))))) (tSeq (tIfS (tOr (tTest (tOp (Lv.rNeL K) (tCall (sp_way_at_0 K) [] E0 (tCons (tC (.str (S [97, 98, 97, 98]))) (tCons (tC (.str (S [97, 98]))) (tCons (tC (.int 2)) tNil)))) (tLst (tCons (tC (.int 2)) (tCons (tC (.int 3)) tNil))))) (tTest (tOp (Lv.rNeL K) (tCall (sp_way_at_0 K) [] E0 (tCons (tC (.str (S []))) (tCons (tC (.str (S []))) (tCons (tC (.int 0)) tNil)))) (tLst tNil)))) (tRet (tC (.bl false))) tNext) (tRet (tOp (Lv.rEqL K) (tLc (iList K (tVar 1)) (gName 15) (tTest (tOp (Lv.rNeL K) (tOp (rIxT K) (tVar 15) (tC (.int 0))) (tOp (rIxT K) (tVar 15) (tC (.int 1))))) (tVar 15) [15]) (tLst tNil))))))
-- needs: M_way Q_way_at_0
def sp_law_k22 (K : PySem.W.Frag) : Sp := fun vs H Q _ => ∃ (a : Addr) (ns : List Int), vs = [.ref a] ∧ SqL K H a (ns.map V.int) ∧ ns.length ≤ 63 ∧ ∀ H', Q (.bl true) H'
/-- what is held: pairs of like lists -/
def Held (H : Hp) (g : Addr) (b : Nat) : Prop := ∃ xs : List V, H g = some (.lst xs) ∧ xs.length ≤ b ∧ ∀ x ∈ xs, ∃ (t a b : Addr) (ns : List Int), x = .ref t ∧ t ≠ g ∧ a ≠ g ∧ b ≠ g ∧ H t = some (.tup [.ref a, .ref b]) ∧ H a = some (.lst (ns.map V.int)) ∧ H b = some (.lst (ns.map V.int))
theorem Held.same {H H' : Hp} {g : Addr} {n : Nat} (h : Held H g n) (s : Same H H') : Held H' g n := by
  obtain ⟨xs, h1, h2, h3⟩ := h
  refine ⟨xs, s _ _ h1, h2, fun x hx => ?_⟩
  obtain ⟨t, a, b, ns, e, n1, n2, n3, g1, g2, g3⟩ := h3 x hx
  exact ⟨t, a, b, ns, e, n1, n2, n3, s _ _ g1, s _ _ g2, s _ _ g3⟩
theorem Held.mono {H : Hp} {g : Addr} {n m : Nat} (h : Held H g n) (l : n ≤ m) : Held H g m := by
  obtain ⟨xs, h1, h2, h3⟩ := h
  exact ⟨xs, h1, by omega, h3⟩
theorem last_rowW {H : Hp} {rs : List Addr} {f : Nat → List Int} {n : Nat} (T : Tab H rs f) (hr : rs.length = n + 1) : ∃ (pre : List V) (b : Addr), rs.map V.ref = pre ++ [.ref b] ∧ H b = some (.lst ((f n).map V.int)) := by
  obtain ⟨b, hb⟩ : ∃ b, rs[n]? = some b := ⟨_, List.getElem?_eq_getElem (by omega)⟩
  refine ⟨(rs.take n).map V.ref, b, ?_, T n b hb⟩
  have h1 : rs.drop n = [b] := by
    rw [List.drop_eq_getElem_cons (by omega), (List.getElem?_eq_some_iff.mp hb).2, List.drop_of_length_le (by omega)]
  rw [← List.map_singleton, ← List.map_append, ← h1, List.take_append_drop]
theorem frow_lastW (l m : List Nat) : ∃ pre : List V, (frow l m).map V.int = pre ++ [.int ((W l m : Nat) : Int)] := by
  refine ⟨((frow l m).take m.length).map V.int, ?_⟩
  have hb : (frow l m)[m.length]? = some ((W l m : Nat) : Int) := by
    have := frow_get l m (a := m.length) (Nat.le_refl _)
    rw [List.take_length] at this
    exact this
  have hl := frow_length l m
  have h1 : (frow l m).drop m.length = [((W l m : Nat) : Int)] := by
    rw [List.drop_eq_getElem_cons (by omega), (List.getElem?_eq_some_iff.mp hb).2, List.drop_of_length_le (by omega)]
  have h2 : [V.int ((W l m : Nat) : Int)] = ([((W l m : Nat) : Int)]).map V.int := rfl
  rw [h2, ← List.map_append, ← h1, List.take_append_drop]
theorem pure_law_k22 {K : PySem.W.Frag} (vs : List V) (H : Hp) (Q : VK) (E : XK) (h : sp_law_k22 K vs H Q E) : t_law_k22 K { nx := fun _ H' => Q .non H', rt := Q } (start N_law_k22 vs) H := by
  obtain ⟨a, ns, rfl, hS, hl, q⟩ := h
  unfold t_law_k22
  tm_at "w"
  refine ⟨by tm_at "z", fun g ng => ?_⟩
  have sg := same_new (o := .lst []) ng
  have hg0 : upd H g (.lst []) g = some (.lst []) := upd_same
  have hS0 := sg.seq hS
  generalize upd H g (.lst []) = H0 at *
  tm_at "w"
  refine cells_forB (a := a) (ns := ns) hg0 rfl hS0 (by omega) hl (fun H1 i σ H' => ∃ v2 v3 v4 v5 v6 v7 v8 v9 v10 v11 v12 v13 v14 v15 : Option V, σ = [some (.ref a), some (.ref g), v2, v3, v4, v5, v6, v7, v8, v9, v10, v11, v12, v13, v14, v15] ∧ But g H1 H' ∧ Held H' g (i * 40)) ?_ ?_ ?_ ?_
  · exact fun H1 sm => ⟨none, none, none, none, none, none, none, none, none, none, none, none, none, none, rfl, But.refl _ _, [], sm _ _ hg0, Nat.le_refl _, fun x hx => nomatch hx⟩
  · rintro H1 i σ H' ⟨v2, v3, v4, v5, v6, v7, v8, v9, v10, v11, v12, v13, v14, v15, rfl, bt, _⟩
    exact bt
  · rintro H1 i0 c σ H2 n' r' b' c' hi0 _ ⟨v2, v3, v4, v5, v6, v7, v8, v9, v10, v11, v12, v13, v14, v15, rfl, bt, hh0⟩ enx ert
    tm_at "w"
    refine i_law_hand_1 fun hd H3 nh hh s3 => ?_
    tm_at "w"
    refine i_law_pool_0 hh fun p H4 cs hh4 b4 np hp c1 c2 lw => ?_
    have nph : p ≠ hd := hh4.neC hp c1
    tm_at "w"
    refine i_law_size_1 hh4 (by omega) (by omega) fun r H5 r0 r1 hh5 b5 => ?_
    obtain ⟨n, rfl⟩ := Int.eq_ofNat_of_zero_le r0
    have hp5 := b5.at hp nph
    tm_at "w"
    refine i_law_row_1 (n := n) hh5 hp5 c1 (by omega) lw (by omega) fun l H6 ll lwl hh6 b6 => ?_
    have hl80 : l.length ≤ 80 := by omega
    tm_at "w"
    refine i_law_draw_1 hh6 (by omega) (by omega) fun sh H7 sh0 sh1 hh7 b7 => ?_
    have B7 : But hd H2 H7 := s3.but.trans (b4.trans (b5.trans (b6.trans b7)))
    clear b4 b5 b6 b7 hp hp5 hh4 hh5 hh6 s3 hh np nph r0 r1 ll
    tm_at "w"
    tm_at "lc"
    refine c_s fun D nD => ⟨fun i acc H' => Hd H' hd ∧ But hd H7 H' ∧ ∃ m : List Nat, acc = m.map vc ∧ m.Sublist (l.take i), ⟨hh7.updN (hh7.ne nD), (But.refl _ _).updN nD, [], rfl, List.nil_sublist _⟩, ?_, ?_⟩
    · rintro i acc x H' H'' hi hll hD ⟨hd', b', m, rfl, sub⟩ ⟨rfl, c1', hc, rfl⟩
      have nh : hd ≠ D := hh7.ne nD
      tm_at "w"
      refine ⟨rfl, ?_⟩
      tm_at "w"
      refine i_law_draw_1 hd' (by omega) (by omega) fun r3 H3' a3 b3 hd3 bt3 => ?_
      tm_at "w"
      refine if_dec (fun z => ?_) (fun z => ?_)
      · tm_at "w"
        exact lc_put (bt3.at hD nh.symm) hll (by omega) ⟨hd3.updN nh, (b'.trans bt3).updN nD, m ++ [c1'], by rw [List.map_append]; rfl, sub_snoc sub hc⟩
      · exact lc_skip (bt3.at hD nh.symm) hll ⟨hd3, b'.trans bt3, m, rfl, sub_skip sub⟩
    rintro acc H8 _ hD ⟨hh8, b8, m, rfl, sub⟩
    rw [List.take_length] at sub
    have lm := sub.length_le
    have W0 : 0 < W l m := (W_sub l m).mpr sub
    have B8 := B7.trans b8
    tm_at "w"
    refine i_joinC (SqL.of1 hD) (by omega) ?_
    clear B7 b8 hh7 hD nD
    tm_at "w"
    refine ⟨l, m, rfl, by omega, by omega, fun p2 rs H9 np2 s9 hrl hp2 T => ?_⟩
    obtain ⟨pre, b, e1, e2⟩ := last_rowW T hrl
    rw [e1] at hp2
    rw [List.take_length] at e2
    obtain ⟨pre2, e3⟩ := frow_lastW l m
    rw [e3] at e2
    have hh9 := Hd.same s9 hh8
    have B9 := B8.trans s9.but
    tm_at "w"
    refine i_ixL (SqL.of1 hp2) (atI_last _ _) ?_
    tm_at "w"
    refine i_ixL (SqL.of1 e2) (atI_last _ _) ?_
    clear B8 s9 hh8 T hp2 e1 e2 e3 hrl np2
    tm_at "w"
    have e8 : (10 : Int) ^ Int.toNat 8 = 100000000 := by decide
    have e16 : (10 : Int) ^ Int.toNat 16 = 10000000000000000 := by decide
    have e24 : (10 : Int) ^ Int.toNat 24 = 1000000000000000000000000 := by decide
    rw [e8]
    refine i_law_draw_1 hh9 (by omega) (by omega) fun d1 H10 d10 d11 hh10 b10 => ?_
    tm_at "w"
    rw [e16, e8]
    refine i_law_draw_1 hh10 (by omega) (by omega) fun d2 H11 d20 d21 hh11 b11 => ?_
    tm_at "w"
    rw [e8]
    refine i_law_draw_1 hh11 (by omega) (by omega) fun d3 H12 d30 d31 hh12 b12 => ?_
    have dr0 : 0 ≤ d1 * 10000000000000000 + d2 * 100000000 + d3 := by omega
    have dr1 : d1 * 10000000000000000 + d2 * 100000000 + d3 < 1000000000000000000000000 := by omega
    have B12 : But hd H2 H12 := B9.trans (b10.trans (b11.trans b12))
    clear b10 b11 b12 hh9 hh10 hh11 B9
    tm_at "w"
    generalize d1 * 10000000000000000 + d2 * 100000000 + d3 = dr at *
    clear d10 d11 d20 d21 d30 d31 d1 d2 d3
    have WB : W l m < 2 ^ 200 := Nat.lt_of_le_of_lt (W_le l m) (Nat.pow_lt_pow_right (by decide) (by omega))
    generalize hWm : W l m = wm at *
    have wm0 : (0 : Int) < (wm : Int) := by omega
    tm_at "w"
    refine i_rI (show CMulW _ _ from mulW_ok (by rw [Int.natAbs_natCast]; exact WB) ?_) ?_
    · have : dr.natAbs < 1000000000000000000000000 := by omega
      exact Nat.lt_trans this (by decide)
    tm_at "w"
    rw [e24]
    refine i_rI (show CDivW _ _ from divW_ok (by decide) (by decide)) ?_
    tm_at "w"
    refine ⟨by tm_at "z", fun q1 nq1 => ?_⟩
    have sq1 := same_new (o := .lst [V.int (dr % (wm : Int)), V.int ((wm : Int) / 2), V.int ((wm : Int) * dr / 1000000000000000000000000)]) nq1
    tm_at "w"
    refine i_law_draw_1 (hh12.updN (hh12.ne nq1)) (by omega) (by omega) fun d4 H13 d40 d41 hh13 b13 => ?_
    refine i_pickN (ns := [dr % (wm : Int), (wm : Int) / 2, (wm : Int) * dr / 1000000000000000000000000]) (SqL.of1 (b13.at upd_same (hh12.ne nq1).symm)) d40 (by simpa using d41) fun at_ hat => ?_
    have hat2 : 0 ≤ at_ ∧ at_ < (wm : Int) := by
      simp only [List.mem_cons, List.not_mem_nil, or_false] at hat
      rcases hat with h | h | h
      · rw [h]
        exact ⟨Int.emod_nonneg _ (by omega), Int.emod_lt_of_pos _ wm0⟩
      · omega
      · rw [h]
        refine ⟨Int.ediv_nonneg (Int.mul_nonneg (by omega) dr0) (by omega), ?_⟩
        refine Int.ediv_lt_of_lt_mul (by omega) ?_
        exact Int.mul_lt_mul_of_pos_left dr1 wm0
    have B13 : But hd H2 H13 := B12.trans (sq1.but.trans b13)
    have S13 : Same H2 H13 := B13.same nh
    have hh13' := hh0.same S13
    have bt13 : But g H1 H13 := bt.trans S13.but
    clear B12 B13 sq1 b13 hh12 hh13 hat nq1
    tm_at "w"
    refine ⟨by tm_at "z", fun q2 nq2 => ?_⟩
    have nq2g : q2 ≠ g := by
      obtain ⟨x, hx, _⟩ := hh13'
      exact (ne_of_none hx nq2).symm
    have sq2 := same_new (o := .lst [V.int at_, V.int ((at_ + 1) % (wm : Int)), V.int 0, V.int ((wm : Int) - 1)]) nq2
    have gq2 : upd H13 q2 (.lst [V.int at_, V.int ((at_ + 1) % (wm : Int)), V.int 0, V.int ((wm : Int) - 1)]) q2 = some (.lst (([at_, (at_ + 1) % (wm : Int), 0, (wm : Int) - 1]).map V.int)) := upd_same
    generalize upd H13 q2 (.lst [V.int at_, V.int ((at_ + 1) % (wm : Int)), V.int 0, V.int ((wm : Int) - 1)]) = H14 at *
    have hh14 := hh13'.same sq2
    have bt14 : But g H1 H14 := bt13.trans sq2.but
    clear hh13' bt13 S13
    tm_at "w"
    refine ⟨fun σ' H' => ∃ (q3 : Addr) (zs : List Int), σ' = [some (.ref a), some (.ref g), some (.int (i0 : Nat)), some (.int c), some (.ref hd), some (.ref p), some (.str (S l)), some (.int (1 + sh)), some (.str (S m)), some (.int (wm : Int)), some (.int dr), some (.int at_), some (.ref q3), v13, v14, v15] ∧
      H' q3 = some (.lst (zs.map V.int)) ∧ q3 ≠ g ∧ zs.length ≤ 40 ∧ (∀ z ∈ zs, 0 ≤ z ∧ z < (wm : Int)) ∧ Same H14 H', ?_, ?_⟩
    · obtain ⟨xs14, hx14, _⟩ := hh14
      tm_at "w"
      refine if_dec (fun z => ?_) (fun z => ?_)
      · tm_at "w"
        refine ⟨RgOk.of_le (by omega) (by omega) (by omega) (by omega), fun q3 n3 => ?_⟩
        have er : rgV 0 (wm : Int) = ((List.range wm).map fun i : Nat => (i : Int)).map V.int := by
          unfold rgV
          rw [List.map_map, Int.sub_zero, Int.toNat_natCast]
          refine List.map_congr_left fun i _ => ?_
          show V.int (0 + (i : Int)) = V.int (i : Int)
          rw [Int.zero_add]
        rw [er]
        tm_at "w"
        refine ⟨q3, _, rfl, upd_same, (ne_of_none hx14 n3).symm, by simp; omega, fun z hz => ?_, same_new n3⟩
        obtain ⟨k, hk, rfl⟩ := List.mem_map.mp hz
        have := List.mem_range.mp hk
        omega
      · tm_at "w"
        refine ⟨q2, _, rfl, gq2, nq2g, by simp, fun z hz => ?_, Same.refl _⟩
        simp only [List.mem_cons, List.not_mem_nil, or_false] at hz
        rcases hz with h | h | h | h
        · omega
        · rw [h]
          exact ⟨Int.emod_nonneg _ (by omega), Int.emod_lt_of_pos _ wm0⟩
        · omega
        · omega
    · rintro σ' H15 ⟨q3, zs, rfl, gq3, nq3, hzl, hz, s15⟩
      have hh15 := hh14.same s15
      have bt15 : But g H1 H15 := bt14.trans s15.but
      clear hh14 bt14 s15 gq2 sq2
      tm_at "w"
      tm_at "lc"
      refine c_l (xs := zs.map V.int) fun D16 n16 => ?_
      obtain ⟨xs15, hx15, hxl15, hxe15⟩ := hh15
      have nDg : D16 ≠ g := (ne_of_none hx15 n16).symm
      refine ⟨fun i acc H' => acc = [] ∧ But g H15 H' ∧ H' D16 = some (.lst []) ∧ Held H' g (i0 * 40 + i), ⟨rfl, (same_new n16).but, upd_same, ?_⟩, ?_, ?_, ?_⟩
      · exact Held.same ⟨xs15, hx15, by omega, hxe15⟩ (same_new n16)
      · rintro i acc H' _ _ ⟨rfl, b16, _, _⟩
        exact SqL.of1 (b16.at gq3 nq3)
      · rintro i acc x H' H'' hi hll hD ⟨rfl, b16, _, xs16, hx16, hxl16, hxe16⟩ ⟨rfl, hx⟩
        rw [List.length_map] at hi
        obtain ⟨z, hzm, rfl⟩ : ∃ z, z ∈ zs ∧ x = .int z := by
          rw [List.getElem?_map] at hx
          cases e : zs[i]? with
          | none => rw [e] at hx; cases hx
          | some z => rw [e] at hx; exact ⟨z, List.mem_of_getElem? e, (Option.some.inj hx).symm⟩
        obtain ⟨z0, z1⟩ := hz z hzm
        obtain ⟨pz, rfl⟩ := Int.eq_ofNat_of_zero_le z0
        tm_at "w"
        refine ⟨rfl, ?_⟩
        tm_at "w"
        refine ⟨l, m, pz, g, xs16, rfl, by omega, by omega, by omega, hx16, by omega, fun H17 t a1 b1 ns1 b17 hx17 nt na nb gt ga gb => ?_⟩
        tm_at "w"
        have nDt : H17 D16 = some (.lst []) := b17.at hD nDg
        refine lc_skip nDt hll ⟨rfl, b16.trans b17, nDt, xs16 ++ [.ref t], hx17, by simp; omega, fun y hy => ?_⟩
        rcases List.mem_append.mp hy with w | w
        · obtain ⟨t', a', b', ns', e, n1, n2, n3, g1, g2, g3⟩ := hxe16 y w
          exact ⟨t', a', b', ns', e, n1, n2, n3, b17.at g1 n1, b17.at g2 n2, b17.at g3 n3⟩
        · exact ⟨t, a1, b1, ns1, List.mem_singleton.mp w, nt, na, nb, gt, ga, gb⟩
      · rintro acc H16 _ hD ⟨rfl, b16, hD16, hh16⟩
        tm_at "w"
        refine ⟨by tm_at "z", fun q4 nq4 => ?_⟩
        have sq4 := same_new (o := .lst []) nq4
        refine i_r2L (ns := []) (ms := []) (SqL.of1 (sq4 _ _ hD16)) (SqL.of1 upd_same) ?_
        tm_at "w"
        rw [enx]
        rw [List.length_map] at hh16
        exact ⟨_, _, _, _, _, _, _, _, _, _, _, _, _, _, rfl, bt15.trans (b16.trans sq4.but), (hh16.same sq4).mono (by omega)⟩
  · rintro H1 i σ H2 _ ⟨v2, v3, v4, v5, v6, v7, v8, v9, v10, v11, v12, v13, v14, v15, rfl, bt, hh⟩
    tm_at "w"
    refine ⟨[97, 98, 97, 98], [97, 98], 2, rfl, by decide, by decide, by decide, fun a3 H3 n3 s3 g3 => ?_⟩
    tm_at "w"
    refine ⟨by tm_at "z", fun q4 nq4 => ?_⟩
    have sq4 := same_new (o := .lst [V.int 2, V.int 3]) nq4
    refine i_r2L (ns := [2, 3]) (ms := [2, 3]) (SqL.of1 (sq4 _ _ g3)) (SqL.of1 upd_same) ?_
    have hh4 := (hh.same s3).same sq4
    generalize upd H3 q4 (.lst [V.int 2, V.int 3]) = H4 at *
    tm_at "w"
    refine ⟨[], [], 0, rfl, by decide, by decide, by decide, fun a5 H5 n5 s5 g5 => ?_⟩
    tm_at "w"
    refine ⟨by tm_at "z", fun q6 nq6 => ?_⟩
    have sq6 := same_new (o := .lst []) nq6
    refine i_r2L (ns := []) (ms := []) (SqL.of1 (sq6 _ _ g5)) (SqL.of1 upd_same) ?_
    obtain ⟨xs, hx, hxl, hxe⟩ := (hh4.same s5).same sq6
    generalize upd H5 q6 (.lst []) = H6 at *
    tm_at "w"
    tm_at "lc"
    refine c_l (xs := xs) fun D n7 => ⟨fun i acc H' => acc = [] ∧ H' = upd H6 D (.lst []), ⟨rfl, rfl⟩, ?_, ?_, ?_⟩
    · rintro i acc H' _ _ ⟨rfl, rfl⟩
      exact SqL.of1 ((same_new n7) _ _ hx)
    · rintro i acc x H' H'' hi hll hD ⟨rfl, rfl⟩ ⟨rfl, hxi⟩
      obtain ⟨t, a1, b1, ns1, rfl, _, _, _, gt, ga, gb⟩ := hxe x (List.mem_of_getElem? hxi)
      have sn7 := same_new (o := .lst []) n7
      tm_at "w"
      refine ⟨rfl, ?_⟩
      tm_at "w"
      refine i_ixT (v := .ref a1) (SqT.of1 (sn7 _ _ gt)) (atI_nat (j := 0) rfl) ?_
      tm_at "w"
      refine i_ixT (v := .ref b1) (SqT.of1 (sn7 _ _ gt)) (atI_nat (j := 1) rfl) ?_
      refine i_r2L (SqL.of1 (sn7 _ _ ga)) (SqL.of1 (sn7 _ _ gb)) ?_
      tm_at "w"
      exact lc_skip hD hll ⟨rfl, rfl⟩
    · rintro acc H7 _ hD ⟨rfl, rfl⟩
      tm_at "w"
      refine ⟨by tm_at "z", fun q8 nq8 => ?_⟩
      have sq8 := same_new (o := .lst []) nq8
      refine i_r2L (ns := []) (ms := []) (SqL.of1 (sq8 _ _ hD)) (SqL.of1 upd_same) ?_
      exact q _
/-! ### the text of k22 -/
def topS (i : Nat) : Stmt := PySem.Challenge.pw_leavings_k22_ways_in_order.main.body.getD i (.Pass ⟨0, 0, 0, 0⟩)
abbrev s_ways_from_0 : Stmt := topS 4
theorem sc_ways_from_0 : FnScope N_ways_from_0 ["row", "other"] (defScope s_ways_from_0) := ⟨rfl, rfl, rfl, by decide +kernel, rfl, by decide +kernel, by decide +kernel⟩
abbrev s_way_at_0 : Stmt := topS 5
theorem sc_way_at_0 : FnScope N_way_at_0 ["row", "other", "place"] (defScope s_way_at_0) := ⟨rfl, rfl, rfl, by decide +kernel, rfl, by decide +kernel, by decide +kernel⟩
abbrev s_law_hand_1 : Stmt := topS 7
theorem sc_law_hand_1 : FnScope N_law_hand_1 ["cell", "k"] (defScope s_law_hand_1) := ⟨rfl, rfl, rfl, by decide +kernel, rfl, by decide +kernel, by decide +kernel⟩
abbrev s_law_draw_1 : Stmt := topS 8
theorem sc_law_draw_1 : FnScope N_law_draw_1 ["hand", "limit"] (defScope s_law_draw_1) := ⟨rfl, rfl, rfl, by decide +kernel, rfl, by decide +kernel, by decide +kernel⟩
abbrev s_law_cells_0 : Stmt := topS 9
theorem sc_law_cells_0 : FnScope N_law_cells_0 ["script", "many"] (defScope s_law_cells_0) := ⟨rfl, rfl, rfl, by decide +kernel, rfl, by decide +kernel, by decide +kernel⟩
abbrev s_law_pool_0 : Stmt := topS 10
theorem sc_law_pool_0 : FnScope N_law_pool_0 ["hand"] (defScope s_law_pool_0) := ⟨rfl, rfl, rfl, by decide +kernel, rfl, by decide +kernel, by decide +kernel⟩
abbrev s_law_row_1 : Stmt := topS 11
theorem sc_law_row_1 : FnScope N_law_row_1 ["hand", "pool", "many"] (defScope s_law_row_1) := ⟨rfl, rfl, rfl, by decide +kernel, rfl, by decide +kernel, by decide +kernel⟩
abbrev s_law_size_1 : Stmt := topS 12
theorem sc_law_size_1 : FnScope N_law_size_1 ["hand", "k", "most"] (defScope s_law_size_1) := ⟨rfl, rfl, rfl, by decide +kernel, rfl, by decide +kernel, by decide +kernel⟩
abbrev s_law_ways_0 : Stmt := topS 13
theorem sc_law_ways_0 : FnScope N_law_ways_0 ["row", "other"] (defScope s_law_ways_0) := ⟨rfl, rfl, rfl, by decide +kernel, rfl, by decide +kernel, by decide +kernel⟩
abbrev s_law_ahead_0 : Stmt := topS 14
theorem sc_law_ahead_0 : FnScope N_law_ahead_0 ["row", "other", "way"] (defScope s_law_ahead_0) := ⟨rfl, rfl, rfl, by decide +kernel, rfl, by decide +kernel, by decide +kernel⟩
abbrev s_law_right_3 : Stmt := topS 15
theorem sc_law_right_3 : FnScope N_law_right_3 ["row", "other", "place", "held"] (defScope s_law_right_3) := ⟨rfl, rfl, rfl, by decide +kernel, rfl, by decide +kernel, by decide +kernel⟩
abbrev s_law_k22 : Stmt := topS 16
theorem sc_law_k22 : FnScope N_law_k22 ["script"] (defScope s_law_k22) := ⟨rfl, rfl, rfl, by decide +kernel, rfl, by decide +kernel, by decide +kernel⟩
structure Txt (K : PySem.W.Frag) (mg : Str → Option Value) where
  (f_ways_from_0 : Addr)
  (fd_ways_from_0 : FuncData)
  (f_way_at_0 : Addr)
  (fd_way_at_0 : FuncData)
  (f_law_hand_1 : Addr)
  (fd_law_hand_1 : FuncData)
  (f_law_draw_1 : Addr)
  (fd_law_draw_1 : FuncData)
  (f_law_cells_0 : Addr)
  (fd_law_cells_0 : FuncData)
  (f_law_pool_0 : Addr)
  (fd_law_pool_0 : FuncData)
  (f_law_row_1 : Addr)
  (fd_law_row_1 : FuncData)
  (f_law_size_1 : Addr)
  (fd_law_size_1 : FuncData)
  (f_law_ways_0 : Addr)
  (fd_law_ways_0 : FuncData)
  (f_law_ahead_0 : Addr)
  (fd_law_ahead_0 : FuncData)
  (f_law_right_3 : Addr)
  (fd_law_right_3 : FuncData)
  (f_law_k22 : Addr)
  (fd_law_k22 : FuncData)
  F_ways_from_0 : Fun K "ways_from" "ways_from" s_ways_from_0 f_ways_from_0 fd_ways_from_0
  a_ways_from_0 : mg "ways_from" = some (.ref f_ways_from_0)
  b_ways_from_0 : Binds K fd_ways_from_0 ["row", "other"] []
  F_way_at_0 : Fun K "way_at" "way_at" s_way_at_0 f_way_at_0 fd_way_at_0
  a_way_at_0 : mg "way_at" = some (.ref f_way_at_0)
  b_way_at_0 : Binds K fd_way_at_0 ["row", "other", "place"] []
  F_law_hand_1 : Fun K "_law_hand" "_law_hand" s_law_hand_1 f_law_hand_1 fd_law_hand_1
  a_law_hand_1 : mg "_law_hand" = some (.ref f_law_hand_1)
  b_law_hand_1 : Binds K fd_law_hand_1 ["cell", "k"] []
  F_law_draw_1 : Fun K "_law_draw" "_law_draw" s_law_draw_1 f_law_draw_1 fd_law_draw_1
  a_law_draw_1 : mg "_law_draw" = some (.ref f_law_draw_1)
  b_law_draw_1 : Binds K fd_law_draw_1 ["hand", "limit"] []
  F_law_cells_0 : Fun K "_law_cells" "_law_cells" s_law_cells_0 f_law_cells_0 fd_law_cells_0
  a_law_cells_0 : mg "_law_cells" = some (.ref f_law_cells_0)
  b_law_cells_0 : Binds K fd_law_cells_0 ["script", "many"] []
  F_law_pool_0 : Fun K "_law_pool" "_law_pool" s_law_pool_0 f_law_pool_0 fd_law_pool_0
  a_law_pool_0 : mg "_law_pool" = some (.ref f_law_pool_0)
  b_law_pool_0 : Binds K fd_law_pool_0 ["hand"] []
  F_law_row_1 : Fun K "_law_row" "_law_row" s_law_row_1 f_law_row_1 fd_law_row_1
  a_law_row_1 : mg "_law_row" = some (.ref f_law_row_1)
  b_law_row_1 : Binds K fd_law_row_1 ["hand", "pool", "many"] []
  F_law_size_1 : Fun K "_law_size" "_law_size" s_law_size_1 f_law_size_1 fd_law_size_1
  a_law_size_1 : mg "_law_size" = some (.ref f_law_size_1)
  b_law_size_1 : Binds K fd_law_size_1 ["hand", "k", "most"] []
  F_law_ways_0 : Fun K "_law_ways" "_law_ways" s_law_ways_0 f_law_ways_0 fd_law_ways_0
  a_law_ways_0 : mg "_law_ways" = some (.ref f_law_ways_0)
  b_law_ways_0 : Binds K fd_law_ways_0 ["row", "other"] []
  F_law_ahead_0 : Fun K "_law_ahead" "_law_ahead" s_law_ahead_0 f_law_ahead_0 fd_law_ahead_0
  a_law_ahead_0 : mg "_law_ahead" = some (.ref f_law_ahead_0)
  b_law_ahead_0 : Binds K fd_law_ahead_0 ["row", "other", "way"] []
  F_law_right_3 : Fun K "_law_right" "_law_right" s_law_right_3 f_law_right_3 fd_law_right_3
  a_law_right_3 : mg "_law_right" = some (.ref f_law_right_3)
  b_law_right_3 : Binds K fd_law_right_3 ["row", "other", "place", "held"] []
  F_law_k22 : Fun K "law" "law" s_law_k22 f_law_k22 fd_law_k22
  z_bool : mg "bool" = none
  z_enumerate : mg "enumerate" = none
  z_int : mg "int" = none
  z_isinstance : mg "isinstance" = none
  z_len : mg "len" = none
  z_list : mg "list" = none
  z_max : mg "max" = none
  z_min : mg "min" = none
  z_range : mg "range" = none
  z_zip : mg "zip" = none
section
variable {P : Program} {w : World} {K : PySem.W.Frag} {mg : Str → Option Value} {base : Heap}
theorem ok_ways_from_0 (T : Txt K mg) : FnOk P w K mg base CX0 1 T.f_ways_from_0 T.fd_ways_from_0 ["row", "other"] (sp_ways_from_0 K) := by
  have nd := sc_ways_from_0.nd
  refine T.F_ways_from_0.ok sc_ways_from_0 (fun vs H Q E h => ?_) (fun cdv A outer s H vs Q E hr h => ⟨t_ways_from_0 K, ?_, pure_ways_from_0 vs H Q E h⟩)
  · unfold sp_ways_from_0 at h
    repeat (first | (obtain ⟨rfl, _⟩ := h; rfl) | (obtain ⟨_, h⟩ := h))
  · unfold t_ways_from_0
    exact (pss_cons (ps_setLc (i := 2) (own := [("place", 3)]) (g := (gName 3)) (tt := tYes) (by rfl) nd rfl rfl (sw_true rfl rfl rfl (by decide +kernel)) (pi_range1 (by rfl) T.z_range (pa_cons (pe_op op_add (pe_callB Lv.call_lenT (by rfl) T.z_len (by decide +kernel) (pa_cons (pv 0) pa_nil)) pe_int) pa_nil)) (blkOk_by (own := [("place", 3)]) (N := N_ways_from_0) (sc := defScope s_ways_from_0) (by decide +kernel)) (fun _ _ _ _ _ => (pg_name (i := 3) nd rfl (by first | exact Or.inl rfl | exact Or.inr rfl))) (fun _ _ _ _ _ => pts_nil) (fun _ _ _ _ _ => (pe_op op_cat (pe_op op_rep (pe_lst (pa_cons pe_int pa_nil)) (pe_callB Lv.call_lenT (by rfl) T.z_len (by decide +kernel) (pa_cons (pv 1) pa_nil))) (pe_lst (pa_cons pe_int pa_nil))))) (pss_cons (ps_for PassesOwn.never (by rfl) (pi_range3 (by rfl) T.z_range (pa_cons (pe_op op_sub (pe_callB Lv.call_lenT (by rfl) T.z_len (by decide +kernel) (pa_cons (pv 0) pa_nil)) pe_int) (pa_cons (pe_un un_neg pe_int) (pa_cons (pe_un un_neg pe_int) pa_nil)))) (pg_name (i := 3) nd rfl (by first | exact Or.inl rfl | exact Or.inr rfl)) (pss_one (ps_for PassesOwn.never (by rfl) (Lv.pi_enumS (by rfl) T.z_enumerate (pa_cons (pv 1) pa_nil)) (pg_tup (by rfl) (pgs_cons (pg_name (i := 4) nd rfl (by first | exact Or.inl rfl | exact Or.inr rfl)) (pgs_cons (pg_name (i := 5) nd rfl (by first | exact Or.inl rfl | exact Or.inr rfl)) pgs_nil))) (pss_cons (ps_asg (pe_ix ix_list (pe_ix ix_list (pv 2) (pe_op op_add (pv 3) pe_int) (fun _ _ => rfl)) (pv 4) (fun _ _ => rfl)) (pg_sub (pe_ix ix_list (pv 2) (pv 3) (fun _ _ => rfl)) (pv 4) set_list)) (pss_one (ps_if (pt_cmpR Lv.op_eqS (pe_ix Lv.ix_S (pv 0) (pv 3) (fun _ _ => rfl)) (pv 5) (nomark _)) (pss_one (ps_augS (pe_ix ix_list (pv 2) (pv 3) (fun _ _ => rfl)) (pv 4) Lv.get_list (pe_ix ix_list (pe_ix ix_list (pv 2) (pe_op op_add (pv 3) pe_int) (fun _ _ => rfl)) (pe_op op_add (pv 4) pe_int) (fun _ _ => rfl)) ip_add set_list)) pss_nil)))))) (pss_one (ps_ret (pv 2)))))
theorem ok_way_at_0 (T : Txt K mg) : FnOk P w K mg base CX0 2 T.f_way_at_0 T.fd_way_at_0 ["row", "other", "place"] (sp_way_at_0 K) := by
  have nd := sc_way_at_0.nd
  have G_ways_from_0 := ok_ways_from_0 (P := P) (w := w) (base := base) T
  refine T.F_way_at_0.ok sc_way_at_0 (fun vs H Q E h => ?_) (fun cdv A outer s H vs Q E hr h => ⟨t_way_at_0 K, ?_, pure_way_at_0 vs H Q E h⟩)
  · unfold sp_way_at_0 at h
    repeat (first | (obtain ⟨rfl, _⟩ := h; rfl) | (obtain ⟨_, h⟩ := h))
  · unfold t_way_at_0
    exact (pss_cons (ps_set (i := 3) nd rfl (by first | exact Or.inl rfl | exact Or.inr rfl) (pe_call G_ways_from_0 (hr.mono (by decide)) (by rfl) T.a_ways_from_0 T.F_ways_from_0.kp T.b_ways_from_0 .nil pass0 (pa_cons (pv 0) (pa_cons (pv 1) pa_nil)))) (pss_cons (ps_if (PW.pt (pw_or (pt_not (pt_val (pe_callB call_isi (by rfl) T.z_isinstance (by decide +kernel) (pa_cons (pv 2) (pa_cons (pe_bltn (v := .ty "int") (u := .type "int") (by rfl) T.z_int (by decide +kernel) rfl) pa_nil))))) (pw_or (pt_val (pe_callB call_isi (by rfl) T.z_isinstance (by decide +kernel) (pa_cons (pv 2) (pa_cons (pe_bltn (v := .ty "bool") (u := .type "bool") (by rfl) T.z_bool (by decide +kernel) rfl) pa_nil)))) (pw_or1 (pt_not (pt_chain op_le op_lt pe_int (pv 2) (pe_ix ix_list (pe_ix ix_list (pv 3) pe_int (fun _ _ => rfl)) pe_int (fun _ _ => rfl)))))))) (pss_one Lv.ps_never) pss_nil) (pss_cons (ps_set (i := 4) nd rfl (by first | exact Or.inl rfl | exact Or.inr rfl) (pv 2)) (pss_cons (ps_set (i := 5) nd rfl (by first | exact Or.inl rfl | exact Or.inr rfl) (pe_lst pa_nil)) (pss_cons (ps_set (i := 6) nd rfl (by first | exact Or.inl rfl | exact Or.inr rfl) pe_int) (pss_cons (ps_for PassesOwn.never (by rfl) (Lv.pi_enumS (by rfl) T.z_enumerate (pa_cons (pv 1) pa_nil)) (pg_tup (by rfl) (pgs_cons (pg_name (i := 7) nd rfl (by first | exact Or.inl rfl | exact Or.inr rfl)) (pgs_cons (pg_name (i := 8) nd rfl (by first | exact Or.inl rfl | exact Or.inr rfl)) pgs_nil))) (pss_cons (ps_while PassesOwn.never (PW.pt (pw_or (pt_cmpR Lv.op_neS (pe_ix Lv.ix_S (pv 0) (pv 6) (fun _ _ => rfl)) (pv 8) (nomark _)) (pw_or1 (pt_cmpR op_ge (pv 4) (pe_ix ix_list (pe_ix ix_list (pv 3) (pe_op op_add (pv 6) pe_int) (fun _ _ => rfl)) (pe_op op_add (pv 7) pe_int) (fun _ _ => rfl)) (nomark _))))) (Evl.pss_cut (ps_if (pt_cmpR Lv.op_eqS (pe_ix Lv.ix_S (pv 0) (pv 6) (fun _ _ => rfl)) (pv 8) (nomark _)) (pss_one (ps_aug (i := 4) nd rfl (by first | exact Or.inl rfl | exact Or.inr rfl) (pe_ix ix_list (pe_ix ix_list (pv 3) (pe_op op_add (pv 6) pe_int) (fun _ _ => rfl)) (pe_op op_add (pv 7) pe_int) (fun _ _ => rfl)) ip_sub)) pss_nil) (pss_one (ps_aug (i := 6) nd rfl (by first | exact Or.inl rfl | exact Or.inr rfl) pe_int ip_add)))) (pss_cons (ps_expr (pe_bm PySem.F.plainAttrs_list PySem.F.slot_list_append PySem.F.type_list_append mt_append (pv 5) (pa_cons (pv 6) pa_nil))) (pss_one (ps_aug (i := 6) nd rfl (by first | exact Or.inl rfl | exact Or.inr rfl) pe_int ip_add))))) (pss_one (ps_ret (pv 5)))))))))
theorem ok_law_hand_1 (T : Txt K mg) : FnOk P w K mg base CX0 1 T.f_law_hand_1 T.fd_law_hand_1 ["cell", "k"] (sp_law_hand_1 K) := by
  have nd := sc_law_hand_1.nd
  refine T.F_law_hand_1.ok sc_law_hand_1 (fun vs H Q E h => ?_) (fun cdv A outer s H vs Q E hr h => ⟨t_law_hand_1 K, ?_, pure_law_hand_1 vs H Q E h⟩)
  · unfold sp_law_hand_1 at h
    repeat (first | (obtain ⟨rfl, _⟩ := h; rfl) | (obtain ⟨_, h⟩ := h))
  · unfold t_law_hand_1
    exact (pss_cons (ps_set (i := 2) nd rfl (by first | exact Or.inl rfl | exact Or.inr rfl) pe_int) (Evl.pss_cut (ps_if (pt_cmpR op_ge (pv 0) (pe_op op_pow pe_int pe_int) (nomark _)) (pss_one (ps_set (i := 2) nd rfl (by first | exact Or.inl rfl | exact Or.inr rfl) (pv 0))) pss_nil) (pss_one (ps_ret (pe_lst (pa_cons (pv 2) (pa_cons (pe_op op_mod (pe_op op_mul (pe_op op_add (pe_op op_add (pe_op op_mod (pv 0) pe_int) (pe_op op_mul pe_int (pv 1))) pe_int) pe_int) pe_int) pa_nil)))))))
theorem ok_law_draw_1 (T : Txt K mg) : FnOk P w K mg base CX0 1 T.f_law_draw_1 T.fd_law_draw_1 ["hand", "limit"] (sp_law_draw_1 K) := by
  have nd := sc_law_draw_1.nd
  refine T.F_law_draw_1.ok sc_law_draw_1 (fun vs H Q E h => ?_) (fun cdv A outer s H vs Q E hr h => ⟨t_law_draw_1 K, ?_, pure_law_draw_1 vs H Q E h⟩)
  · unfold sp_law_draw_1 at h
    repeat (first | (obtain ⟨rfl, _⟩ := h; rfl) | (obtain ⟨_, h⟩ := h))
  · unfold t_law_draw_1
    exact (pss_cons (ps_if (pt_cmpR op_gt (pe_ix ix_list (pv 0) pe_int (fun _ _ => rfl)) pe_int (nomark _)) (pss_cons (ps_set (i := 2) nd rfl (by first | exact Or.inl rfl | exact Or.inr rfl) (pe_op op_mod (pe_ix ix_list (pv 0) pe_int (fun _ _ => rfl)) (pv 1))) (pss_cons (ps_asg (pe_op op_fdiv (pe_ix ix_list (pv 0) pe_int (fun _ _ => rfl)) (pv 1)) (pg_sub (pv 0) pe_int set_list)) (pss_one (ps_ret (pv 2))))) pss_nil) (pss_cons (ps_asg (pe_op op_mod (pe_op op_add (pe_op op_add (pe_op op_mul (pe_ix ix_list (pv 0) pe_int (fun _ _ => rfl)) (pe_ix ix_list (pv 0) pe_int (fun _ _ => rfl))) (pe_op op_mul pe_int (pe_ix ix_list (pv 0) pe_int (fun _ _ => rfl)))) pe_int) pe_int) (pg_sub (pv 0) pe_int set_list)) (pss_one (ps_ret (pe_op op_mod (pe_op op_fdiv (pe_ix ix_list (pv 0) pe_int (fun _ _ => rfl)) pe_int) (pv 1))))))
theorem ok_law_cells_0 (T : Txt K mg) : FnOk P w K mg base CX0 1 T.f_law_cells_0 T.fd_law_cells_0 ["script", "many"] (sp_law_cells_0 K) := by
  have nd := sc_law_cells_0.nd
  refine T.F_law_cells_0.ok sc_law_cells_0 (fun vs H Q E h => ?_) (fun cdv A outer s H vs Q E hr h => ⟨t_law_cells_0 K, ?_, pure_law_cells_0 vs H Q E h⟩)
  · unfold sp_law_cells_0 at h
    repeat (first | (obtain ⟨rfl, _⟩ := h; rfl) | (obtain ⟨_, h⟩ := h))
  · unfold t_law_cells_0
    exact (pss_one (ps_ret (Lv.pe_listEn (by rfl) (pe_op op_cat (pe_slice sl_list (pv 0) po_none (po_some (pv 1))) (pe_op op_rep (pe_lst (pa_cons pe_int pa_nil)) (pe_callTy Lv.call_intB (by rfl) T.z_int (by decide +kernel) (pa_cons (pe_cmpR (Lv.op_eqL hr.units) (pv 0) (pe_lst pa_nil) (nomark _)) pa_nil)))) (by rfl) T.z_list (by rfl) T.z_enumerate)))
theorem ok_law_pool_0 (T : Txt K mg) : FnOk P w K mg base CX0 2 T.f_law_pool_0 T.fd_law_pool_0 ["hand"] (sp_law_pool_0 K) := by
  have nd := sc_law_pool_0.nd
  have G_law_draw_1 := ok_law_draw_1 (P := P) (w := w) (base := base) T
  refine T.F_law_pool_0.ok sc_law_pool_0 (fun vs H Q E h => ?_) (fun cdv A outer s H vs Q E hr h => ⟨t_law_pool_0 K, ?_, pure_law_pool_0 vs H Q E h⟩)
  · unfold sp_law_pool_0 at h
    repeat (first | (obtain ⟨rfl, _⟩ := h; rfl) | (obtain ⟨_, h⟩ := h))
  · unfold t_law_pool_0
    exact (pss_cons (ps_set (i := 1) nd rfl (by first | exact Or.inl rfl | exact Or.inr rfl) (Lv.pe_strS (l := [97, 98, 99, 100, 101, 102, 103, 104, 105, 106, 107, 108, 109, 110, 111, 112, 113, 114, 115, 116, 117, 118, 119, 120, 121, 122]) (by decide +kernel))) (pss_cons (ps_set (i := 2) nd rfl (by first | exact Or.inl rfl | exact Or.inr rfl) (pe_ix ix_list (pe_lst (pa_cons pe_int (pa_cons pe_int (pa_cons pe_int (pa_cons pe_int pa_nil))))) (pe_call G_law_draw_1 (hr.mono (by decide)) (by rfl) T.a_law_draw_1 T.F_law_draw_1.kp T.b_law_draw_1 .nil pass0 (pa_cons (pv 0) (pa_cons pe_int pa_nil))) (fun _ _ => rfl))) (pss_cons (ps_set (i := 3) nd rfl (by first | exact Or.inl rfl | exact Or.inr rfl) (pe_call G_law_draw_1 (hr.mono (by decide)) (by rfl) T.a_law_draw_1 T.F_law_draw_1.kp T.b_law_draw_1 .nil pass0 (pa_cons (pv 0) (pa_cons pe_int pa_nil)))) (pss_cons (ps_set (i := 4) nd rfl (by first | exact Or.inl rfl | exact Or.inr rfl) (pe_ix ix_list (pe_lst (pa_cons pe_int (pa_cons pe_int (pa_cons pe_int (pa_cons pe_int (pa_cons pe_int (pa_cons pe_int pa_nil))))))) (pe_call G_law_draw_1 (hr.mono (by decide)) (by rfl) T.a_law_draw_1 T.F_law_draw_1.kp T.b_law_draw_1 .nil pass0 (pa_cons (pv 0) (pa_cons pe_int pa_nil))) (fun _ _ => rfl))) (pss_one (ps_ret (pe_lc (own := [("k", 5)]) (g := (gName 5)) (tt := tYes) (by rfl) nd (pi_range1 (by rfl) T.z_range (pa_cons (pv 2) pa_nil)) (blkOk_by (own := [("k", 5)]) (N := N_law_pool_0) (sc := defScope s_law_pool_0) (by decide +kernel)) (fun _ _ _ _ _ => (pg_name (i := 5) nd rfl (by first | exact Or.inl rfl | exact Or.inr rfl))) (fun _ _ _ _ _ => pts_nil) (fun _ _ _ _ _ => (pe_ix Lv.ix_S (pv 1) (pe_op op_mod (pe_op op_add (pv 3) (pe_op op_mul (pv 4) (pv 5))) pe_int) (fun _ _ => rfl))))))))))
theorem ok_law_row_1 (T : Txt K mg) : FnOk P w K mg base CX0 2 T.f_law_row_1 T.fd_law_row_1 ["hand", "pool", "many"] (sp_law_row_1 K) := by
  have nd := sc_law_row_1.nd
  have G_law_draw_1 := ok_law_draw_1 (P := P) (w := w) (base := base) T
  refine T.F_law_row_1.ok sc_law_row_1 (fun vs H Q E h => ?_) (fun cdv A outer s H vs Q E hr h => ⟨t_law_row_1 K, ?_, pure_law_row_1 vs H Q E h⟩)
  · unfold sp_law_row_1 at h
    repeat (first | (obtain ⟨rfl, _⟩ := h; rfl) | (obtain ⟨_, h⟩ := h))
  · unfold t_law_row_1
    exact (pss_cons (ps_set (i := 3) nd rfl (by first | exact Or.inl rfl | exact Or.inr rfl) (pe_call G_law_draw_1 (hr.mono (by decide)) (by rfl) T.a_law_draw_1 T.F_law_draw_1.kp T.b_law_draw_1 .nil pass0 (pa_cons (pv 0) (pa_cons pe_int pa_nil)))) (pss_cons (ps_if (pt_cmpR Lv.op_eqI (pv 3) pe_int (nomark _)) (pss_cons (ps_set (i := 4) nd rfl (by first | exact Or.inl rfl | exact Or.inr rfl) (pe_lc (own := [("k", 7)]) (g := (gName 7)) (tt := tYes) (by rfl) nd (pi_range1 (by rfl) T.z_range (pa_cons (pe_op op_add pe_int (pe_call G_law_draw_1 (hr.mono (by decide)) (by rfl) T.a_law_draw_1 T.F_law_draw_1.kp T.b_law_draw_1 .nil pass0 (pa_cons (pv 0) (pa_cons pe_int pa_nil)))) pa_nil)) (blkOk_by (own := [("k", 7)]) (N := N_law_row_1) (sc := defScope s_law_row_1) (by decide +kernel)) (fun _ _ _ _ _ => (pg_name (i := 7) nd rfl (by first | exact Or.inl rfl | exact Or.inr rfl))) (fun _ _ _ _ _ => pts_nil) (fun _ _ _ _ _ => (pe_ix ix_list (pv 1) (pe_call G_law_draw_1 (hr.mono (by decide)) (by rfl) T.a_law_draw_1 T.F_law_draw_1.kp T.b_law_draw_1 .nil pass0 (pa_cons (pv 0) (pa_cons (pe_callB call_len_seq (by rfl) T.z_len (by decide +kernel) (pa_cons (pv 1) pa_nil)) pa_nil))) (fun _ _ => rfl))))) (pss_one (ps_ret (pe_bm PySem.F.plainAttrs_str PySem.F.slot_str_join PySem.F.type_str_join Lv.mt_joinS (Lv.pe_strS (l := []) (by decide +kernel)) (pa_cons (pe_lc (own := [("k", 7)]) (g := (gName 7)) (tt := tYes) (by rfl) nd (pi_range1 (by rfl) T.z_range (pa_cons (pv 2) pa_nil)) (blkOk_by (own := [("k", 7)]) (N := N_law_row_1) (sc := defScope s_law_row_1) (by decide +kernel)) (fun _ _ _ _ _ => (pg_name (i := 7) nd rfl (by first | exact Or.inl rfl | exact Or.inr rfl))) (fun _ _ _ _ _ => pts_nil) (fun _ _ _ _ _ => (pe_ix ix_list (pv 4) (pe_op op_mod (pv 7) (pe_callB call_len_seq (by rfl) T.z_len (by decide +kernel) (pa_cons (pv 4) pa_nil))) (fun _ _ => rfl)))) pa_nil))))) pss_nil) (pss_cons (ps_if (pt_cmpR Lv.op_eqI (pv 3) pe_int (nomark _)) (pss_cons (ps_set (i := 5) nd rfl (by first | exact Or.inl rfl | exact Or.inr rfl) (pe_op op_rep (pe_lst (pa_cons (pe_ix ix_list (pv 1) pe_int (fun _ _ => rfl)) pa_nil)) (pv 2))) (pss_cons (ps_for PassesOwn.never (by rfl) (pi_range1 (by rfl) T.z_range (pa_cons (pe_op op_mul pe_int (pe_callTy Lv.call_intB (by rfl) T.z_int (by decide +kernel) (pa_cons (pe_cmpR op_gt (pv 2) pe_int (nomark _)) pa_nil))) pa_nil)) (pg_name (i := 6) nd rfl (by first | exact Or.inl rfl | exact Or.inr rfl)) (pss_one (ps_asg (pe_ix ix_list (pv 1) (pe_call G_law_draw_1 (hr.mono (by decide)) (by rfl) T.a_law_draw_1 T.F_law_draw_1.kp T.b_law_draw_1 .nil pass0 (pa_cons (pv 0) (pa_cons (pe_callB call_len_seq (by rfl) T.z_len (by decide +kernel) (pa_cons (pv 1) pa_nil)) pa_nil))) (fun _ _ => rfl)) (pg_sub (pv 5) (pe_call G_law_draw_1 (hr.mono (by decide)) (by rfl) T.a_law_draw_1 T.F_law_draw_1.kp T.b_law_draw_1 .nil pass0 (pa_cons (pv 0) (pa_cons (pv 2) pa_nil))) set_list)))) (pss_one (ps_ret (pe_bm PySem.F.plainAttrs_str PySem.F.slot_str_join PySem.F.type_str_join Lv.mt_joinS (Lv.pe_strS (l := []) (by decide +kernel)) (pa_cons (pv 5) pa_nil)))))) pss_nil) (pss_one (ps_ret (pe_bm PySem.F.plainAttrs_str PySem.F.slot_str_join PySem.F.type_str_join Lv.mt_joinS (Lv.pe_strS (l := []) (by decide +kernel)) (pa_cons (pe_lc (own := [("k", 7)]) (g := (gName 7)) (tt := tYes) (by rfl) nd (pi_range1 (by rfl) T.z_range (pa_cons (pv 2) pa_nil)) (blkOk_by (own := [("k", 7)]) (N := N_law_row_1) (sc := defScope s_law_row_1) (by decide +kernel)) (fun _ _ _ _ _ => (pg_name (i := 7) nd rfl (by first | exact Or.inl rfl | exact Or.inr rfl))) (fun _ _ _ _ _ => pts_nil) (fun _ _ _ _ _ => (pe_ix ix_list (pv 1) (pe_call G_law_draw_1 (hr.mono (by decide)) (by rfl) T.a_law_draw_1 T.F_law_draw_1.kp T.b_law_draw_1 .nil pass0 (pa_cons (pv 0) (pa_cons (pe_callB call_len_seq (by rfl) T.z_len (by decide +kernel) (pa_cons (pv 1) pa_nil)) pa_nil))) (fun _ _ => rfl)))) pa_nil)))))))
theorem ok_law_size_1 (T : Txt K mg) : FnOk P w K mg base CX0 2 T.f_law_size_1 T.fd_law_size_1 ["hand", "k", "most"] (sp_law_size_1 K) := by
  have nd := sc_law_size_1.nd
  have G_law_draw_1 := ok_law_draw_1 (P := P) (w := w) (base := base) T
  refine T.F_law_size_1.ok sc_law_size_1 (fun vs H Q E h => ?_) (fun cdv A outer s H vs Q E hr h => ⟨t_law_size_1 K, ?_, pure_law_size_1 vs H Q E h⟩)
  · unfold sp_law_size_1 at h
    repeat (first | (obtain ⟨rfl, _⟩ := h; rfl) | (obtain ⟨_, h⟩ := h))
  · unfold t_law_size_1
    exact (pss_cons (ps_if (PW.pt (pw_and (pt_cmpR Lv.op_eqI (pv 1) pe_int (nomark _)) (pw_and1 (pt_cmpR Lv.op_eqI (pe_call G_law_draw_1 (hr.mono (by decide)) (by rfl) T.a_law_draw_1 T.F_law_draw_1.kp T.b_law_draw_1 .nil pass0 (pa_cons (pv 0) (pa_cons pe_int pa_nil))) pe_int (nomark _))))) (pss_cons (ps_set (i := 3) nd rfl (by first | exact Or.inl rfl | exact Or.inr rfl) (pe_call G_law_draw_1 (hr.mono (by decide)) (by rfl) T.a_law_draw_1 T.F_law_draw_1.kp T.b_law_draw_1 .nil pass0 (pa_cons (pv 0) (pa_cons pe_int pa_nil)))) (pss_one (ps_ret (pe_ix ix_list (pe_lst (pa_cons pe_int (pa_cons (pv 3) pa_nil))) (pe_call G_law_draw_1 (hr.mono (by decide)) (by rfl) T.a_law_draw_1 T.F_law_draw_1.kp T.b_law_draw_1 .nil pass0 (pa_cons (pv 0) (pa_cons pe_int pa_nil))) (fun _ _ => rfl))))) pss_nil) (pss_cons (ps_set (i := 4) nd rfl (by first | exact Or.inl rfl | exact Or.inr rfl) (pe_call G_law_draw_1 (hr.mono (by decide)) (by rfl) T.a_law_draw_1 T.F_law_draw_1.kp T.b_law_draw_1 .nil pass0 (pa_cons (pv 0) (pa_cons pe_int pa_nil)))) (pss_one (ps_ret (pe_call G_law_draw_1 (hr.mono (by decide)) (by rfl) T.a_law_draw_1 T.F_law_draw_1.kp T.b_law_draw_1 .nil pass0 (pa_cons (pv 0) (pa_cons (pe_ix ix_list (pe_lst (pa_cons pe_int (pa_cons pe_int (pa_cons (pe_op op_add (pv 2) pe_int) pa_nil)))) (pv 4) (fun _ _ => rfl)) pa_nil)))))))
theorem ok_law_ways_0 (T : Txt K mg) : FnOk P w K mg base CX0 1 T.f_law_ways_0 T.fd_law_ways_0 ["row", "other"] (sp_law_ways_0 K) := by
  have nd := sc_law_ways_0.nd
  refine T.F_law_ways_0.ok sc_law_ways_0 (fun vs H Q E h => ?_) (fun cdv A outer s H vs Q E hr h => ⟨t_law_ways_0 K, ?_, pure_law_ways_0 vs H Q E h⟩)
  · unfold sp_law_ways_0 at h
    repeat (first | (obtain ⟨rfl, _⟩ := h; rfl) | (obtain ⟨_, h⟩ := h))
  · unfold t_law_ways_0
    exact (pss_cons (ps_set (i := 2) nd rfl (by first | exact Or.inl rfl | exact Or.inr rfl) (pe_lst (pa_cons (pe_op op_cat (pe_lst (pa_cons pe_int pa_nil)) (pe_op op_rep (pe_lst (pa_cons pe_int pa_nil)) (pe_callB Lv.call_lenT (by rfl) T.z_len (by decide +kernel) (pa_cons (pv 1) pa_nil)))) pa_nil))) (pss_cons (ps_for PassesOwn.never (by rfl) (pi_str (pv 0)) (pg_name (i := 3) nd rfl (by first | exact Or.inl rfl | exact Or.inr rfl)) (pss_cons (ps_set (i := 4) nd rfl (by first | exact Or.inl rfl | exact Or.inr rfl) (pe_ix ix_list (pv 2) (pe_un un_neg pe_int) (fun _ _ => rfl))) (pss_cons (ps_set (i := 5) nd rfl (by first | exact Or.inl rfl | exact Or.inr rfl) (pe_callTy call_list_of (by rfl) T.z_list (by decide +kernel) (pa_cons (pv 4) pa_nil))) (pss_cons (ps_for PassesOwn.never (by rfl) (Lv.pi_enumS (by rfl) T.z_enumerate (pa_cons (pv 1) pa_nil)) (pg_tup (by rfl) (pgs_cons (pg_name (i := 6) nd rfl (by first | exact Or.inl rfl | exact Or.inr rfl)) (pgs_cons (pg_name (i := 7) nd rfl (by first | exact Or.inl rfl | exact Or.inr rfl)) pgs_nil))) (pss_one (ps_if (pt_cmpR Lv.op_eqS (pv 7) (pv 3) (nomark _)) (pss_one (ps_asg (pe_op op_add (pe_ix ix_list (pv 5) (pe_op op_add (pv 6) pe_int) (fun _ _ => rfl)) (pe_ix ix_list (pv 4) (pv 6) (fun _ _ => rfl))) (pg_sub (pv 5) (pe_op op_add (pv 6) pe_int) set_list))) pss_nil))) (pss_one (ps_expr (pe_bm PySem.F.plainAttrs_list PySem.F.slot_list_append PySem.F.type_list_append mt_append (pv 2) (pa_cons (pv 5) pa_nil)))))))) (pss_one (ps_ret (pv 2)))))
theorem ok_law_ahead_0 (T : Txt K mg) : FnOk P w K mg base CX0 2 T.f_law_ahead_0 T.fd_law_ahead_0 ["row", "other", "way"] (sp_law_ahead_0 K) := by
  have nd := sc_law_ahead_0.nd
  have G_law_ways_0 := ok_law_ways_0 (P := P) (w := w) (base := base) T
  refine T.F_law_ahead_0.ok sc_law_ahead_0 (fun vs H Q E h => ?_) (fun cdv A outer s H vs Q E hr h => ⟨t_law_ahead_0 K, ?_, pure_law_ahead_0 vs H Q E h⟩)
  · unfold sp_law_ahead_0 at h
    repeat (first | (obtain ⟨rfl, _⟩ := h; rfl) | (obtain ⟨_, h⟩ := h))
  · unfold t_law_ahead_0
    exact (pss_cons (ps_set (i := 3) nd rfl (by first | exact Or.inl rfl | exact Or.inr rfl) (pe_call G_law_ways_0 (hr.mono (by decide)) (by rfl) T.a_law_ways_0 T.F_law_ways_0.kp T.b_law_ways_0 .nil pass0 (pa_cons (Lv.pe_revS (pv 0)) (pa_cons (Lv.pe_revS (pv 1)) pa_nil)))) (pss_cons (ps_set (i := 4) nd rfl (by first | exact Or.inl rfl | exact Or.inr rfl) pe_int) (pss_cons (ps_set (i := 5) nd rfl (by first | exact Or.inl rfl | exact Or.inr rfl) pe_int) (pss_cons (ps_for PassesOwn.never (by rfl) (pi_enum (by rfl) T.z_enumerate (pa_cons (pv 2) pa_nil)) (pg_tup (by rfl) (pgs_cons (pg_name (i := 6) nd rfl (by first | exact Or.inl rfl | exact Or.inr rfl)) (pgs_cons (pg_name (i := 7) nd rfl (by first | exact Or.inl rfl | exact Or.inr rfl)) pgs_nil))) (pss_cons (ps_for PassesOwn.never (by rfl) (pi_range2 (by rfl) T.z_range (pa_cons (pv 5) (pa_cons (pv 7) pa_nil))) (pg_name (i := 8) nd rfl (by first | exact Or.inl rfl | exact Or.inr rfl)) (pss_one (ps_if (pt_cmpR Lv.op_eqS (pe_ix Lv.ix_S (pv 0) (pv 8) (fun _ _ => rfl)) (pe_ix Lv.ix_S (pv 1) (pv 6) (fun _ _ => rfl)) (nomark _)) (pss_cons (ps_set (i := 9) nd rfl (by first | exact Or.inl rfl | exact Or.inr rfl) (pe_ix ix_list (pv 3) (pe_op op_sub (pe_op op_sub (pe_callB Lv.call_lenT (by rfl) T.z_len (by decide +kernel) (pa_cons (pv 0) pa_nil)) pe_int) (pv 8)) (fun _ _ => rfl))) (pss_one (ps_set (i := 4) nd rfl (by first | exact Or.inl rfl | exact Or.inr rfl) (pe_op op_add (pv 4) (pe_ix ix_list (pv 9) (pe_op op_sub (pe_op op_sub (pe_callB Lv.call_lenT (by rfl) T.z_len (by decide +kernel) (pa_cons (pv 1) pa_nil)) pe_int) (pv 6)) (fun _ _ => rfl)))))) pss_nil))) (pss_one (ps_set (i := 5) nd rfl (by first | exact Or.inl rfl | exact Or.inr rfl) (pe_op op_add (pv 7) pe_int))))) (pss_one (ps_ret (pv 4)))))))
theorem ok_law_right_3 (T : Txt K mg) : FnOk P w K mg base CX0 3 T.f_law_right_3 T.fd_law_right_3 ["row", "other", "place", "held"] (sp_law_right_3 K) := by
  have nd := sc_law_right_3.nd
  have G_way_at_0 := ok_way_at_0 (P := P) (w := w) (base := base) T
  have G_law_ahead_0 := ok_law_ahead_0 (P := P) (w := w) (base := base) T
  refine T.F_law_right_3.ok sc_law_right_3 (fun vs H Q E h => ?_) (fun cdv A outer s H vs Q E hr h => ⟨t_law_right_3 K, ?_, pure_law_right_3 vs H Q E h⟩)
  · unfold sp_law_right_3 at h
    repeat (first | (obtain ⟨rfl, _⟩ := h; rfl) | (obtain ⟨_, h⟩ := h))
  · unfold t_law_right_3
    exact (pss_cons (ps_set (i := 4) nd rfl (by first | exact Or.inl rfl | exact Or.inr rfl) (pe_call G_way_at_0 (hr.mono (by decide)) (by rfl) T.a_way_at_0 T.F_way_at_0.kp T.b_way_at_0 .nil pass0 (pa_cons (pv 0) (pa_cons (pv 1) (pa_cons (pv 2) pa_nil))))) (pss_cons (ps_if (PW.pt (pw_or (pt_not (pt_val (pe_callB call_isi (by rfl) T.z_isinstance (by decide +kernel) (pa_cons (pv 4) (pa_cons (pe_bltn (v := .ty "list") (u := .type "list") (by rfl) T.z_list (by decide +kernel) rfl) pa_nil))))) (pw_or1 (pt_cmpR Lv.op_neI (pe_callB call_len_seq (by rfl) T.z_len (by decide +kernel) (pa_cons (pv 4) pa_nil)) (pe_callB Lv.call_lenT (by rfl) T.z_len (by decide +kernel) (pa_cons (pv 1) pa_nil)) (nomark _))))) (pss_one (ps_ret pe_bl)) pss_nil) (pss_cons (ps_if (pt_cmpR (Lv.op_neL hr.units) (pe_lc (own := [("one", 6)]) (g := (gName 6)) (tt := (tOr (tNot (tB (tCB (L2.rIsi K) (tCons (tVar 6) (tCons (tC (.ty "int")) tNil))))) (tB (tCB (L2.rIsi K) (tCons (tVar 6) (tCons (tC (.ty "bool")) tNil)))))) (by rfl) nd (pi_list (pv 4)) (blkOk_by (own := [("one", 6)]) (N := N_law_right_3) (sc := defScope s_law_right_3) (by decide +kernel)) (fun _ _ _ _ _ => (pg_name (i := 6) nd rfl (by first | exact Or.inl rfl | exact Or.inr rfl))) (fun _ _ _ _ _ => (pts_one (PW.pt (pw_or (pt_not (pt_val (pe_callB call_isi (by rfl) T.z_isinstance (by decide +kernel) (pa_cons (pv 6) (pa_cons (pe_bltn (v := .ty "int") (u := .type "int") (by rfl) T.z_int (by decide +kernel) rfl) pa_nil))))) (pw_or1 (pt_val (pe_callB call_isi (by rfl) T.z_isinstance (by decide +kernel) (pa_cons (pv 6) (pa_cons (pe_bltn (v := .ty "bool") (u := .type "bool") (by rfl) T.z_bool (by decide +kernel) rfl) pa_nil))))))))) (fun _ _ _ _ _ => (pv 6))) (pe_lst pa_nil) (nomark _)) (pss_one (ps_ret pe_bl)) pss_nil) (pss_cons (ps_if (PW.pt (pw_or (pt_cmpR (Lv.op_neL hr.units) (pe_lc (own := [("one", 6), ("two", 7)]) (g := (gTup K 2 (gCons (gName 6) (gCons (gName 7) gNil)))) (tt := (tTest (tOp Lv.rGe (tVar 6) (tVar 7)))) (by rfl) nd (pi_zip (by rfl) T.z_zip (pa_cons (pv 4) (pa_cons (pe_slice sl_list (pv 4) (po_some pe_int) po_none) pa_nil))) (blkOk_by (own := [("one", 6), ("two", 7)]) (N := N_law_right_3) (sc := defScope s_law_right_3) (by decide +kernel)) (fun _ _ _ _ _ => (pg_tup (by rfl) (pgs_cons (pg_name (i := 6) nd rfl (by first | exact Or.inl rfl | exact Or.inr rfl)) (pgs_cons (pg_name (i := 7) nd rfl (by first | exact Or.inl rfl | exact Or.inr rfl)) pgs_nil)))) (fun _ _ _ _ _ => (pts_one (pt_cmpR op_ge (pv 6) (pv 7) (nomark _)))) (fun _ _ _ _ _ => pe_int)) (pe_lst pa_nil) (nomark _)) (pw_or1 (pt_cmpR op_lt (pe_callB (cr_min (by rfl)) (by rfl) T.z_min (by decide +kernel) (pa_cons (pe_op op_cat (pv 4) (pe_lst (pa_cons pe_int pa_nil))) pa_nil)) pe_int (nomark _))))) (pss_one (ps_ret pe_bl)) pss_nil) (pss_cons (ps_if (PW.pt (pw_or (pt_cmpR op_ge (pe_callB (cr_max (by rfl)) (by rfl) T.z_max (by decide +kernel) (pa_cons (pe_op op_cat (pe_lst (pa_cons pe_int pa_nil)) (pv 4)) pa_nil)) (pe_callB (Lv.call_maxI (by rfl)) (by rfl) T.z_max (by decide +kernel) (pa_cons pe_int (pa_cons (pe_callB Lv.call_lenT (by rfl) T.z_len (by decide +kernel) (pa_cons (pv 0) pa_nil)) pa_nil))) (nomark _)) (pw_or1 (pt_cmpR Lv.op_neS (pe_bm PySem.F.plainAttrs_str PySem.F.slot_str_join PySem.F.type_str_join Lv.mt_joinS (Lv.pe_strS (l := []) (by decide +kernel)) (pa_cons (pe_lc (own := [("one", 6)]) (g := (gName 6)) (tt := tYes) (by rfl) nd (pi_list (pv 4)) (blkOk_by (own := [("one", 6)]) (N := N_law_right_3) (sc := defScope s_law_right_3) (by decide +kernel)) (fun _ _ _ _ _ => (pg_name (i := 6) nd rfl (by first | exact Or.inl rfl | exact Or.inr rfl))) (fun _ _ _ _ _ => pts_nil) (fun _ _ _ _ _ => (pe_ix Lv.ix_S (pv 0) (pv 6) (fun _ _ => rfl)))) pa_nil)) (pv 1) (nomark _))))) (pss_one (ps_ret pe_bl)) pss_nil) (pss_cons (ps_if (pt_cmpR Lv.op_neI (pe_call G_law_ahead_0 (hr.mono (by decide)) (by rfl) T.a_law_ahead_0 T.F_law_ahead_0.kp T.b_law_ahead_0 .nil pass0 (pa_cons (pv 0) (pa_cons (pv 1) (pa_cons (pv 4) pa_nil)))) (pv 2) (nomark _)) (pss_one (ps_ret pe_bl)) pss_nil) (pss_cons (ps_expr (pe_bm PySem.F.plainAttrs_list PySem.F.slot_list_append PySem.F.type_list_append mt_append (pv 3) (pa_cons (pe_tup (pa_cons (pe_call G_way_at_0 (hr.mono (by decide)) (by rfl) T.a_way_at_0 T.F_way_at_0.kp T.b_way_at_0 .nil pass0 (pa_cons (pv 0) (pa_cons (pv 1) (pa_cons (pv 2) pa_nil)))) (pa_cons (pe_callTy call_list_of (by rfl) T.z_list (by decide +kernel) (pa_cons (pv 4) pa_nil)) pa_nil))) pa_nil))) (pss_cons (ps_set (i := 5) nd rfl (by first | exact Or.inl rfl | exact Or.inr rfl) (pe_callTy call_list_of (by rfl) T.z_list (by decide +kernel) (pa_cons (pv 4) pa_nil))) (pss_cons (ps_expr (pe_bm PySem.F.plainAttrs_list PySem.F.slot_list_append PySem.F.type_list_append mt_append (pv 4) (pa_cons pe_int pa_nil))) (pss_cons (ps_expr (pe_bm0 PySem.F.plainAttrs_list PySem.F.slot_list_reverse PySem.F.type_list_reverse mt_reverse (pv 4))) (pss_one (ps_ret (pe_cmpR (Lv.op_eqL hr.units) (pe_call G_way_at_0 (hr.mono (by decide)) (by rfl) T.a_way_at_0 T.F_way_at_0.kp T.b_way_at_0 .nil pass0 (pa_cons (pv 0) (pa_cons (pv 1) (pa_cons (pv 2) pa_nil)))) (pv 5) (nomark _))))))))))))))
theorem ok_law_k22 (T : Txt K mg) : FnOk P w K mg base CX0 4 T.f_law_k22 T.fd_law_k22 ["script"] (sp_law_k22 K) := by
  have nd := sc_law_k22.nd
  have G_way_at_0 := ok_way_at_0 (P := P) (w := w) (base := base) T
  have G_law_hand_1 := ok_law_hand_1 (P := P) (w := w) (base := base) T
  have G_law_draw_1 := ok_law_draw_1 (P := P) (w := w) (base := base) T
  have G_law_cells_0 := ok_law_cells_0 (P := P) (w := w) (base := base) T
  have G_law_pool_0 := ok_law_pool_0 (P := P) (w := w) (base := base) T
  have G_law_row_1 := ok_law_row_1 (P := P) (w := w) (base := base) T
  have G_law_size_1 := ok_law_size_1 (P := P) (w := w) (base := base) T
  have G_law_ways_0 := ok_law_ways_0 (P := P) (w := w) (base := base) T
  have G_law_right_3 := ok_law_right_3 (P := P) (w := w) (base := base) T
  refine T.F_law_k22.ok sc_law_k22 (fun vs H Q E h => ?_) (fun cdv A outer s H vs Q E hr h => ⟨t_law_k22 K, ?_, pure_law_k22 vs H Q E h⟩)
  · unfold sp_law_k22 at h
    repeat (first | (obtain ⟨rfl, _⟩ := h; rfl) | (obtain ⟨_, h⟩ := h))
  · unfold t_law_k22
    exact (pss_cons (ps_set (i := 1) nd rfl (by first | exact Or.inl rfl | exact Or.inr rfl) (pe_lst pa_nil)) (pss_cons (ps_for PassesOwn.never (by rfl) (pi_list (pe_call G_law_cells_0 (hr.mono (by decide)) (by rfl) T.a_law_cells_0 T.F_law_cells_0.kp T.b_law_cells_0 .nil pass0 (pa_cons (pv 0) (pa_cons pe_int pa_nil)))) (pg_tup (by rfl) (pgs_cons (pg_name (i := 2) nd rfl (by first | exact Or.inl rfl | exact Or.inr rfl)) (pgs_cons (pg_name (i := 3) nd rfl (by first | exact Or.inl rfl | exact Or.inr rfl)) pgs_nil))) (pss_cons (ps_set (i := 4) nd rfl (by first | exact Or.inl rfl | exact Or.inr rfl) (pe_call G_law_hand_1 (hr.mono (by decide)) (by rfl) T.a_law_hand_1 T.F_law_hand_1.kp T.b_law_hand_1 .nil pass0 (pa_cons (pv 3) (pa_cons (pv 2) pa_nil)))) (pss_cons (ps_set (i := 5) nd rfl (by first | exact Or.inl rfl | exact Or.inr rfl) (pe_call G_law_pool_0 (hr.mono (by decide)) (by rfl) T.a_law_pool_0 T.F_law_pool_0.kp T.b_law_pool_0 .nil pass0 (pa_cons (pv 4) pa_nil))) (pss_cons (ps_set (i := 6) nd rfl (by first | exact Or.inl rfl | exact Or.inr rfl) (pe_call G_law_row_1 (hr.mono (by decide)) (by rfl) T.a_law_row_1 T.F_law_row_1.kp T.b_law_row_1 .nil pass0 (pa_cons (pv 4) (pa_cons (pv 5) (pa_cons (pe_call G_law_size_1 (hr.mono (by decide)) (by rfl) T.a_law_size_1 T.F_law_size_1.kp T.b_law_size_1 .nil pass0 (pa_cons (pv 4) (pa_cons (pv 2) (pa_cons pe_int pa_nil)))) pa_nil))))) (pss_cons (ps_set (i := 7) nd rfl (by first | exact Or.inl rfl | exact Or.inr rfl) (pe_op op_add pe_int (pe_call G_law_draw_1 (hr.mono (by decide)) (by rfl) T.a_law_draw_1 T.F_law_draw_1.kp T.b_law_draw_1 .nil pass0 (pa_cons (pv 4) (pa_cons pe_int pa_nil))))) (pss_cons (ps_set (i := 8) nd rfl (by first | exact Or.inl rfl | exact Or.inr rfl) (pe_bm PySem.F.plainAttrs_str PySem.F.slot_str_join PySem.F.type_str_join Lv.mt_joinS (Lv.pe_strS (l := []) (by decide +kernel)) (pa_cons (pe_lc (own := [("letter", 13)]) (g := (gName 13)) (tt := (tTest (tOp Lv.rLt (tCall (sp_law_draw_1 K) [] E0 (tCons (tVar 4) (tCons (tC (.int 10)) tNil))) (tVar 7)))) (by rfl) nd (pi_str (pv 6)) (blkOk_by (own := [("letter", 13)]) (N := N_law_k22) (sc := defScope s_law_k22) (by decide +kernel)) (fun _ _ _ _ _ => (pg_name (i := 13) nd rfl (by first | exact Or.inl rfl | exact Or.inr rfl))) (fun _ _ _ _ _ => (pts_one (pt_cmpR op_lt (pe_call G_law_draw_1 (hr.mono (by decide)) (by rfl) T.a_law_draw_1 T.F_law_draw_1.kp T.b_law_draw_1 .nil pass0 (pa_cons (pv 4) (pa_cons pe_int pa_nil))) (pv 7) (nomark _)))) (fun _ _ _ _ _ => (pv 13))) pa_nil))) (pss_cons (ps_set (i := 9) nd rfl (by first | exact Or.inl rfl | exact Or.inr rfl) (pe_ix ix_list (pe_ix ix_list (pe_call G_law_ways_0 (hr.mono (by decide)) (by rfl) T.a_law_ways_0 T.F_law_ways_0.kp T.b_law_ways_0 .nil pass0 (pa_cons (pv 6) (pa_cons (pv 8) pa_nil))) (pe_un un_neg pe_int) (fun _ _ => rfl)) (pe_un un_neg pe_int) (fun _ _ => rfl))) (pss_cons (ps_set (i := 10) nd rfl (by first | exact Or.inl rfl | exact Or.inr rfl) (pe_op op_add (pe_op op_add (pe_op op_mul (pe_call G_law_draw_1 (hr.mono (by decide)) (by rfl) T.a_law_draw_1 T.F_law_draw_1.kp T.b_law_draw_1 .nil pass0 (pa_cons (pv 4) (pa_cons (pe_op op_pow pe_int pe_int) pa_nil))) (pe_op op_pow pe_int pe_int)) (pe_op op_mul (pe_call G_law_draw_1 (hr.mono (by decide)) (by rfl) T.a_law_draw_1 T.F_law_draw_1.kp T.b_law_draw_1 .nil pass0 (pa_cons (pv 4) (pa_cons (pe_op op_pow pe_int pe_int) pa_nil))) (pe_op op_pow pe_int pe_int))) (pe_call G_law_draw_1 (hr.mono (by decide)) (by rfl) T.a_law_draw_1 T.F_law_draw_1.kp T.b_law_draw_1 .nil pass0 (pa_cons (pv 4) (pa_cons (pe_op op_pow pe_int pe_int) pa_nil))))) (pss_cons (ps_set (i := 11) nd rfl (by first | exact Or.inl rfl | exact Or.inr rfl) (pe_ix ix_list (pe_lst (pa_cons (pe_op op_mod (pv 10) (pv 9)) (pa_cons (pe_op op_fdiv (pv 9) pe_int) (pa_cons (pe_op op_fdivW (pe_op op_mulW (pv 9) (pv 10)) (pe_op op_pow pe_int pe_int)) pa_nil)))) (pe_call G_law_draw_1 (hr.mono (by decide)) (by rfl) T.a_law_draw_1 T.F_law_draw_1.kp T.b_law_draw_1 .nil pass0 (pa_cons (pv 4) (pa_cons pe_int pa_nil))) (fun _ _ => rfl))) (pss_cons (ps_set (i := 12) nd rfl (by first | exact Or.inl rfl | exact Or.inr rfl) (pe_lst (pa_cons (pv 11) (pa_cons (pe_op op_mod (pe_op op_add (pv 11) pe_int) (pv 9)) (pa_cons pe_int (pa_cons (pe_op op_sub (pv 9) pe_int) pa_nil)))))) (Evl.pss_cut (ps_if (pt_cmpR op_lt (pv 9) pe_int (nomark _)) (pss_one (ps_set (i := 12) nd rfl (by first | exact Or.inl rfl | exact Or.inr rfl) (pe_listRg (by rfl) (by rfl) T.z_list (prg_1 (by rfl) T.z_range (pv 9))))) pss_nil) (pss_one (ps_if (pt_cmpR (Lv.op_neL hr.units) (pe_lc (own := [("place", 14)]) (g := (gName 14)) (tt := (tNot (tB (tCall (sp_law_right_3 K) [] E0 (tCons (tVar 6) (tCons (tVar 8) (tCons (tVar 14) (tCons (tVar 1) tNil)))))))) (by rfl) nd (pi_list (pv 12)) (blkOk_by (own := [("place", 14)]) (N := N_law_k22) (sc := defScope s_law_k22) (by decide +kernel)) (fun _ _ _ _ _ => (pg_name (i := 14) nd rfl (by first | exact Or.inl rfl | exact Or.inr rfl))) (fun _ _ _ _ _ => (pts_one (pt_not (pt_val (pe_call G_law_right_3 (hr.mono (by decide)) (by rfl) T.a_law_right_3 T.F_law_right_3.kp T.b_law_right_3 .nil pass0 (pa_cons (pv 6) (pa_cons (pv 8) (pa_cons (pv 14) (pa_cons (pv 1) pa_nil))))))))) (fun _ _ _ _ _ => (pv 14))) (pe_lst pa_nil) (nomark _)) (pss_one (ps_ret pe_bl)) pss_nil))))))))))))) (pss_cons (ps_if (PW.pt (pw_or (pt_cmpR (Lv.op_neL hr.units) (pe_call G_way_at_0 (hr.mono (by decide)) (by rfl) T.a_way_at_0 T.F_way_at_0.kp T.b_way_at_0 .nil pass0 (pa_cons (Lv.pe_strS (l := [97, 98, 97, 98]) (by decide +kernel)) (pa_cons (Lv.pe_strS (l := [97, 98]) (by decide +kernel)) (pa_cons pe_int pa_nil)))) (pe_lst (pa_cons pe_int (pa_cons pe_int pa_nil))) (nomark _)) (pw_or1 (pt_cmpR (Lv.op_neL hr.units) (pe_call G_way_at_0 (hr.mono (by decide)) (by rfl) T.a_way_at_0 T.F_way_at_0.kp T.b_way_at_0 .nil pass0 (pa_cons (Lv.pe_strS (l := []) (by decide +kernel)) (pa_cons (Lv.pe_strS (l := []) (by decide +kernel)) (pa_cons pe_int pa_nil)))) (pe_lst pa_nil) (nomark _))))) (pss_one (ps_ret pe_bl)) pss_nil) (pss_one (ps_ret (pe_cmpR (Lv.op_eqL hr.units) (pe_lc (own := [("one", 15)]) (g := (gName 15)) (tt := (tTest (tOp (Lv.rNeL K) (tOp (rIxT K) (tVar 15) (tC (.int 0))) (tOp (rIxT K) (tVar 15) (tC (.int 1)))))) (by rfl) nd (pi_list (pv 1)) (blkOk_by (own := [("one", 15)]) (N := N_law_k22) (sc := defScope s_law_k22) (by decide +kernel)) (fun _ _ _ _ _ => (pg_name (i := 15) nd rfl (by first | exact Or.inl rfl | exact Or.inr rfl))) (fun _ _ _ _ _ => (pts_one (pt_cmpR (Lv.op_neL hr.units) (pe_ix ix_tup (pv 15) pe_int (fun _ _ => rfl)) (pe_ix ix_tup (pv 15) pe_int (fun _ _ => rfl)) (nomark _)))) (fun _ _ _ _ _ => (pv 15))) (pe_lst pa_nil) (nomark _)))))))
end
theorem all_mk {l : PySem.W.OpenLaw} {w : World} {K : PySem.W.Frag} {h : Heap} {mg : Str → Option Value} {fa : Addr} (X : K.In h) (G : h.Ns mainGlobals mg) (hfa : mg "law" = some (.ref fa))
    {f0 : Addr} {od0 an0 : Option Addr} {sl0 : Array (Option Value)} {oc0 kV0 dc0 pm0 cd0 ct0 : Value}
    (a0 : PySem.W.nsIn K mainGlobals "ways_from" = some (some (.ref f0))) (l0 : K.lookup f0 = some ⟨oc0, od0, .func (PySem.W.fnOf "ways_from" "ways_from" (defArgs s_ways_from_0) (defBody s_ways_from_0) (defScope s_ways_from_0) .none kV0 dc0 pm0 an0 cd0 ct0), sl0⟩) (c0 : PySem.W.codeIn K cd0 "ways_from" = true) (k0 : PySem.W.keepIn K (.ref f0) = true)
    {f1 : Addr} {od1 an1 : Option Addr} {sl1 : Array (Option Value)} {oc1 kV1 dc1 pm1 cd1 ct1 : Value}
    (a1 : PySem.W.nsIn K mainGlobals "way_at" = some (some (.ref f1))) (l1 : K.lookup f1 = some ⟨oc1, od1, .func (PySem.W.fnOf "way_at" "way_at" (defArgs s_way_at_0) (defBody s_way_at_0) (defScope s_way_at_0) .none kV1 dc1 pm1 an1 cd1 ct1), sl1⟩) (c1 : PySem.W.codeIn K cd1 "way_at" = true) (k1 : PySem.W.keepIn K (.ref f1) = true)
    {f2 : Addr} {od2 an2 : Option Addr} {sl2 : Array (Option Value)} {oc2 kV2 dc2 pm2 cd2 ct2 : Value}
    (a2 : PySem.W.nsIn K mainGlobals "_law_hand" = some (some (.ref f2))) (l2 : K.lookup f2 = some ⟨oc2, od2, .func (PySem.W.fnOf "_law_hand" "_law_hand" (defArgs s_law_hand_1) (defBody s_law_hand_1) (defScope s_law_hand_1) .none kV2 dc2 pm2 an2 cd2 ct2), sl2⟩) (c2 : PySem.W.codeIn K cd2 "_law_hand" = true) (k2 : PySem.W.keepIn K (.ref f2) = true)
    {f3 : Addr} {od3 an3 : Option Addr} {sl3 : Array (Option Value)} {oc3 kV3 dc3 pm3 cd3 ct3 : Value}
    (a3 : PySem.W.nsIn K mainGlobals "_law_draw" = some (some (.ref f3))) (l3 : K.lookup f3 = some ⟨oc3, od3, .func (PySem.W.fnOf "_law_draw" "_law_draw" (defArgs s_law_draw_1) (defBody s_law_draw_1) (defScope s_law_draw_1) .none kV3 dc3 pm3 an3 cd3 ct3), sl3⟩) (c3 : PySem.W.codeIn K cd3 "_law_draw" = true) (k3 : PySem.W.keepIn K (.ref f3) = true)
    {f4 : Addr} {od4 an4 : Option Addr} {sl4 : Array (Option Value)} {oc4 kV4 dc4 pm4 cd4 ct4 : Value}
    (a4 : PySem.W.nsIn K mainGlobals "_law_cells" = some (some (.ref f4))) (l4 : K.lookup f4 = some ⟨oc4, od4, .func (PySem.W.fnOf "_law_cells" "_law_cells" (defArgs s_law_cells_0) (defBody s_law_cells_0) (defScope s_law_cells_0) .none kV4 dc4 pm4 an4 cd4 ct4), sl4⟩) (c4 : PySem.W.codeIn K cd4 "_law_cells" = true) (k4 : PySem.W.keepIn K (.ref f4) = true)
    {f5 : Addr} {od5 an5 : Option Addr} {sl5 : Array (Option Value)} {oc5 kV5 dc5 pm5 cd5 ct5 : Value}
    (a5 : PySem.W.nsIn K mainGlobals "_law_pool" = some (some (.ref f5))) (l5 : K.lookup f5 = some ⟨oc5, od5, .func (PySem.W.fnOf "_law_pool" "_law_pool" (defArgs s_law_pool_0) (defBody s_law_pool_0) (defScope s_law_pool_0) .none kV5 dc5 pm5 an5 cd5 ct5), sl5⟩) (c5 : PySem.W.codeIn K cd5 "_law_pool" = true) (k5 : PySem.W.keepIn K (.ref f5) = true)
    {f6 : Addr} {od6 an6 : Option Addr} {sl6 : Array (Option Value)} {oc6 kV6 dc6 pm6 cd6 ct6 : Value}
    (a6 : PySem.W.nsIn K mainGlobals "_law_row" = some (some (.ref f6))) (l6 : K.lookup f6 = some ⟨oc6, od6, .func (PySem.W.fnOf "_law_row" "_law_row" (defArgs s_law_row_1) (defBody s_law_row_1) (defScope s_law_row_1) .none kV6 dc6 pm6 an6 cd6 ct6), sl6⟩) (c6 : PySem.W.codeIn K cd6 "_law_row" = true) (k6 : PySem.W.keepIn K (.ref f6) = true)
    {f7 : Addr} {od7 an7 : Option Addr} {sl7 : Array (Option Value)} {oc7 kV7 dc7 pm7 cd7 ct7 : Value}
    (a7 : PySem.W.nsIn K mainGlobals "_law_size" = some (some (.ref f7))) (l7 : K.lookup f7 = some ⟨oc7, od7, .func (PySem.W.fnOf "_law_size" "_law_size" (defArgs s_law_size_1) (defBody s_law_size_1) (defScope s_law_size_1) .none kV7 dc7 pm7 an7 cd7 ct7), sl7⟩) (c7 : PySem.W.codeIn K cd7 "_law_size" = true) (k7 : PySem.W.keepIn K (.ref f7) = true)
    {f8 : Addr} {od8 an8 : Option Addr} {sl8 : Array (Option Value)} {oc8 kV8 dc8 pm8 cd8 ct8 : Value}
    (a8 : PySem.W.nsIn K mainGlobals "_law_ways" = some (some (.ref f8))) (l8 : K.lookup f8 = some ⟨oc8, od8, .func (PySem.W.fnOf "_law_ways" "_law_ways" (defArgs s_law_ways_0) (defBody s_law_ways_0) (defScope s_law_ways_0) .none kV8 dc8 pm8 an8 cd8 ct8), sl8⟩) (c8 : PySem.W.codeIn K cd8 "_law_ways" = true) (k8 : PySem.W.keepIn K (.ref f8) = true)
    {f9 : Addr} {od9 an9 : Option Addr} {sl9 : Array (Option Value)} {oc9 kV9 dc9 pm9 cd9 ct9 : Value}
    (a9 : PySem.W.nsIn K mainGlobals "_law_ahead" = some (some (.ref f9))) (l9 : K.lookup f9 = some ⟨oc9, od9, .func (PySem.W.fnOf "_law_ahead" "_law_ahead" (defArgs s_law_ahead_0) (defBody s_law_ahead_0) (defScope s_law_ahead_0) .none kV9 dc9 pm9 an9 cd9 ct9), sl9⟩) (c9 : PySem.W.codeIn K cd9 "_law_ahead" = true) (k9 : PySem.W.keepIn K (.ref f9) = true)
    {f10 : Addr} {od10 an10 : Option Addr} {sl10 : Array (Option Value)} {oc10 kV10 dc10 pm10 cd10 ct10 : Value}
    (a10 : PySem.W.nsIn K mainGlobals "_law_right" = some (some (.ref f10))) (l10 : K.lookup f10 = some ⟨oc10, od10, .func (PySem.W.fnOf "_law_right" "_law_right" (defArgs s_law_right_3) (defBody s_law_right_3) (defScope s_law_right_3) .none kV10 dc10 pm10 an10 cd10 ct10), sl10⟩) (c10 : PySem.W.codeIn K cd10 "_law_right" = true) (k10 : PySem.W.keepIn K (.ref f10) = true)
    {f11 : Addr} {od11 an11 : Option Addr} {sl11 : Array (Option Value)} {oc11 kV11 dc11 pm11 cd11 ct11 : Value}
    (a11 : PySem.W.nsIn K mainGlobals "law" = some (some (.ref f11))) (l11 : K.lookup f11 = some ⟨oc11, od11, .func (PySem.W.fnOf "law" "law" (defArgs s_law_k22) (defBody s_law_k22) (defScope s_law_k22) .none kV11 dc11 pm11 an11 cd11 ct11), sl11⟩) (c11 : PySem.W.codeIn K cd11 "law" = true) (k11 : PySem.W.keepIn K (.ref f11) = true)
    (z0 : PySem.W.nsIn K mainGlobals "bool" = some none)
    (z1 : PySem.W.nsIn K mainGlobals "enumerate" = some none)
    (z2 : PySem.W.nsIn K mainGlobals "int" = some none)
    (z3 : PySem.W.nsIn K mainGlobals "isinstance" = some none)
    (z4 : PySem.W.nsIn K mainGlobals "len" = some none)
    (z5 : PySem.W.nsIn K mainGlobals "list" = some none)
    (z6 : PySem.W.nsIn K mainGlobals "max" = some none)
    (z7 : PySem.W.nsIn K mainGlobals "min" = some none)
    (z8 : PySem.W.nsIn K mainGlobals "range" = some none)
    (z9 : PySem.W.nsIn K mainGlobals "zip" = some none) :
    ∃ fd : FuncData, (∀ (s : Shared) (v : Value), BindsTo s fd ⟨[v], []⟩ [("script", v)]) ∧ ∀ base : Heap, K.In base → base.Ns mainGlobals mg → FnOk l.prog w K mg base CX0 4 fa fd ["script"] (sp_law_k22 K) := by
  have e := hfa.symm.trans (PySem.W.mg_of X G a11)
  cases e
  have F0 := fun_mk (st := s_ways_from_0) l0 c0 k0
  have F1 := fun_mk (st := s_way_at_0) l1 c1 k1
  have F2 := fun_mk (st := s_law_hand_1) l2 c2 k2
  have F3 := fun_mk (st := s_law_draw_1) l3 c3 k3
  have F4 := fun_mk (st := s_law_cells_0) l4 c4 k4
  have F5 := fun_mk (st := s_law_pool_0) l5 c5 k5
  have F6 := fun_mk (st := s_law_row_1) l6 c6 k6
  have F7 := fun_mk (st := s_law_size_1) l7 c7 k7
  have F8 := fun_mk (st := s_law_ways_0) l8 c8 k8
  have F9 := fun_mk (st := s_law_ahead_0) l9 c9 k9
  have F10 := fun_mk (st := s_law_right_3) l10 c10 k10
  have F11 := fun_mk (st := s_law_k22) l11 c11 k11
  let T : Txt K mg := {
    f_ways_from_0 := f0,
    fd_ways_from_0 := _,
    F_ways_from_0 := F0,
    a_ways_from_0 := PySem.W.mg_of X G a0,
    b_ways_from_0 := F0.binds (ps := ["row", "other"]) fun _ _ _ _ _ _ us hl => match us, hl with | [_, _], _ => rfl,
    f_way_at_0 := f1,
    fd_way_at_0 := _,
    F_way_at_0 := F1,
    a_way_at_0 := PySem.W.mg_of X G a1,
    b_way_at_0 := F1.binds (ps := ["row", "other", "place"]) fun _ _ _ _ _ _ us hl => match us, hl with | [_, _, _], _ => rfl,
    f_law_hand_1 := f2,
    fd_law_hand_1 := _,
    F_law_hand_1 := F2,
    a_law_hand_1 := PySem.W.mg_of X G a2,
    b_law_hand_1 := F2.binds (ps := ["cell", "k"]) fun _ _ _ _ _ _ us hl => match us, hl with | [_, _], _ => rfl,
    f_law_draw_1 := f3,
    fd_law_draw_1 := _,
    F_law_draw_1 := F3,
    a_law_draw_1 := PySem.W.mg_of X G a3,
    b_law_draw_1 := F3.binds (ps := ["hand", "limit"]) fun _ _ _ _ _ _ us hl => match us, hl with | [_, _], _ => rfl,
    f_law_cells_0 := f4,
    fd_law_cells_0 := _,
    F_law_cells_0 := F4,
    a_law_cells_0 := PySem.W.mg_of X G a4,
    b_law_cells_0 := F4.binds (ps := ["script", "many"]) fun _ _ _ _ _ _ us hl => match us, hl with | [_, _], _ => rfl,
    f_law_pool_0 := f5,
    fd_law_pool_0 := _,
    F_law_pool_0 := F5,
    a_law_pool_0 := PySem.W.mg_of X G a5,
    b_law_pool_0 := F5.binds (ps := ["hand"]) fun _ _ _ _ _ _ us hl => match us, hl with | [_], _ => rfl,
    f_law_row_1 := f6,
    fd_law_row_1 := _,
    F_law_row_1 := F6,
    a_law_row_1 := PySem.W.mg_of X G a6,
    b_law_row_1 := F6.binds (ps := ["hand", "pool", "many"]) fun _ _ _ _ _ _ us hl => match us, hl with | [_, _, _], _ => rfl,
    f_law_size_1 := f7,
    fd_law_size_1 := _,
    F_law_size_1 := F7,
    a_law_size_1 := PySem.W.mg_of X G a7,
    b_law_size_1 := F7.binds (ps := ["hand", "k", "most"]) fun _ _ _ _ _ _ us hl => match us, hl with | [_, _, _], _ => rfl,
    f_law_ways_0 := f8,
    fd_law_ways_0 := _,
    F_law_ways_0 := F8,
    a_law_ways_0 := PySem.W.mg_of X G a8,
    b_law_ways_0 := F8.binds (ps := ["row", "other"]) fun _ _ _ _ _ _ us hl => match us, hl with | [_, _], _ => rfl,
    f_law_ahead_0 := f9,
    fd_law_ahead_0 := _,
    F_law_ahead_0 := F9,
    a_law_ahead_0 := PySem.W.mg_of X G a9,
    b_law_ahead_0 := F9.binds (ps := ["row", "other", "way"]) fun _ _ _ _ _ _ us hl => match us, hl with | [_, _, _], _ => rfl,
    f_law_right_3 := f10,
    fd_law_right_3 := _,
    F_law_right_3 := F10,
    a_law_right_3 := PySem.W.mg_of X G a10,
    b_law_right_3 := F10.binds (ps := ["row", "other", "place", "held"]) fun _ _ _ _ _ _ us hl => match us, hl with | [_, _, _, _], _ => rfl,
    f_law_k22 := _,
    fd_law_k22 := _,
    F_law_k22 := F11,
    z_bool := PySem.W.mg_none_of X G z0,
    z_enumerate := PySem.W.mg_none_of X G z1,
    z_int := PySem.W.mg_none_of X G z2,
    z_isinstance := PySem.W.mg_none_of X G z3,
    z_len := PySem.W.mg_none_of X G z4,
    z_list := PySem.W.mg_none_of X G z5,
    z_max := PySem.W.mg_none_of X G z6,
    z_min := PySem.W.mg_none_of X G z7,
    z_range := PySem.W.mg_none_of X G z8,
    z_zip := PySem.W.mg_none_of X G z9 }
  exact ⟨_, fun s v => .of_eq rfl, fun base _ _ => ok_law_k22 T⟩
end Lv
open PySem PySem.W PyProof.Rows
set_option maxHeartbeats 0 in
theorem PySem.Challenge.cw_leavings_k22_ways_in_order_holds : PySem.Challenge.rw_leavings_k22_ways_in_order.Holds := by
  w_on; o_law; k_head; (case hw => w_witness2)
  k_fill
  refine L2.walk_of (l := PySem.Challenge.rw_leavings_k22_ways_in_order) (n := 63) (k := 4) (x := "script") (CX := fun _ => L2.CX0) (sp := fun w => Lv.sp_law_k22 _) rfl (by decide) rfl ⟨rfl, by decide, by decide⟩ (fun w h Y => PySem.W.kIn_of Y) ?F (fun _ _ a ns hl _ hS => ⟨a, ns, rfl, hS, hl, fun _ => rfl⟩) (fun _ _ _ _ _ h => h)
  case F =>
    intro w mg fa h KX G hmg
    refine' Lv.all_mk KX G hmg ?a0 ?l0 ?c0 ?k0 ?a1 ?l1 ?c1 ?k1 ?a2 ?l2 ?c2 ?k2 ?a3 ?l3 ?c3 ?k3 ?a4 ?l4 ?c4 ?k4 ?a5 ?l5 ?c5 ?k5 ?a6 ?l6 ?c6 ?k6 ?a7 ?l7 ?c7 ?k7 ?a8 ?l8 ?c8 ?k8 ?a9 ?l9 ?c9 ?k9 ?a10 ?l10 ?c10 ?k10 ?a11 ?l11 ?c11 ?k11 ?z0 ?z1 ?z2 ?z3 ?z4 ?z5 ?z6 ?z7 ?z8 ?z9
    (case a0 => k_is); (case l0 => k_is); (case c0 => k_is); (case k0 => k_is); (case a1 => k_is); (case l1 => k_is); (case c1 => k_is); (case k1 => k_is); (case a2 => k_is); (case l2 => k_is); (case c2 => k_is); (case k2 => k_is); (case a3 => k_is); (case l3 => k_is); (case c3 => k_is); (case k3 => k_is); (case a4 => k_is); (case l4 => k_is); (case c4 => k_is); (case k4 => k_is); (case a5 => k_is); (case l5 => k_is); (case c5 => k_is); (case k5 => k_is); (case a6 => k_is); (case l6 => k_is); (case c6 => k_is); (case k6 => k_is); (case a7 => k_is); (case l7 => k_is); (case c7 => k_is); (case k7 => k_is); (case a8 => k_is); (case l8 => k_is); (case c8 => k_is); (case k8 => k_is); (case a9 => k_is); (case l9 => k_is); (case c9 => k_is); (case k9 => k_is); (case a10 => k_is); (case l10 => k_is); (case c10 => k_is); (case k10 => k_is); (case a11 => k_is); (case l11 => k_is); (case c11 => k_is); (case k11 => k_is); (case z0 => k_is); (case z1 => k_is); (case z2 => k_is); (case z3 => k_is); (case z4 => k_is); (case z5 => k_is); (case z6 => k_is); (case z7 => k_is); (case z8 => k_is); (case z9 => k_is)
